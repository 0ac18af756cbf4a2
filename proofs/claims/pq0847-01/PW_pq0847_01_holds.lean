import PyProof.Rows.All
import Wide.All
import OpenK.AllK
import Wide.FinOn
import PyProof.ReprLen
import PySem.Challenge.RW_pq0847_01
open PySem PySem.W PyProof.Rows
set_option Elab.async false
set_option maxRecDepth 100000
set_option linter.unusedVariables false
set_option linter.unusedSectionVars false
set_option linter.unusedSimpArgs false
set_option genSizeOfSpec false
set_option genInjectivity false
set_option genSizeOf false
set_option tactic.hygienic false
namespace Mine
noncomputable abbrev P:Program:=PySem.Challenge.pw_pq0847_01
structure FnSum where
 name:Str
 qual:Str
 params:Arguments
 body:FuncBody
 scope:Scope
 globals:Addr
 closure:List (Str×Addr)
 dflts:List Value
 kwd:Value
 builtins:Addr
theorem nn {α:Type} {a:α} {p:Prop} (h:Option.none=some a):p:=by cases h
theorem ff {p:Prop} (h:false=true):p:=by cases h
theorem ddt {h:Heap} {a:Addr} {o o':Obj} {d d':Data} (ho:h.get? a=some o) (ho':h.get? a=some o') (hd:o.data=d) (hd':o'.data=d'):d=d':=by
 rw [ho] at ho';cases ho';exact hd▸hd'
theorem sj {α:Type} {a b:α} (h:some a=some b):a=b:=by cases h;rfl
noncomputable def Zgb (v:Value):Option Addr:=match v with| .ref a=>some a|_=>none
noncomputable def vStr (v:Value):Option Str:=match v with| .str q _=>some q|_=>none
noncomputable def vInt (v:Value):Option Int:=match v with| .int i _=>some i|_=>none
noncomputable def vNone (v:Value):Bool:=match v with| .none=>true|_=>false
noncomputable def Zg5 (d:Data):Option (Array Value):=match d with| .seq l _=>some l|_=>none
noncomputable def Zi7 (d:Data):Option (Array Value):=match d with| .fields l=>some l|_=>none
noncomputable def Zhr (d:Data):Option FuncData:=match d with| .func f=>some f|_=>none
noncomputable def Z6K (v:Value):Value:=match vInt v with|some i=>.int i 0|none=>(match vStr v with|some s=>.str s 0|none=>v)
noncomputable def Z26 (h:Heap) (v:Value):Option (List Value):=match vNone v with
 |true=>some []
 |false=>(Zgb v).bind fun t=>(h.get? t).bind fun o=>(Zg5 o.data).bind fun l=>some (l.toList.map Z6K)
noncomputable def Z49 (h:Heap) (v:Value):Option Str:=(Zgb v).bind fun c=>(h.get? c).bind fun o=>(Zi7 o.data).bind fun vs=>(vs[1]?).bind vStr
noncomputable def Zbe (h:Heap) (a:Addr):Option (FnSum×Str):=(h.get? a).bind fun o=>(Zhr o.data).bind fun fd=>(Z49 h fd.code).bind fun q=>(Z26 h fd.defaults).bind fun ds=>
 some (⟨fd.name,fd.qualname,fd.params,fd.body,fd.scope,fd.globals,fd.closure,ds,fd.kwdefaults,fd.builtins⟩,q)
noncomputable def fnD (s:Stmt):Option (Str×Arguments×List Stmt×Scope):=match s with
 | .FunctionDef n ps b _ _ _ sc _ _ _=>some (n,ps,b,sc)
 |_=>none
noncomputable def Zgn (ds:List Value) (s:Stmt):Option (FnSum×Str):=(fnD s).bind fun q=>some (⟨q.1,q.1,q.2.1,.stmts q.2.2.1,q.2.2.2,mainGlobals,[],ds,.none,builtinsNs⟩,q.1)
theorem bnd {α β:Type} {x:Option α} {f:α→Option β} {b:β} (h:x.bind f=some b):∃a,x=some a∧f a=some b:=Option.bind_eq_some_iff.1 h
theorem Z7d {v:Value} {a:Addr} (h:Zgb v=some a):v=.ref a:=by
 cases v with
 |ref b=>exact congrArg _ (sj h)
 |_=>exact nn h
theorem Zao {v:Value} {q:Str} (h:vStr v=some q):∃t,v=.str q t:=by
 cases v with
 |str b t=>exact ⟨t,sj h▸rfl⟩
 |_=>exact nn h
theorem Z8x {v:Value} (h:vNone v=true):v=.none:=by
 cases v with
 |none=>rfl
 |_=>exact ff h
theorem Zbi {d:Data} {l:Array Value} (h:Zg5 d=some l):∃n,d=.seq l n:=by
 cases d with
 |seq b t=>exact ⟨t,sj h▸rfl⟩
 |_=>exact nn h
theorem Zbk {d:Data} {l:Array Value} (h:Zi7 d=some l):d=.fields l:=by
 cases d with
 |fields b=>exact congrArg _ (sj h)
 |_=>exact nn h
theorem Zbj {d:Data} {l:FuncData} (h:Zhr d=some l):d=.func l:=by
 cases d with
 |func b=>exact congrArg _ (sj h)
 |_=>exact nn h
noncomputable def fnTab:List (Str×Addr×Nat):=([
 ("is_name_start",53,4),
 ("is_name_sign",60,5),
 ("read_name",67,6),
 ("op_level",74,8),
 ("is_negative",81,9),
 ("own_level",88,10),
 ("escaped_text",95,11),
 ("quote_text",102,12),
 ("literal_text",109,13),
 ("constant_text",116,14),
 ("is_plain_name",123,15),
 ("written_type",130,16),
 ("list_text",135,17),
 ("base_text",142,18),
 ("class_text",149,19),
 ("class_operand",156,20),
 ("member_name_text",163,21),
 ("variable_text",170,22),
 ("args_text",177,23),
 ("key_ahead",184,24),
 ("array_text",191,25),
 ("targets_text",198,26),
 ("template_text",205,27),
 ("param_text",211,28),
 ("params_text",216,29),
 ("block_text",223,30),
 ("closure_text",230,31),
 ("arrow_text",237,32),
 ("heritage_text",244,33),
 ("new_text",249,34),
 ("match_text",254,35),
 ("prefix_text",261,36),
 ("two_text",268,37),
 ("binary_text",275,38),
 ("assign_text",282,39),
 ("place_text",289,40),
 ("call_text",296,41),
 ("yield_text",303,42),
 ("word_text",310,43),
 ("other_text",317,44),
 ("expr_text",325,45),
 ("_law_draw",332,47),
 ("_law_told",339,48),
 ("_law_ops",346,49),
 ("_law_leaf",353,50),
 ("_law_target",360,51),
 ("_law_goals",367,52),
 ("_law_args",374,53),
 ("_law_tree",381,54),
 ("_law_more",388,55),
 ("_law_is_letter",395,56),
 ("_law_quoted",402,57),
 ("_law_run",409,58),
 ("_law_sign",416,59),
 ("_law_tokens",423,60),
 ("_law_casts",430,61),
 ("_law_next",437,62),
 ("_law_take",444,63),
 ("_law_step",451,64),
 ("_law_level",458,65),
 ("_law_expr",465,66),
 ("_law_unary",472,67),
 ("_law_yield",479,68),
 ("_law_as_goals",486,69),
 ("_law_items",493,70),
 ("_law_call_args",500,71),
 ("_law_match",507,72),
 ("_law_atom",512,73),
 ("_law_operand",519,74),
 ("law",524,75)]:List (String×Nat×Nat)).map fun x=>(Str.ofString x.1,x.2.1,x.2.2)
noncomputable def Z2G (i:Nat):List Value:=if i=45 then [.int 0 0,.none,.int 0 0] else if i=28 then [.none,.int 0 0] else []
noncomputable def Z9R (i:Nat):Option (FnSum×Str):=(P.main.body[i]?).bind (Zgn (Z2G i))
noncomputable def view:Program:={P with main:={P.main with body:=P.main.body.drop 75}}
noncomputable def loose:List Str:=(["PhpFault","Misused","is_name_start","is_name_sign","read_name","op_level","is_negative","own_level","escaped_text","quote_text","literal_text","constant_text","is_plain_name","written_type","list_text","base_text","class_text","class_operand","member_name_text","variable_text","args_text","key_ahead","array_text","targets_text","template_text","param_text","params_text","block_text","closure_text","arrow_text","heritage_text","new_text","match_text","prefix_text","two_text","binary_text","assign_text","place_text","call_text","yield_text","word_text","other_text","expr_text","_law_draw","_law_told","_law_ops","_law_leaf","_law_target","_law_goals","_law_args","_law_tree","_law_more","_law_is_letter","_law_quoted","_law_run","_law_sign","_law_tokens","_law_casts","_law_next","_law_take","_law_step","_law_level","_law_expr","_law_unary","_law_yield","_law_as_goals","_law_items","_law_call_args","_law_match","_law_atom","_law_operand"]:List String).map Str.ofString
theorem Z65 {h:Heap} {v:Value} {ds:List Value} (e:Z26 h v=some ds):(v=.none∧ds=[])∨∃t o l,v=.ref t∧h.get? t=some o∧Zg5 o.data=some l∧ds=l.toList.map Z6K:=by
 unfold Z26 at e
 cases hv:vNone v with
 |true=>rw [hv] at e;exact .inl ⟨Z8x hv,(sj e).symm⟩
 |false=>
  rw [hv] at e
  obtain ⟨t,e1,e⟩:=bnd e
  obtain ⟨o,e2,e⟩:=bnd e
  obtain ⟨l,e3,e⟩:=bnd e
  exact .inr ⟨t,o,l,Z7d e1,e2,e3,(sj e).symm⟩
theorem Zbm {h:Heap} {v:Value} {q:Str} (e:Z49 h v=some q):∃c o vs t,v=.ref c∧h.get? c=some o∧o.data=.fields vs∧vs[1]? =some (.str q t):=by
 obtain ⟨c,e1,e⟩:=bnd e
 obtain ⟨o,e2,e⟩:=bnd e
 obtain ⟨vs,e3,e⟩:=bnd e
 obtain ⟨u,e4,e⟩:=bnd e
 obtain ⟨t,rfl⟩:=Zao e
 exact ⟨c,o,vs,t,Z7d e1,e2,Zbk e3,e4⟩
theorem Z66 {h h':Heap} (k:∀b o,h.get? b=some o→h'.get? b=some o) {v:Value} {ds:List Value} (e:Z26 h v=some ds):Z26 h' v=some ds:=by
 rcases Z65 e with ⟨rfl,rfl⟩|⟨t,o,l,rfl,e2,e3,rfl⟩
 ·rfl
 ·show (h'.get? t).bind _=_
  rw [k _ _ e2]
  show (Zg5 o.data).bind _=_
  rw [e3];rfl
theorem Z71 {h h':Heap} (k:∀b o,h.get? b=some o→h'.get? b=some o) {v:Value} {q:Str} (e:Z49 h v=some q):Z49 h' v=some q:=by
 obtain ⟨c,e1,e⟩:=bnd e
 obtain ⟨o,e2,e⟩:=bnd e
 unfold Z49
 rw [e1]
 show (h'.get? c).bind _=_
 rw [k _ _ e2];exact e
theorem Z5b {h:Heap} {a:Addr} {y:FnSum×Str} (e:Zbe h a=some y):∃o fd q ds,h.get? a=some o∧o.data=.func fd∧Z49 h fd.code=some q∧Z26 h fd.defaults=some ds∧
  (⟨fd.name,fd.qualname,fd.params,fd.body,fd.scope,fd.globals,fd.closure,ds,fd.kwdefaults,fd.builtins⟩,q)=y:=by
 obtain ⟨o,e1,e⟩:=bnd e
 obtain ⟨fd,e2,e⟩:=bnd e
 obtain ⟨q,e3,e⟩:=bnd e
 obtain ⟨ds,e4,e⟩:=bnd e
 exact ⟨o,fd,q,ds,e1,Zbj e2,e3,e4,sj e⟩
theorem Z9T {h h':Heap} (k:∀b o,h.get? b=some o→h'.get? b=some o) {a:Addr} {y:FnSum×Str} (e:Zbe h a=some y):Zbe h' a=some y:=by
 obtain ⟨o,fd,q,ds,e1,e2,e3,e4,rfl⟩:=Z5b e
 unfold Zbe
 rw [k _ _ e1]
 show (Zhr o.data).bind _=_
 rw [e2]
 show (Z49 h' fd.code).bind _=_
 rw [Z71 k e3]
 show (Z26 h' fd.defaults).bind _=_
 rw [Z66 k e4];rfl
noncomputable def ZfL (h:Heap):Prop:=(∃mg,h.Ns mainGlobals mg∧∀x∈fnTab,mg x.1=some (.ref x.2.1))∧∀x∈fnTab,∃y,Z9R x.2.2=some y∧Zbe h x.2.1=some y
theorem ZfL.keeps {h h':Heap} (s:ZfL h) (k:∀b o,h.get? b=some o→h'.get? b=some o):ZfL h':=by
 obtain ⟨⟨mg,a,b⟩,c⟩:=s
 refine ⟨⟨mg,a.keeps k,b⟩,fun x hx=>?_⟩
 obtain ⟨y,e,f⟩:=c x hx
 exact ⟨y,e,Z9T k f⟩
noncomputable def Hk:Hook where
 α:=Bool×List (Option Value)×List (Option (FnSum×Str))×List Bool
 obs s:=(s.heap.isNs mainGlobals,fnTab.map fun x=>s.heap.nsMap mainGlobals x.1,fnTab.map fun x=>Zbe s.heap x.2.1,fnTab.map fun x=>(Z9R x.2.2).isSome)
 val _:=(true,fnTab.map fun x=>some (.ref x.2.1),fnTab.map fun x=>Z9R x.2.2,fnTab.map fun _=>true)
 says _ h:=ZfL h
 of w s e:=by
  simp only [Prod.mk.injEq,List.map_inj_left] at e
  obtain ⟨e1,e2,e3,e4⟩:=e
  refine ⟨⟨_,.of_isNs e1,e2⟩,fun x hx=>?_⟩
  obtain ⟨y,hy⟩:=Option.isSome_iff_exists.mp (e4 x hx)
  exact ⟨y,hy,(e3 x hx).trans hy⟩
 keeps _ _ _ s k:=s.keeps k
abbrev rr:OpenRow:=PySem.Challenge.rw_pq0847_01.row
noncomputable abbrev Xt (s:Shared):Bool:=xlAt view [] s&&recOk (RowW.records rr.toRowW) s
noncomputable abbrev ZfY:List Str:=importedModules P.main.body
set_option maxHeartbeats 0 in
theorem Z8a:∀(w:World) (os:OsState),
  (PySem.W.Fast.tw14082659384304107361 PySem.W.Fast.tw14364793385576792824 P w 11 (some (.ref 6)) 2800 ⟨boot_heap w.params,Array.mk [],boot_drawn,boot_toks,os⟩ (topStub P)).map
   (fun s=>((staticsOk ZfY (boot_heap w.params) s.heap&&namesBound P s.heap&&gensDone s&&laidKept (boot_heap w.params) s.heap),
    PySem.W.Fast.tw4187177175401517315 view loose ZfY Xt true s,Hk.obs s))=some (true,openGood view loose,Hk.val w):=by
 intro w os
 kernel_rfl
end Mine
namespace Mine
theorem Z90 (w:World) (os:OsState):
  (topRun treeTable P w 11 (some (.ref 6)) 2800 ⟨boot_heap w.params,Array.mk [],boot_drawn,boot_toks,os⟩ (topStub P)).map
   (fun s=>((staticsOk ZfY (boot_heap w.params) s.heap&&namesBound P s.heap&&gensDone s&&laidKept (boot_heap w.params) s.heap),
    openSeen view loose ZfY Xt true s,Hk.obs s))=some (true,openGood view loose,Hk.val w):=by
 rw [PySem.W.Fast.te14082659384304107361,PySem.W.Fast.te14364793385576792824,PySem.W.Fast.te4187177175401517315]
 exact Z8a w os
theorem ZgL:opening P=plainProg P.main.scope.names:=by kernel_rfl
theorem Zfm:∀s,fenceModules? P s=some s:=fun s=>by kernel_rfl
theorem Zgs:∀w:World,((boot_heap w.params).isNs mainGlobals&&(Array.mk []:Array GenState).size==0,(boot_heap w.params).objs.size,(boot_heap w.params).nsMap mainGlobals "__annotations__")=(true,11,some (.ref 6)):=fun w=>by kernel_rfl
theorem Zd3 {p q:Program} {loose:List Str} {Xt:Shared→Bool} {α:Type} {Yf:Shared→α} {Ya:World→α} {N:Nat} {g0:Bool} {H₀:Params→Heap} {gs₀:Array GenState} {d₀:Drawn} {k₀:Nat} {m₀:Nat} {ann:Option Value}
  (open_:∀w:World,(fencedOpening treeTable p w N).map (fun s=>(s.heap,s.gens,s.drawn,s.toks))=some (H₀ w.params,gs₀,d₀,k₀))
  (size:∀w:World,((H₀ w.params).isNs mainGlobals&&gs₀.size==0,(H₀ w.params).objs.size,(H₀ w.params).nsMap mainGlobals "__annotations__")=(true,m₀,ann))
  (run:∀(w:World) (os:OsState),(topRun treeTable p w m₀ ann N ⟨H₀ w.params,gs₀,d₀,k₀,os⟩ (topStub p)).map
   (fun s=>((staticsOk (importedModules p.main.body) (H₀ w.params) s.heap&&namesBound p s.heap&&gensDone s&&laidKept (H₀ w.params) s.heap),
    openSeen q loose (importedModules p.main.body) Xt g0 s,Yf s))=some (true,openGood q loose,Ya w)):LeftO p q loose Xt Yf Ya N g0:=fun w=>by
 obtain ⟨⟨h,gs,d,k,os⟩,e,e'⟩:=Option.map_eq_some_iff.mp (open_ w)
 obtain ⟨rfl,rfl,rfl,rfl⟩:h=H₀ w.params∧gs=gs₀∧d=d₀∧k=k₀:=by simpa using e'
 obtain ⟨z1,z2,z3⟩:_∧_∧_:=by simpa only [Prod.mk.injEq] using size w
 obtain ⟨s₁,r,l⟩:=Option.map_eq_some_iff.mp (run w os)
 obtain ⟨l1,l2,l3⟩:_∧_∧_:=by simpa only [Prod.mk.injEq] using l
 have t:topFrom treeTable p w N ⟨H₀ w.params,gs,d,k,os⟩=some s₁:=by
  unfold topFrom
  dsimp only
  rw [z1,z2,z3,r]
  show (match staticsOk (importedModules p.main.body) (H₀ w.params) s₁.heap&&namesBound p s₁.heap&&gensDone s₁&&laidKept (H₀ w.params) s₁.heap with|true=>_|false=>_)=_
  rw [l1]
 unfold openEnds
 rw [e]
 show (topFrom treeTable p w N _).map _=_
 rw [t]
 exact congrArg some (Prod.ext l2 l3)
theorem left:LeftO P view loose Xt Hk.obs Hk.val 2800 true:=Zd3 (boot_open ZgL (by decide) Zfm) Zgs Z90
noncomputable def Zb7:Stmt:=(P.main.body[75]?).getD (.Pass ⟨0,0,0,0⟩)
noncomputable def ZaC:Stmt→Arguments| .FunctionDef _ a _ _ _ _ _ _ _ _=>a|_=>⟨[],[],none,[],[],none,[]⟩
noncomputable def Ze2:Stmt→List Stmt| .FunctionDef _ _ b _ _ _ _ _ _ _=>b|_=>[]
noncomputable def Zcq:Stmt→Scope| .FunctionDef _ _ _ _ _ _ s _ _ _=>s|_=>default
noncomputable def Zgq:Stmt→Pos| .FunctionDef _ _ _ _ _ _ _ _ _ p=>p|_=>⟨0,0,0,0⟩
noncomputable def Z3T:DefRec:=⟨Str.ofString "law",ZaC Zb7,Ze2 Zb7,Zcq Zb7,Zgq Zb7⟩
theorem ZiE:defOf view rr.name=some (Z3T,[]):=by kernel_rfl
theorem ZiD:rr.prog.theDef rr.name=some (Z3T.params,Z3T.body,Z3T.scope):=by kernel_rfl
theorem hkw:kwWritten? Z3T.params.kwonlyargs Z3T.params.kw_defaults=some []:=by kernel_rfl
theorem hok:(chainsOk view&&opensWell rr.prog&&(frees rr.toRowW&&rr.within.isEmpty))=true:=by kernel_rfl
theorem Zh4:rr.prog.bare:=⟨rfl,rfl,rfl,rfl,rfl,by decide+kernel⟩
theorem Zh3:rr.toRowW.promised:=by w_witness2
end Mine
namespace Mine
theorem ZX {a b:Bool} (x:a=true) (y:b=true):(a&&b)=true:=by rw [x,y];rfl
noncomputable abbrev Z8b:OpenRow:=PySem.W.Fast.tw2368527892694137696 PySem.Challenge.rw_pq0847_01
theorem Zgv:PySem.W.Fast.tw8377067652309620493 Z8b.prog=true:=by kernel_rfl
theorem Zgy:(PySem.W.Fast.tw17119622794617984870 Z8b.prog Z8b.prog.main.body fun _ n=>PySem.W.Fast.tw17868728402115742887 n)=true:=by kernel_rfl
theorem Zgz:PySem.W.Fast.tw12908688711261696721 Z8b.prog=true:=by
 delta PySem.W.Fast.tw12908688711261696721
 refine ZX (ZX (ZX (ZX (ZX ?_ ?_) Zgv) ?_) ?_) Zgy<;>kernel_rfl
theorem Zgw:PySem.W.Fast.tw2436336058641802641 Z8b=true:=by
 delta PySem.W.Fast.tw2436336058641802641
 refine ZX (ZX (ZX (ZX (ZX (ZX (ZX (ZX (ZX (ZX (ZX (ZX (ZX Zgz ?_) ?_) ?_) ?_) ?_) ?_) ?_) ?_) ?_) ?_) ?_) ?_) ?_<;>kernel_rfl
theorem Zgx:PySem.W.Fast.tw17960256430627541270 Z8b=true:=by
 delta PySem.W.Fast.tw17960256430627541270
 refine ZX (ZX Zgw ?_) ?_<;>kernel_rfl
theorem ZgA:PySem.W.Fast.tw9446332074065402090 PySem.Challenge.rw_pq0847_01=true:=by
 delta PySem.W.Fast.tw9446332074065402090
 refine ZX (ZX (ZX (ZX (ZX (ZX (ZX (ZX (ZX (ZX (ZX (ZX (ZX (ZX (ZX (ZX (ZX (ZX Zgx ?_) ?_) ?_) ?_) ?_) ?_) ?_) ?_) ?_) ?_) ?_) ?_) ?_) ?_) ?_) ?_) ?_) ?_<;>kernel_rfl
theorem Zio:PySem.Challenge.rw_pq0847_01.wellSaid=true:=by
 rw [PySem.W.Fast.te9446332074065402090];exact ZgA
theorem head (call:WalkO view loose (XL view []) Hk.says rr.toRowW Z3T [] fun f vs=>PySem.call f vs):PySem.Challenge.rw_pq0847_01.Holds:=
 holds_law Zio fun h=>holds_open (r:=rr) (q:=view) (loose:=loose) (Xt:=Xt) (XP:=XL view []) (Yf:=Hk.obs) (Ya:=Hk.val) (YP:=Hk.says) (N:=2800)
  left Hk.of Hk.keeps (fun s e=>xl_of s (Bool.and_eq_true_iff.mp e).1) XL.keeps ZiE ZiD hkw (fun s e=>recFacts_of (Bool.and_eq_true_iff.mp e).2) rfl h hok Zh4 Zh3 call
end Mine
namespace Mine
inductive MV where
 |none
 |bool (b:Bool)
 |int (i:Int)
 |str (s:List Nat)
 |tup (l:List MV)
 |lst (a:Addr)
 |fl (l:List MV)
 |dict (kvs:List (List Nat×MV))
 |rng (n:Int)
set_option genCtorIdx false in
inductive Pr where
 |add|iadd|sub|mul|fdiv|mod
 |eq|ne|lt|le|gt|ge
 |isNone|notNone|inn|notb
 |mkTup|mkFl|mkList|mkDict (keys:List (List Nat))
 |getitem|slice
 |len|ord|isBool|isStr|isBoolStr|strOf|repr|tuple|max|range
 |lower|replace (a b:List Nat)|join|startswith|index|append|dget|islst|isdict
inductive CE where
 |var (i:Nat)
 |cst (v:MV)
 |pr (p:Pr) (args:List CE)
 |cond (t a b:CE)
 |andd (a b:CE)
 |orr (a b:CE)
 |chain (o1 o2:Pr) (a b c:CE)
 |call (f:Nat) (args:List CE)
 |comp (x:Nat) (elt iter:CE)
inductive CS where
 |expr (e:CE)
 |assign (x:Nat) (e:CE)
 |unpack (xs:List Nat) (e:CE)
 |setidx (l i e:CE)
 |ret (e:CE)
 |ite (t:CE) (a b:List CS)
 |while (t:CE) (body:List CS)
 |for (x:Nat) (iter:CE) (body:List CS)
 |forT (xs:List Nat) (iter:CE) (body:List CS)
 |bad
noncomputable def dictMarks:List (List Nat):=[[97,110,100],[112,114,105,110,116],[105,110,116],[120,111,114],[38,38],[110,117,108,108]]
noncomputable abbrev Z4:=Addr→Option (List MV)
noncomputable abbrev Loc:=List (Option MV)
noncomputable abbrev ZT:=MV→Z4→Prop
noncomputable def upd (σ:Z4) (a:Addr) (l:List MV):Z4:=fun b=>if b=a then some l else σ b
@[simp] theorem Z9 (σ:Z4) (a l):upd σ a l a=some l:=if_pos rfl
theorem Zp {σ:Z4} {a b:Addr} {l} (h:b≠a):upd σ a l b=σ b:=if_neg h
@[simp] theorem Z0A (σ:Z4) (a l l'):upd (upd σ a l) a l'=upd σ a l':=by
 funext b;unfold upd;split<;>rfl
noncomputable def SL:Nat:=16777216
noncomputable def pyIdx (i:Int) (n:Nat):Option Nat:=
 if 0≤i then (if i<n then some i.toNat else none) else (if 0≤i+n then some (i+n).toNat else none)
noncomputable def pyBnd (n d:Nat):MV→Nat
 | .int i=>if 0≤i then min i.toNat n else (i+n).toNat
 |_=>d
noncomputable def Z1s {α:Type} (l:List α) (lo hi:MV):List α:=(l.take (pyBnd l.length l.length hi)).drop (pyBnd l.length 0 lo)
noncomputable def Z0G:MV→Bool
 | .none=>true
 | .int i=>decide (0≤i)
 |_=>false
noncomputable def Z1z:MV→Bool
 | .none=>true
 | .int i=>decide (-1≤i)
 |_=>false
noncomputable def MV.s?:MV→Option (List Nat)| .str a=>some a|_=>Option.none
noncomputable def MV.i?:MV→Option Int| .int a=>some a|_=>Option.none
noncomputable def MV.t?:MV→Option (List MV)| .tup a=>some a|_=>Option.none
noncomputable def MV.f?:MV→Option (List MV)| .fl a=>some a|_=>Option.none
noncomputable def MV.d?:MV→Option (List (List Nat×MV))| .dict a=>some a|_=>Option.none
noncomputable def MV.b?:MV→Option Bool| .bool a=>some a|_=>Option.none
theorem MV.s_inv {v:MV} {a} (h:v.s? =some a):v=.str a:=by
 cases v with
 |str b=>exact congrArg MV.str (Option.some.inj h)
 |_=>exact nn h
theorem MV.i_inv {v:MV} {a} (h:v.i? =some a):v=.int a:=by
 cases v with
 |int b=>exact congrArg MV.int (Option.some.inj h)
 |_=>exact nn h
theorem MV.t_inv {v:MV} {a} (h:v.t? =some a):v=.tup a:=by
 cases v with
 |tup b=>exact congrArg MV.tup (Option.some.inj h)
 |_=>exact nn h
theorem MV.f_inv {v:MV} {a} (h:v.f? =some a):v=.fl a:=by
 cases v with
 |fl b=>exact congrArg MV.fl (Option.some.inj h)
 |_=>exact nn h
theorem MV.d_inv {v:MV} {a} (h:v.d? =some a):v=.dict a:=by
 cases v with
 |dict b=>exact congrArg MV.dict (Option.some.inj h)
 |_=>exact nn h
theorem MV.b_inv {v:MV} {a} (h:v.b? =some a):v=.bool a:=by
 cases v with
 |bool b=>exact congrArg MV.bool (Option.some.inj h)
 |_=>exact nn h
noncomputable def b0 {α:Type} {β:Type} (x:Option α) (f:α→Option β):Option β:=match x with|some a=>f a|none=>none
theorem Zb {α:Type} {β:Type} {x:Option α} {f:α→Option β} {r} (h:b0 x f=some r):∃a,x=some a∧f a=some r:=by
 cases x with
 |none=>cases h
 |some a=>exact ⟨a,rfl,h⟩
noncomputable def pr2:List MV→Option (List Nat×List Nat)
 |x::y::[]=>b0 x.s? fun a=>b0 y.s? fun b=>some (a,b)
 |_=>none
theorem Z9c {l:List MV} {a b} (h:pr2 l=some (a,b)):l=[.str a,.str b]:=by
 match l,h with
 |[x,y],h=>
  obtain ⟨c,hc,h⟩:=Zb h
  obtain ⟨d,hd,h⟩:=Zb h
  cases h
  rw [MV.s_inv hc,MV.s_inv hd]
noncomputable def MV.eqok (x y:MV):Bool:=match x with
 | .str _=>y.s?.isSome
 | .int _=>y.i?.isSome
 | .tup l=>(pr2 l).isSome&&(b0 y.t? pr2).isSome
 |_=>false
noncomputable def MV.eqv (x y:MV):Bool:=match x with
 | .str a=>(match y with| .str b=>a==b|_=>false)
 | .int a=>(match y with| .int b=>a==b|_=>false)
 | .tup l=>(match pr2 l with|some p=>(match b0 y.t? pr2 with|some q=>p.1==q.1&&p.2==q.2|Option.none=>false)|Option.none=>false)
 |_=>false
noncomputable def Zz (k:List Nat):List (List Nat×MV)→Option MV
 |[]=>Option.none
 |(a,v)::r=>if k==a then some v else Zz k r
noncomputable def ZaA (a b:List Nat):Bool:=decide (a<b)
noncomputable def Ziy (c:Nat):Nat:=if 65≤c∧c≤90 then c+32 else c
noncomputable def Ze (s:List Nat):Bool:=s.all fun c=>decide (c<128)
noncomputable def lowerL (s:List Nat):List Nat:=s.map Ziy
noncomputable def Z3a (s a b:List Nat):List Nat:=(Txt.replace ⟨s.toArray⟩ ⟨a.toArray⟩ ⟨b.toArray⟩).cps.toList
noncomputable def ZbC (i:Int):List Nat:=(Str.ofString (toString i)).cps.toList
noncomputable def Z1R:List MV→Option (List (List Nat))
 |[]=>some []
 | .str a::r=>(Z1R r).map fun t=>a::t
 |_=>Option.none
noncomputable def joinL (sep:List Nat):List (List Nat)→List Nat
 |[]=>[]
 |[a]=>a
 |a::b::r=>a++sep++joinL sep (b::r)
noncomputable def iterOf:MV→Option (List MV)
 | .tup l=>some l
 | .fl l=>some l
 | .str s=>some (s.map fun c=>.str [c])
 | .rng n=>some ((List.range n.toNat).map fun (k:Nat)=>MV.int (k:Int))
 |_=>Option.none
mutual
noncomputable def showable:MV→Bool
 | .none=>true
 | .bool _=>true
 | .int i=>decide (i.natAbs<2^64)
 | .str _=>true
 | .tup l=>Z08 l
 |_=>false
noncomputable def Z08:List MV→Bool
 |[]=>true
 |v::r=>showable v&&Z08 r
end
mutual
noncomputable def Z1S:MV→PyData
 | .none=>.none
 | .bool b=>.bool b
 | .int i=>.int i
 | .str s=>.str ⟨s.toArray⟩
 | .tup l=>.tuple (Z1t l)
 |_=>.none
noncomputable def Z1t:List MV→List PyData
 |[]=>[]
 |v::r=>Z1S v::Z1t r
end
noncomputable def Z3G (v:MV):List Nat:=(PyData.shown (Z1S v)).cps.toList
noncomputable abbrev OP:=Option Prop
noncomputable def OP.h:OP→Prop|none=>True|some X=>X
noncomputable abbrev EvR:=Option (MV×OP)
noncomputable def a1 (f:MV→EvR):List MV→EvR|x::[]=>f x|_=>none
noncomputable def a2 (f:MV→MV→EvR):List MV→EvR|x::y::[]=>f x y|_=>none
noncomputable def a3 (f:MV→MV→MV→EvR):List MV→EvR|x::y::z::[]=>f x y z|_=>none
noncomputable def orE (x y:EvR):EvR:=match x with|some r=>some r|none=>y
theorem Z02 {x y:EvR} {r} (h:orE x y=some r):x=some r∨y=some r:=by
 cases x with
 |none=>exact .inr h
 |some z=>exact .inl h
noncomputable def s2 (f:List Nat→List Nat→EvR) (x y:MV):EvR:=b0 x.s? fun a=>b0 y.s? fun b=>f a b
noncomputable def i2 (f:Int→Int→EvR) (x y:MV):EvR:=b0 x.i? fun a=>b0 y.i? fun b=>f a b
theorem Z5D {f:List Nat→List Nat→EvR} {x y r} (h:s2 f x y=some r):∃a b,x=.str a∧y=.str b∧f a b=some r:=by
 obtain ⟨a,ha,h⟩:=Zb h
 obtain ⟨b,hb,h⟩:=Zb h
 exact ⟨a,b,MV.s_inv ha,MV.s_inv hb,h⟩
theorem Z4D {f:Int→Int→EvR} {x y r} (h:i2 f x y=some r):∃a b,x=.int a∧y=.int b∧f a b=some r:=by
 obtain ⟨a,ha,h⟩:=Zb h
 obtain ⟨b,hb,h⟩:=Zb h
 exact ⟨a,b,MV.i_inv ha,MV.i_inv hb,h⟩
noncomputable def ok (v:MV):EvR:=some (v,none)
noncomputable def okB (v:Bool):EvR:=some (.bool v,none)
noncomputable def ifE {α:Type} (b:Bool) (r:Option α):Option α:=match b with|true=>r|false=>none
theorem ZC {α:Type} {b:Bool} {r:Option α} {z} (h:ifE b r=some z):b=true∧r=some z:=by
 cases b with
 |true=>exact ⟨rfl,h⟩
 |false=>cases h
noncomputable def MV.isNil:MV→Bool
 | .none=>true
 |_=>false
noncomputable def MV.isB:MV→Bool
 | .bool _=>true
 |_=>false
noncomputable def MV.isS:MV→Bool
 | .str _=>true
 |_=>false
noncomputable def MV.flat:MV→Bool
 | .none=>true
 | .bool _=>true
 | .int _=>true
 | .str _=>true
 |_=>false
noncomputable def MV.bis:MV→Bool
 | .bool _=>true
 | .int _=>true
 | .str _=>true
 |_=>false
noncomputable def hd1 {α:Type} (s:List α):Option α:=match s with|[]=>none|c::r=>(match r with|[]=>some c|_::_=>none)
theorem Z0o {α:Type} {s:List α} {c} (h:hd1 s=some c):s=[c]:=by
 cases s with
 |nil=>cases h
 |cons a r=>
  cases r with
  |nil=>cases h;rfl
  |cons _ _=>cases h
noncomputable def Zho (x y:MV):EvR:=orE (s2 (fun a b=>some (.str (a++b),some ((a++b).length≤SL))) x y) (orE (i2 (fun a b=>ok (.int (a+b))) x y) (b0 x.f? fun a=>b0 y.f? fun b=>some (.fl (a++b),some ((a++b).length≤SL))))
noncomputable def Zfn (x y:MV):EvR:=orE (s2 (fun a b=>some (.str (a++b),some ((a++b).length≤SL))) x y) (i2 (fun a b=>ok (.int (a+b))) x y)
noncomputable def Zi3 (neg:Bool) (x y:MV):EvR:=ifE (x.eqok y) (okB (x.eqv y !=neg))
noncomputable def Z9V (fi:Int→Int→Bool) (fs:List Nat→List Nat→Bool) (x y:MV):EvR:=orE (i2 (fun a b=>okB (fi a b)) x y) (s2 (fun a b=>okB (fs a b)) x y)
noncomputable def Zj6 (x y:MV):EvR:=orE (b0 y.t? fun l=>ifE (l.all x.eqok) (okB (l.any x.eqv))) (orE (b0 y.f? fun l=>ifE (l.all x.eqok) (okB (l.any x.eqv)))
 (b0 x.s? fun k=>orE (b0 y.d? fun kvs=>okB (Zz k kvs).isSome) (b0 y.s? fun t=>b0 (hd1 k) fun c=>okB (t.contains c))))
noncomputable def ix {α:Type} (l:List α) (i:Int):Option α:=match i with
 | .ofNat n=>l[n]?
 | .negSucc n=>(pyIdx (.negSucc n) l.length).bind (l[·]?)
theorem Z9E {α:Type} {l:List α} {i:Int} {v:α} (h:ix l i=some v):(pyIdx i l.length).bind (l[·]?)=some v:=by
 cases i with
 |negSucc n=>exact h
 |ofNat n=>
  have h:l[n]? =some v:=h
  obtain ⟨hn,-⟩:=List.getElem?_eq_some_iff.1 h
  have e:pyIdx (Int.ofNat n) l.length=some n:=by
   unfold pyIdx
   rw [if_pos (show (0:Int)≤Int.ofNat n from Int.natCast_nonneg n),if_pos (show Int.ofNat n<(l.length:Int) from Int.ofNat_lt.2 hn)]
   rfl
  rw [e];exact h
noncomputable def Zhn (x y:MV):EvR:=orE (b0 y.i? fun i=>orE (b0 x.t? fun l=>b0 (ix l i) fun v=>ok v)
  (orE (b0 x.f? fun l=>b0 (ix l i) fun v=>ok v) (b0 x.s? fun l=>b0 (ix l i) fun v=>ok (.str [v]))))
 (b0 y.s? fun k=>b0 x.d? fun kvs=>b0 (Zz k kvs) fun v=>ok v)
noncomputable def Zj5 (x lo hi:MV):EvR:=orE (b0 x.s? fun s=>ifE (Z0G lo&&Z1z hi) (ok (.str (Z1s s lo hi)))) (b0 x.t? fun s=>ifE (Z0G lo&&Z0G hi) (ok (.tup (Z1s s lo hi))))
noncomputable def Zhl (x:MV):EvR:=orE (b0 x.s? fun s=>ok (.int s.length)) (orE (b0 x.t? fun s=>ok (.int s.length)) (b0 x.f? fun s=>ok (.int s.length)))
noncomputable def Zhm (f:MV→Bool) (x:MV):EvR:=ifE x.bis (okB (f x))
noncomputable def evP (p:Pr) (vs:List MV):EvR:=match p with
 | .add=>a2 Zho vs
 | .iadd=>a2 Zfn vs
 | .sub=>a2 (i2 fun a b=>ok (.int (a-b))) vs
 | .mul=>a2 (i2 fun a b=>ifE (decide (a.natAbs<2^64)) (ifE (decide (b.natAbs<2^64)) (ok (.int (a*b))))) vs
 | .index=>a2 (s2 fun s p=>b0 (hd1 p) fun c=>ifE (s.contains c) (ok (.int (s.idxOf c)))) vs
 | .eq=>a2 (Zi3 false) vs
 | .ne=>a2 (Zi3 true) vs
 | .lt=>a2 (Z9V (fun a b=>decide (a<b)) ZaA) vs
 | .le=>a2 (Z9V (fun a b=>decide (a≤b)) fun a b=> !ZaA b a) vs
 | .gt=>a2 (Z9V (fun a b=>decide (b<a)) fun a b=>ZaA b a) vs
 | .ge=>a2 (Z9V (fun a b=>decide (b≤a)) fun a b=> !ZaA a b) vs
 | .isNone=>a1 (fun v=>okB (v.isNil !=false)) vs
 | .notNone=>a1 (fun v=>okB (v.isNil !=true)) vs
 | .inn=>a2 Zj6 vs
 | .notb=>a1 (fun v=>b0 v.b? fun b=>okB (!b)) vs
 | .mkTup=>ok (.tup vs)
 | .mkFl=>ok (.fl vs)
 | .mkDict ks=>ok (.dict (ks.zip vs))
 | .getitem=>a2 Zhn vs
 | .slice=>a3 Zj5 vs
 | .len=>a1 Zhl vs
 | .ord=>a1 (fun v=>b0 v.s? fun s=>b0 (hd1 s) fun c=>ok (.int c)) vs
 | .isBool=>a1 (Zhm MV.isB) vs
 | .isStr=>a1 (Zhm MV.isS) vs
 | .isBoolStr=>a1 (Zhm fun v=>v.isB||v.isS) vs
 | .strOf=>a1 (fun v=>b0 v.i? fun i=>some (.str (ZbC i),some (i.natAbs<2^64))) vs
 | .tuple=>a1 (fun v=>b0 v.f? fun l=>ok (.tup l)) vs
 | .max=>a2 (i2 fun a b=>ok (.int (if a<b then b else a))) vs
 | .lower=>a1 (fun v=>b0 v.s? fun s=>some (.str (lowerL s),some (Ze s=true∧s.length≤5592405))) vs
 | .replace a b=>a1 (fun v=>b0 v.s? fun s=>some (.str (Z3a s a b),some (s.length≤1000∧a.length≤4∧b.length≤4∧(a==b)=false))) vs
 | .startswith=>a2 (s2 fun s p=>okB (p.isPrefixOf s)) vs
 | .dget=>a3 (fun x k d=>b0 x.d? fun kvs=>b0 k.s? fun k=>ok ((Zz k kvs).getD d)) vs
 | .isdict=>a1 (fun x=>b0 x.d? fun kvs=>ok (.dict kvs)) vs
 |_=>none
noncomputable def Pr.imp (p:Pr) (vs:List MV) (σ:Z4) (Q:ZT):Prop:=match p with
 | .add=>∃c a b,vs=[.lst c,.fl b]∧σ c=some a∧a.length+b.length≤SL∧Q (.fl (a++b)) σ
 | .fdiv=>∃a b,vs=[.int a,.int b]∧b≠0∧b.natAbs<2^64∧Q (.int (a.fdiv b)) σ
 | .mod=>∃a b,vs=[.int a,.int b]∧b≠0∧Q (.int (a.fmod b)) σ
 | .eq=>∃c a,vs=[.lst c,.fl []]∧σ c=some a∧Q (.bool a.isEmpty) σ
 | .ne=>∃c a,vs=[.lst c,.fl []]∧σ c=some a∧Q (.bool !a.isEmpty) σ
 | .mkList=>∀a,σ a=Option.none→Q (.lst a) (upd σ a vs)
 | .getitem=>∃c l i v,vs=[.lst c,.int i]∧σ c=some l∧(pyIdx i l.length).bind (l[·]?)=some v∧Q v σ
 | .slice=>∃s hi,vs=[.fl s,.none,.int hi]∧0≤hi∧Q (.fl (s.take hi.toNat)) σ
 | .repr=>∃l,vs=[.tup l]∧Z08 l=true∧PyData.depth (Z1S (.tup l))≤1000∧(Z3G (.tup l)).length≤SL∧Q (.str (Z3G (.tup l))) σ
 | .tuple=>∃c l,vs=[.lst c]∧σ c=some l∧Q (.tup l) σ
 | .range=>∃a,vs=[.int a]∧a.natAbs<2^30∧Q (.rng a) σ
 | .join=>∃s v l t,vs=[.str s,v]∧(v=.fl l∨∃c,v=.lst c∧σ c=some l)∧Z1R l=some t∧(joinL s t).length+s.length≤SL∧Q (.str (joinL s t)) σ
 | .append=>∃c l v,vs=[.lst c,v]∧σ c=some l∧l.length<SL∧Q .none (upd σ c (l++[v]))
 | .islst=>∃c l,vs=[.lst c]∧σ c=some l∧Q (.lst c) σ
 |_=>False
noncomputable def Pr.sem (p:Pr) (vs:List MV) (σ:Z4) (Q:ZT):Prop:=(∃r,evP p vs=some r∧r.2.h∧Q r.1 σ)∨p.imp vs σ Q
theorem Z44 {p:Pr} {vs:List MV} {v:MV} {X:OP} {σ:Z4} {Q:ZT} (h:evP p vs=some (v,X)) (x:X.h) (q:Q v σ):p.sem vs σ Q:=.inl ⟨_,h,x,q⟩
theorem Z5K {p:Pr} {vs:List MV} {v w:MV} (h:evP p vs=some (w,none)) (e:w=v):∀σ (Q:ZT),Q v σ→p.sem vs σ Q:=fun σ Q q=>.inl ⟨_,h,trivial,e▸q⟩
noncomputable abbrev Zv:=Nat→List MV→Z4→ZT→Prop
noncomputable def Z2X (a:Addr) (f:MV→Z4→ZT→Prop):List MV→List MV→Z4→(List MV→Z4→Prop)→Prop
 |[],acc,σ,Q=>Q acc σ
 |v::r,acc,σ,Q=>f v σ fun x σ'=>σ' a=some acc∧Z2X a f r (acc++[x]) (upd σ' a (acc++[x])) Q
noncomputable def rem (σ:Z4) (a:Addr):Z4:=fun b=>if b=a then none else σ b
mutual
noncomputable def wpE (C:Zv):CE→Loc→Z4→ZT→Prop
 | .var i,ρ,σ,Q=>match (ρ[i]?).join with|some v=>Q v σ|Option.none=>False
 | .cst v,_,σ,Q=>Q v σ
 | .pr p args,ρ,σ,Q=>wpEs C args ρ σ fun vs σ'=>p.sem vs σ' Q
 | .cond t a b,ρ,σ,Q=>wpE C t ρ σ fun v σ'=>match v with| .bool true=>wpE C a ρ σ' Q| .bool false=>wpE C b ρ σ' Q|_=>False
 | .andd a b,ρ,σ,Q=>wpE C a ρ σ fun v σ'=>match v with| .bool true=>wpE C b ρ σ' (fun x σ''=>x.isB=true∧Q x σ'')| .bool false=>Q (.bool false) σ'|_=>False
 | .orr a b,ρ,σ,Q=>wpE C a ρ σ fun v σ'=>match v with| .bool true=>Q (.bool true) σ'| .bool false=>wpE C b ρ σ' (fun x σ''=>x.isB=true∧Q x σ'')|_=>False
 | .chain o1 o2 a b c,ρ,σ,Q=>wpE C a ρ σ fun x σ1=>wpE C b ρ σ1 fun y σ2=>o1.sem [x,y] σ2 fun v σ3=>
   match v with| .bool true=>wpE C c ρ σ3 (fun z σ4=>o2.sem [y,z] σ4 Q)| .bool false=>Q (.bool false) σ3|_=>False
 | .call f args,ρ,σ,Q=>wpEs C args ρ σ fun vs σ'=>C f vs σ' Q
 | .comp x elt iter,ρ,σ,Q=>wpE C iter ρ σ fun v σ'=>match iterOf v with
   |some items=>items.length<SL∧∀a,σ' a=none→Z2X a (fun u σ'' Q'=>wpE C elt (ρ.set x (some u)) σ'' Q') items [] (upd σ' a []) (fun vs σ''=>Q (.fl vs) (rem σ'' a))
   |Option.none=>False
noncomputable def wpEs (C:Zv):List CE→Loc→Z4→(List MV→Z4→Prop)→Prop
 |[],_,σ,Q=>Q [] σ
 |e::r,ρ,σ,Q=>wpE C e ρ σ fun v σ'=>wpEs C r ρ σ' fun vs σ''=>Q (v::vs) σ''
end
set_option genCtorIdx false in
inductive Out where
 |next
 |ret (v:MV)
noncomputable abbrev Zn:=Out→Loc→Z4→Prop
noncomputable def setMany (ρ:Loc):List Nat→List MV→Loc
 |x::xs,v::vs=>setMany (ρ.set x (some v)) xs vs
 |_,_=>ρ
noncomputable def wpFor (f:MV→Loc→Z4→Zn→Prop):List MV→Loc→Z4→Zn→Prop
 |[],ρ,σ,Q=>Q .next ρ σ
 |v::r,ρ,σ,Q=>f v ρ σ fun o ρ' σ'=>match o with| .next=>wpFor f r ρ' σ' Q| .ret x=>Q (.ret x) ρ' σ'
mutual
noncomputable def wpS (C:Zv):CS→Loc→Z4→Zn→Prop
 | .expr e,ρ,σ,Q=>wpE C e ρ σ fun v σ'=>v.flat=true∧Q .next ρ σ'
 | .assign x e,ρ,σ,Q=>wpE C e ρ σ fun v σ'=>Q .next (ρ.set x (some v)) σ'
 | .unpack xs e,ρ,σ,Q=>wpE C e ρ σ fun v σ'=>match v with
   | .tup l=>l.length=xs.length∧Q .next (setMany ρ xs l) σ'
   |_=>False
 | .setidx l i e,ρ,σ,Q=>wpE C e ρ σ fun v σ1=>wpE C l ρ σ1 fun o σ2=>wpE C i ρ σ2 fun k σ3=>match o,k with
   | .lst a,.int n=>0≤n∧∃items,σ3 a=some items∧match pyIdx n items.length with
     |some j=>Q .next ρ (upd σ3 a (items.set j v))
     |Option.none=>False
   |_,_=>False
 | .ret e,ρ,σ,Q=>wpE C e ρ σ fun v σ'=>Q (.ret v) ρ σ'
 | .ite t a b,ρ,σ,Q=>wpE C t ρ σ fun v σ'=>match v with| .bool true=>wpSs C a ρ σ' Q| .bool false=>wpSs C b ρ σ' Q|_=>False
 | .while t body,ρ,σ,Q=>∃I:Nat→Loc→Z4→Prop,(∃n,I n ρ σ)∧∀n ρ σ,I n ρ σ→wpE C t ρ σ fun v σ'=>match v with
   | .bool true=>wpSs C body ρ σ' fun o ρ' σ''=>match o with| .next=>∃m,m<n∧I m ρ' σ''| .ret x=>Q (.ret x) ρ' σ''
   | .bool false=>Q .next ρ σ'
   |_=>False
 | .for x iter body,ρ,σ,Q=>wpE C iter ρ σ fun v σ'=>match iterOf v with
   |some items=>wpFor (fun u ρ1 σ1 Q1=>wpSs C body (ρ1.set x (some u)) σ1 Q1) items ρ σ' Q
   |Option.none=>False
 | .forT xs iter body,ρ,σ,Q=>wpE C iter ρ σ fun v σ'=>match iterOf v with
   |some items=>wpFor (fun u ρ1 σ1 Q1=>match u with| .tup l=>l.length=xs.length∧wpSs C body (setMany ρ1 xs l) σ1 Q1|_=>False) items ρ σ' Q
   |Option.none=>False
 | .bad,_,_,_=>False
noncomputable def wpSs (C:Zv):List CS→Loc→Z4→Zn→Prop
 |[],ρ,σ,Q=>Q .next ρ σ
 |s::r,ρ,σ,Q=>wpS C s ρ σ fun o ρ' σ'=>match o with| .next=>wpSs C r ρ' σ' Q| .ret x=>Q (.ret x) ρ' σ'
end
structure Fn where
 np:Nat
 nl:Nat
 dflts:List MV
 body:List CS
noncomputable def ZG (σ σ':Z4):Prop:=∀a l,σ a=some l→σ' a=some l
noncomputable def wpF (C:Zv) (f:Fn) (args:List MV) (σ:Z4) (Q:ZT):Prop:=
 args.length≤f.np∧f.np≤args.length+f.dflts.length∧
 wpSs C f.body ((args++f.dflts.drop (f.dflts.length+args.length-f.np)).map some++List.replicate (f.nl-f.np) Option.none) σ fun o _ σ'=>
  ∃σ'',ZG σ'' σ'∧Q (match o with| .next=>.none| .ret v=>v) σ''
noncomputable def Z3 (FT:Nat→Option Fn):Nat→Zv
 |0,_,_,_,_=>False
 |d+1,f,args,σ,Q=>match FT f with
  |some fn=>wpF (Z3 FT d) fn args σ Q
  |Option.none=>False
end Mine
namespace Mine
theorem Pr.mono (p:Pr) (vs:List MV) (σ:Z4) {Q Q':ZT} (h:∀m σ,Q m σ→Q' m σ) (x:p.sem vs σ Q):p.sem vs σ Q':=by
 refine x.imp (fun ⟨r,e,k,q⟩=>⟨r,e,k,h _ _ q⟩) fun x=>?_
 cases p with
 |add=>obtain ⟨c,a,b,e,k,l,q⟩:=x;exact ⟨c,a,b,e,k,l,h _ _ q⟩
 |fdiv=>obtain ⟨a,b,e,k,l,q⟩:=x;exact ⟨a,b,e,k,l,h _ _ q⟩
 |mod=>obtain ⟨a,b,e,k,q⟩:=x;exact ⟨a,b,e,k,h _ _ q⟩
 |eq=>obtain ⟨a,b,e,k,q⟩:=x;exact ⟨a,b,e,k,h _ _ q⟩
 |ne=>obtain ⟨a,b,e,k,q⟩:=x;exact ⟨a,b,e,k,h _ _ q⟩
 |mkList=>exact fun a e=>h _ _ (x a e)
 |getitem=>obtain ⟨c,a,b,v,e,k,l,q⟩:=x;exact ⟨c,a,b,v,e,k,l,h _ _ q⟩
 |slice=>obtain ⟨a,b,e,k,q⟩:=x;exact ⟨a,b,e,k,h _ _ q⟩
 |repr=>obtain ⟨l,e,h1,h2,h3,q⟩:=x;exact ⟨l,e,h1,h2,h3,h _ _ q⟩
 |tuple=>obtain ⟨a,b,e,k,q⟩:=x;exact ⟨a,b,e,k,h _ _ q⟩
 |range=>obtain ⟨a,e,k,q⟩:=x;exact ⟨a,e,k,h _ _ q⟩
 |join=>obtain ⟨c,a,b,v,e,k,l,m,q⟩:=x;exact ⟨c,a,b,v,e,k,l,m,h _ _ q⟩
 |append=>obtain ⟨c,a,b,e,k,l,q⟩:=x;exact ⟨c,a,b,e,k,l,h _ _ q⟩
 |islst=>obtain ⟨a,b,e,k,q⟩:=x;exact ⟨a,b,e,k,h _ _ q⟩
 |_=>exact x.elim
theorem Z4n {a:Addr} {f g:MV→Z4→ZT→Prop} (hf:∀v σ Q Q',(∀m σ,Q m σ→Q' m σ)→f v σ Q→g v σ Q'):∀(l acc:List MV) (σ:Z4) {Q Q':List MV→Z4→Prop},(∀m σ,Q m σ→Q' m σ)→Z2X a f l acc σ Q→Z2X a g l acc σ Q'
 |[],acc,σ,Q,Q',h,x=>h _ _ x
 |v::r,acc,σ,Q,Q',h,x=>hf v σ _ _ (fun m σ' y=>⟨y.1,Z4n hf r _ _ h y.2⟩) x
noncomputable def Z4c (C C':Zv):Prop:=∀f args σ (Q Q':ZT),(∀m σ,Q m σ→Q' m σ)→C f args σ Q→C' f args σ Q'
mutual
theorem Zi {C C':Zv} (hC:Z4c C C'):∀(e:CE) (ρ:Loc) (σ:Z4) {Q Q':ZT},(∀m σ,Q m σ→Q' m σ)→wpE C e ρ σ Q→wpE C' e ρ σ Q'
 | .var i,ρ,σ,Q,Q',h,x=>by
  simp only [wpE] at x ⊢
  split at x
  ·exact h _ _ x
  ·exact x.elim
 | .cst v,ρ,σ,Q,Q',h,x=>by simp only [wpE] at x ⊢;exact h _ _ x
 | .pr p args,ρ,σ,Q,Q',h,x=>by
  simp only [wpE] at x ⊢
  exact Z3k hC args ρ σ (fun vs σ' y=>p.mono vs σ' h y) x
 | .cond t a b,ρ,σ,Q,Q',h,x=>by
  simp only [wpE] at x ⊢
  refine Zi hC t ρ σ (fun v σ' y=>?_) x
  split at y
  ·exact Zi hC a ρ σ' h y
  ·exact Zi hC b ρ σ' h y
  ·exact y.elim
 | .andd a b,ρ,σ,Q,Q',h,x=>by
  simp only [wpE] at x ⊢
  refine Zi hC a ρ σ (fun v σ' y=>?_) x
  split at y
  ·exact Zi hC b ρ σ' (fun m σ'' z=>⟨z.1,h _ _ z.2⟩) y
  ·exact h _ _ y
  ·exact y.elim
 | .orr a b,ρ,σ,Q,Q',h,x=>by
  simp only [wpE] at x ⊢
  refine Zi hC a ρ σ (fun v σ' y=>?_) x
  split at y
  ·exact h _ _ y
  ·exact Zi hC b ρ σ' (fun m σ'' z=>⟨z.1,h _ _ z.2⟩) y
  ·exact y.elim
 | .chain o1 o2 a b c,ρ,σ,Q,Q',h,x=>by
  simp only [wpE] at x ⊢
  refine Zi hC a ρ σ (fun u σ1 y=>?_) x
  refine Zi hC b ρ σ1 (fun v σ2 z=>?_) y
  refine o1.mono _ _ (fun r σ3 t=>?_) z
  split at t
  ·exact Zi hC c ρ σ3 (fun k σ4 q=>o2.mono _ _ h q) t
  ·exact h _ _ t
  ·exact t.elim
 | .call f args,ρ,σ,Q,Q',h,x=>by
  simp only [wpE] at x ⊢
  exact Z3k hC args ρ σ (fun vs σ' y=>hC _ _ _ _ _ h y) x
 | .comp k elt iter,ρ,σ,Q,Q',h,x=>by
  simp only [wpE] at x ⊢
  refine Zi hC iter ρ σ (fun v σ' y=>?_) x
  split at y
  ·exact ⟨y.1,fun a ha=>Z4n (fun u σ'' Q1 Q2 h' z=>Zi hC elt (ρ.set k (some u)) σ'' h' z) _ _ _ (fun vs σ'' z=>h _ _ z) (y.2 a ha)⟩
  ·exact y.elim
theorem Z3k {C C':Zv} (hC:Z4c C C'):∀(e:List CE) (ρ:Loc) (σ:Z4) {Q Q':List MV→Z4→Prop},(∀m σ,Q m σ→Q' m σ)→wpEs C e ρ σ Q→wpEs C' e ρ σ Q'
 |[],ρ,σ,Q,Q',h,x=>by simp only [wpEs] at x ⊢;exact h _ _ x
 |e::r,ρ,σ,Q,Q',h,x=>by
  simp only [wpEs] at x ⊢
  exact Zi hC e ρ σ (fun v σ' y=>Z3k hC r ρ σ' (fun vs σ'' z=>h _ _ z) y) x
end
theorem Z2q {f g:MV→Loc→Z4→Zn→Prop} (hf:∀v ρ σ (Q Q':Zn),(∀o ρ σ,Q o ρ σ→Q' o ρ σ)→f v ρ σ Q→g v ρ σ Q'):∀(l:List MV) (ρ:Loc) (σ:Z4) {Q Q':Zn},(∀o ρ σ,Q o ρ σ→Q' o ρ σ)→wpFor f l ρ σ Q→wpFor g l ρ σ Q'
 |[],ρ,σ,_,_,h,x=>h _ _ _ x
 |v::r,ρ,σ,Q,Q',h,x=>hf v ρ σ _ _ (fun o ρ' σ' y=>by
   cases o with
   |next=>exact Z2q hf r ρ' σ' h y
   |ret v=>exact h _ _ _ y) x
mutual
theorem Z33 {C C':Zv} (hC:Z4c C C'):∀(e:CS) (ρ:Loc) (σ:Z4) {Q Q':Zn},(∀o ρ σ,Q o ρ σ→Q' o ρ σ)→wpS C e ρ σ Q→wpS C' e ρ σ Q'
 | .expr e,ρ,σ,Q,Q',h,x=>by
  simp only [wpS] at x ⊢
  exact Zi hC e ρ σ (fun v σ' y=>⟨y.1,h _ _ _ y.2⟩) x
 | .assign k e,ρ,σ,Q,Q',h,x=>by
  simp only [wpS] at x ⊢
  exact Zi hC e ρ σ (fun v σ' y=>h _ _ _ y) x
 | .unpack ks e,ρ,σ,Q,Q',h,x=>by
  simp only [wpS] at x ⊢
  refine Zi hC e ρ σ (fun v σ' y=>?_) x
  split at y
  ·exact ⟨y.1,h _ _ _ y.2⟩
  ·exact y.elim
 | .setidx l i e,ρ,σ,Q,Q',h,x=>by
  simp only [wpS] at x ⊢
  refine Zi hC e ρ σ (fun v σ1 y=>?_) x
  refine Zi hC l ρ σ1 (fun o σ2 z=>?_) y
  refine Zi hC i ρ σ2 (fun k σ3 t=>?_) z
  split at t
  ·obtain ⟨h0,items,e,q⟩:=t
   refine ⟨h0,items,e,?_⟩
   split at q
   ·exact h _ _ _ q
   ·exact q.elim
  ·exact t.elim
 | .ret e,ρ,σ,Q,Q',h,x=>by
  simp only [wpS] at x ⊢
  exact Zi hC e ρ σ (fun v σ' y=>h _ _ _ y) x
 | .ite t a b,ρ,σ,Q,Q',h,x=>by
  simp only [wpS] at x ⊢
  refine Zi hC t ρ σ (fun v σ' y=>?_) x
  split at y
  ·exact Z0m hC a ρ σ' h y
  ·exact Z0m hC b ρ σ' h y
  ·exact y.elim
 | .while t body,ρ,σ,Q,Q',h,x=>by
  simp only [wpS] at x ⊢
  obtain ⟨I,h0,hI⟩:=x
  refine ⟨I,h0,fun n ρ σ hn=>?_⟩
  refine Zi hC t ρ σ (fun v σ' y=>?_) (hI n ρ σ hn)
  split at y
  ·refine Z0m hC body ρ σ' (fun o ρ' σ'' z=>?_) y
   cases o with
   |next=>exact z
   |ret v=>exact h _ _ _ z
  ·exact h _ _ _ y
  ·exact y.elim
 | .for k iter body,ρ,σ,Q,Q',h,x=>by
  simp only [wpS] at x ⊢
  refine Zi hC iter ρ σ (fun v σ' y=>?_) x
  split at y
  ·exact Z2q (fun u ρ1 σ1 Q1 Q2 h' z=>Z0m hC body (ρ1.set k (some u)) σ1 h' z) _ _ _ h y
  ·exact y.elim
 | .forT ks iter body,ρ,σ,Q,Q',h,x=>by
  simp only [wpS] at x ⊢
  refine Zi hC iter ρ σ (fun v σ' y=>?_) x
  split at y
  ·refine Z2q (fun u ρ1 σ1 Q1 Q2 h' z=>?_) _ _ _ h y
   split at z
   ·exact ⟨z.1,Z0m hC body _ σ1 h' z.2⟩
   ·exact z.elim
  ·exact y.elim
 | .bad,ρ,σ,Q,Q',h,x=>by simp only [wpS] at x
theorem Z0m {C C':Zv} (hC:Z4c C C'):∀(e:List CS) (ρ:Loc) (σ:Z4) {Q Q':Zn},(∀o ρ σ,Q o ρ σ→Q' o ρ σ)→wpSs C e ρ σ Q→wpSs C' e ρ σ Q'
 |[],ρ,σ,Q,Q',h,x=>by simp only [wpSs] at x ⊢;exact h _ _ _ x
 |e::r,ρ,σ,Q,Q',h,x=>by
  simp only [wpSs] at x ⊢
  refine Z33 hC e ρ σ (fun o ρ' σ' y=>?_) x
  cases o with
  |next=>exact Z0m hC r ρ' σ' h y
  |ret v=>exact h _ _ _ y
end
theorem Z7c {C C':Zv} (hC:Z4c C C') (f:Fn) (args:List MV) (σ:Z4) {Q Q':ZT} (h:∀m σ,Q m σ→Q' m σ) (x:wpF C f args σ Q):wpF C' f args σ Q':=
 ⟨x.1,x.2.1,Z0m hC _ _ _ (fun o ρ σ' y=>let ⟨σ'',hs,q⟩:=y;⟨σ'',hs,h _ _ q⟩) x.2.2⟩
theorem Zs (FT:Nat→Option Fn):∀d,Z4c (Z3 FT d) (Z3 FT d)
 |0=>fun _ _ _ _ _ _ x=>x
 |d+1=>fun f args σ Q Q' h x=>by
  simp only [Z3] at x ⊢
  split at x
  ·exact Z7c (Zs FT d) _ _ _ h x
  ·exact x.elim
theorem Z4J (FT:Nat→Option Fn):∀d,Z4c (Z3 FT d) (Z3 FT (d+1))
 |0=>fun _ _ _ _ _ _ x=>by simp only [Z3] at x
 |d+1=>fun f args σ Q Q' h x=>by
  rw [Z3] at x ⊢
  split at x
  ·exact Z7c (Z4J FT d) _ _ _ h x
  ·exact x.elim
theorem Z3i (FT:Nat→Option Fn) {d d':Nat} (h:d≤d'):Z4c (Z3 FT d) (Z3 FT d'):=by
 induction h with
 |refl=>exact Zs FT d
 |step _ ih=>exact fun f args σ Q Q' hq x=>Z4J FT _ f args σ Q' Q' (fun _ _ y=>y) (ih f args σ Q Q' hq x)
end Mine
namespace Mine
noncomputable def Z6R (x:Str):List Str→Option Nat
 |[]=>none
 |y::r=>if x==y then some 0 else (Z6R x r).map (· +1)
noncomputable def dbg:Str:=Str.ofString "__debug__"
noncomputable def Zc3:Str:=Str.ofString "__classdict__"
noncomputable def b2 {α β γ:Type} (x:Option α) (y:Option β) (f:α→β→Option γ):Option γ:=b0 x fun a=>b0 y fun b=>f a b
theorem Z2W {α β γ:Type} {x:Option α} {y:Option β} {f:α→β→Option γ} {r} (h:b2 x y f=some r):∃a b,x=some a∧y=some b∧f a b=some r:=by
 obtain ⟨a,e1,h1⟩:=Zb h
 obtain ⟨b,e2,h2⟩:=Zb h1
 exact ⟨a,b,e1,e2,h2⟩
noncomputable def eo {α β:Type} (x:Option α) (f:α→Option β) (y:Option β):Option β:=match x with|some a=>f a|none=>y
theorem Z7G {α β:Type} {x:Option α} {f:α→Option β} {y:Option β} {r} (h:eo x f y=some r):(∃a,x=some a∧f a=some r)∨(x=none∧y=some r):=by
 cases x with
 |some a=>exact .inl ⟨a,rfl,h⟩
 |none=>exact .inr ⟨rfl,h⟩
noncomputable def eb {α:Type} (b:Bool) (x y:Option α):Option α:=match b with|true=>x|false=>y
theorem ZbV {α:Type} {b:Bool} {x y:Option α} {r} (h:eb b x y=some r):(b=true∧x=some r)∨y=some r:=by
 cases b with
 |true=>exact .inl ⟨rfl,h⟩
 |false=>exact .inr h
theorem Z2c {α β:Type} {P:β→Prop} {x:Option α} {f:α→Option β} (k:∀a,x=some a→∀c,f a=some c→P c) (c:β) (h:b0 x f=some c):P c:=let ⟨a,e,h⟩:=Zb h;k a e c h
theorem Z4e {α β γ:Type} {P:γ→Prop} {x:Option α} {y:Option β} {f:α→β→Option γ} (k:∀a b,x=some a→y=some b→∀c,f a b=some c→P c) (c:γ) (h:b2 x y f=some c):P c:=let ⟨a,b,e,e',h⟩:=Z2W h;k a b e e' c h
theorem Z1m {α:Type} {P:α→Prop} {b:Bool} {r:Option α} (k:b=true→∀c,r=some c→P c) (c:α) (h:ifE b r=some c):P c:=let ⟨e,h⟩:=ZC h;k e c h
theorem Zdo {α β:Type} {P:β→Prop} {x:Option α} {f:α→Option β} {y:Option β} (k:∀a,x=some a→∀c,f a=some c→P c) (k':∀c,y=some c→P c) (c:β) (h:eo x f y=some c):P c:=(Z7G h).elim (fun ⟨a,e,h⟩=>k a e c h) fun ⟨_,h⟩=>k' c h
theorem Z9X {α:Type} {P:α→Prop} {b:Bool} {x y:Option α} (k:b=true→∀c,x=some c→P c) (k':∀c,y=some c→P c) (c:α) (h:eb b x y=some c):P c:=(ZbV h).elim (fun ⟨e,h⟩=>k e c h) fun h=>k' c h
theorem Z2b {α:Type} {P:α→Prop} {a:α} (k:P a) (c:α) (h:some a=some c):P c:=sj h▸k
theorem ZfW {α:Type} {P:α→Prop} (c:α) (h:Option.none=some c):P c:=nn h
theorem nt {b:Bool} (h:(!b)=true):b=false:=by cases b<;>first|rfl|cases h
noncomputable def hd2 {α:Type} (s:List α):Option (α×α):=match s with|[]=>none|a::r=>b0 (hd1 r) fun b=>some (a,b)
theorem Z41 {α:Type} {s:List α} {p} (h:hd2 s=some p):s=[p.1,p.2]:=by
 cases s with
 |nil=>cases h
 |cons a r=>obtain ⟨b,e,h⟩:=Zb h;cases Z0o e;cases h;rfl
set_option genCtorIdx false in
inductive V where
 |name (x:Str) (p:Pos)
 |const (c:Const) (k:Nat) (p:Pos)
 |list (l:List PySem.Expr) (p:Pos)
 |tuple (l:List PySem.Expr) (k:Nat) (p:Pos)
 |slice (lo hi:Option PySem.Expr) (p:Pos)
 |attr (o:PySem.Expr) (m:Str) (p:Pos)
 |sub (o i:PySem.Expr) (p:Pos)
 |bin (l:PySem.Expr) (op:Operator) (r:PySem.Expr) (p:Pos)
 |lc
 |call0
 |other
noncomputable def vw (e:PySem.Expr):V:=match e with
 | .Name x p=>.name x p
 | .Constant c k p=>.const c k p
 | .List l p=>.list l p
 | .Tuple l k p=>.tuple l k p
 | .Slice lo hi st p=>(match st with|none=>.slice lo hi p|some _=>.other)
 | .Attribute o m p=>.attr o m p
 | .Subscript o i p=>.sub o i p
 | .BinOp l op r p=>.bin l op r p
 | .ListComp ..=>.lc
 | .SetComp ..=>.lc
 | .DictComp ..=>.lc
 | .Call f a _ _=>(match a with|[]=>(match f with| .Name ..=>.call0|_=>.other)|_::_=>.other)
 |_=>.other
noncomputable def VOk (v:V) (e:PySem.Expr):Prop:=match v with
 | .name x p=>e=.Name x p
 | .const c k p=>e=.Constant c k p
 | .list l p=>e=.List l p
 | .tuple l k p=>e=.Tuple l k p
 | .slice lo hi p=>e=.Slice lo hi none p
 | .attr o m p=>e=.Attribute o m p
 | .sub o i p=>e=.Subscript o i p
 | .bin l op r p=>e=.BinOp l op r p
 |_=>True
theorem Z5q (e:PySem.Expr):VOk (vw e) e:=by
 cases e with
 |Slice a b c p=>cases c<;>trivial
 |Call a b c d=>cases b with
  |nil=>cases a<;>trivial
  |cons _ _=>trivial
 |_=>trivial
noncomputable def Z3O (v:V):Option (Str×Pos):=match v with| .name x p=>some (x,p)|_=>none
noncomputable def constV (v:V):Option Const:=match v with| .const c _ _=>some c|_=>none
noncomputable def ZeW (v:V):Option (List PySem.Expr):=match v with| .list l _=>some l|_=>none
noncomputable def tupleV (v:V):Option (List PySem.Expr):=match v with| .tuple l _ _=>some l|_=>none
noncomputable def ZbF (v:V):Option (Option PySem.Expr×Option PySem.Expr):=match v with| .slice a b _=>some (a,b)|_=>none
noncomputable def ZfH (v:V):Option (PySem.Expr×Str×Pos):=match v with| .attr a b p=>some (a,b,p)|_=>none
noncomputable def ZhH (v:V):Option (PySem.Expr×PySem.Expr):=match v with| .sub a b _=>some (a,b)|_=>none
noncomputable def Zic (v:V):Option (PySem.Expr×Operator×PySem.Expr):=match v with| .bin a o b _=>some (a,o,b)|_=>none
noncomputable def lcV (v:V):Bool:=match v with| .lc=>true|_=>false
noncomputable def c0V (v:V):Bool:=match v with| .call0=>true|_=>false
theorem Z0P {e x p} (h:Z3O (vw e)=some (x,p)):e=.Name x p:=by
 have k:=Z5q e
 generalize vw e=v at h k
 cases v with
 |name=>cases h;exact k
 |_=>exact nn h
theorem Z2H {e c} (h:constV (vw e)=some c):∃k p,e=.Constant c k p:=by
 have k:=Z5q e
 generalize vw e=v at h k
 cases v with
 |const=>cases h;exact ⟨_,_,k⟩
 |_=>exact nn h
theorem Z9A {e l} (h:ZeW (vw e)=some l):∃p,e=.List l p:=by
 have k:=Z5q e
 generalize vw e=v at h k
 cases v with
 |list=>cases h;exact ⟨_,k⟩
 |_=>exact nn h
theorem Z2r {e l} (h:tupleV (vw e)=some l):∃k p,e=.Tuple l k p:=by
 have k:=Z5q e
 generalize vw e=v at h k
 cases v with
 |tuple=>cases h;exact ⟨_,_,k⟩
 |_=>exact nn h
theorem Z88 {e a b} (h:ZbF (vw e)=some (a,b)):∃p,e=.Slice a b none p:=by
 have k:=Z5q e
 generalize vw e=v at h k
 cases v with
 |slice=>cases h;exact ⟨_,k⟩
 |_=>exact nn h
theorem Za9 {e a b p} (h:ZfH (vw e)=some (a,b,p)):e=.Attribute a b p:=by
 have k:=Z5q e
 generalize vw e=v at h k
 cases v with
 |attr=>cases h;exact k
 |_=>exact nn h
theorem Zay {e a b} (h:ZhH (vw e)=some (a,b)):∃p,e=.Subscript a b p:=by
 have k:=Z5q e
 generalize vw e=v at h k
 cases v with
 |sub=>cases h;exact ⟨_,k⟩
 |_=>exact nn h
theorem Zbq {e a o b} (h:Zic (vw e)=some (a,o,b)):∃p,e=.BinOp a o b p:=by
 have k:=Z5q e
 generalize vw e=v at h k
 cases v with
 |bin=>cases h;exact ⟨_,k⟩
 |_=>exact nn h
noncomputable def ZiC (c:Const):Option Int:=match c with| .int i=>some i|_=>none
noncomputable def Zim (c:Const):Option Str:=match c with| .str i=>some i|_=>none
noncomputable def ZgN (c:Const):Bool:=match c with| .none=>true|_=>false
noncomputable def Zf4 (e:PySem.Expr):Option Int:=b0 (constV (vw e)) ZiC
theorem Z3f {e i} (h:Zf4 e=some i):∃k p,e=.Constant (.int i) k p:=by
 obtain ⟨c,hc,h⟩:=Zb h
 obtain ⟨k,p,e⟩:=Z2H hc
 cases c with
 |int j=>exact ⟨k,p,sj h▸e⟩
 |_=>exact nn h
noncomputable def Z0S (f:PySem.Expr→Option CE):List PySem.Expr→Option (List CE)
 |[]=>some []
 |e::r=>b2 (f e) (Z0S f r) fun c cs=>some (c::cs)
noncomputable def lim (f:PySem.Expr→Option CE) (p:Pr) (l:List PySem.Expr):Option CE:=ifE (decide (l.length≤1000)) (b0 (Z0S f l) fun cs=>some (.pr p cs))
theorem Z6P {f:PySem.Expr→Option CE} {p:Pr} {l c} (h:lim f p l=some c):l.length≤1000∧∃cs,Z0S f l=some cs∧c=.pr p cs:=by
 obtain ⟨h1,h⟩:=ZC h
 obtain ⟨cs,h2,h⟩:=Zb h
 cases h
 exact ⟨of_decide_eq_true h1,cs,h2,rfl⟩
noncomputable def frz (f:PySem.Expr→Option CE) (e:PySem.Expr):Option CE:=eo (ZeW (vw e)) (lim f .mkFl) (f e)
theorem Z6W {f:PySem.Expr→Option CE} {e c} (h:frz f e=some c):(∃l p cs,e=.List l p∧l.length≤1000∧Z0S f l=some cs∧c=.pr .mkFl cs)∨f e=some c:=by
 rcases Z7G h with ⟨l,h1,h⟩|⟨_,h⟩
 ·obtain ⟨p,e1⟩:=Z9A h1
  obtain ⟨h2,cs,h3,h4⟩:=Z6P h
  exact .inl ⟨l,p,cs,e1,h2,h3,h4⟩
 ·exact .inr h
noncomputable def ZgM:Operator→Option Pr
 | .Add=>some .add
 | .Sub=>some .sub
 | .Mult=>some .mul
 | .FloorDiv=>some .fdiv
 | .Mod=>some .mod
 |_=>none
noncomputable def Za2:CmpOp→Option Pr
 | .Lt=>some .lt
 | .LtE=>some .le
 | .Gt=>some .gt
 | .GtE=>some .ge
 |_=>none
noncomputable def Z0Y (op:BoolOp):List CE→Option CE
 |[]=>none
 |[c]=>some c
 |c::r=>(Z0Y op r).map fun d=>match op with| .And=>.andd c d| .Or=>.orr c d
noncomputable def Zew (f:PySem.Expr→Option CE):Option PySem.Expr→Option CE
 |none=>some (.cst .none)
 |some e=>f e
noncomputable def strConst (e:PySem.Expr):Option (List Nat):=b0 (constV (vw e)) fun c=>b0 (Zim c) fun s=>ifE (decide (s.length≤1000)) (some s.cps.toList)
theorem Z0w {e:PySem.Expr} {x:List Nat} (h:strConst e=some x):∃y k pos,e=.Constant (.str y) k pos∧x=y.cps.toList∧y.length≤1000:=by
 obtain ⟨c,hc,h⟩:=Zb h
 obtain ⟨k,p,e⟩:=Z2H hc
 obtain ⟨s,hs,h⟩:=Zb h
 obtain ⟨hl,h'⟩:=ZC h
 cases c with
 |str i=>exact ⟨s,k,p,sj hs▸e,(sj h').symm,of_decide_eq_true hl⟩
 |_=>exact nn hs
noncomputable def Z0I:List (Option PySem.Expr)→Option (List (List Nat))
 |[]=>some []
 |k::r=>b2 (b0 k strConst) (Z0I r) fun s t=>some (s::t)
noncomputable def Z28:List PySem.Expr→Bool
 |[]=>true
 |e::r=>(Zf4 e).isSome&&Z28 r
noncomputable def ZbW (k:List (List Nat)) (vs:List PySem.Expr):Bool:=
 k.length==vs.length&&decide (2≤k.length)&&decide k.Nodup&&(k.any dictMarks.contains)&&(decide (k.length≤15)||(decide (17<k.length)&&decide (k.length≤32)&&Z28 vs))
noncomputable def Z3N (s:String) (x:Str):Bool:=x==Str.ofString s
structure Names where
 T:List Str
 fn:Str→Option Nat
noncomputable def Z1y (sc:Scope) (x:Str):Bool:=sc.names.lookup x==some NameKind.globalImplicit
noncomputable def Z6c:Const→Option MV
 | .none=>some .none
 | .bool b=>some (.bool b)
 | .int i=>some (.int i)
 | .str s=>ifE (decide (s.length≤1000)) (some (.str s.cps.toList))
 |_=>none
noncomputable def Z0e (e:PySem.Expr):Bool:=match constV (vw e) with|some c=>ZgN c|none=>false
theorem Z1x {e:PySem.Expr} (h:Z0e e=true):∃k p,e=.Constant .none k p:=by
 unfold Z0e at h
 cases hc:constV (vw e) with
 |none=>rw [hc] at h;cases h
 |some c=>
  rw [hc] at h
  cases c with
  |none=>exact Z2H hc
  |_=>exact ff h
noncomputable def Z55 (sc:Scope) (t:PySem.Expr):Option Pr:=
 eo (Z3O (vw t)) (fun x=>ifE (Z1y sc x.1) (eb (Z3N "bool" x.1) (some .isBool) (ifE (Z3N "str" x.1) (some .isStr))))
  (b0 (tupleV (vw t)) fun l=>b0 (hd2 l) fun q=>b2 (Z3O (vw q.1)) (Z3O (vw q.2)) fun x y=>ifE (Z1y sc x.1&&Z1y sc y.1&&Z3N "bool" x.1&&Z3N "str" y.1) (some .isBoolStr))
noncomputable def one (f:PySem.Expr→Option CE) (p:Pr) (l:List PySem.Expr):Option CE:=b0 (hd1 l) fun a=>b0 (f a) fun c=>some (.pr p [c])
noncomputable def two (f g:PySem.Expr→Option CE) (p:Pr) (a b:PySem.Expr):Option CE:=b2 (f a) (g b) fun c d=>some (.pr p [c,d])
noncomputable def Z5e (sc:Scope) (N:Names) (f:PySem.Expr→Option CE) (x:Str) (args:List PySem.Expr):Option CE:=
 ifE (Z1y sc x) (eo (N.fn x) (fun k=>b0 (Z0S f args) fun cs=>some (.call k cs))
  (eb (Z3N "len" x) (one f .len args)
   (eb (Z3N "ord" x) (one f .ord args)
   (eb (Z3N "str" x) (one f .strOf args)
   (eb (Z3N "repr" x) (one f .repr args)
   (eb (Z3N "tuple" x) (one f .tuple args)
   (eb (Z3N "range" x) (one f .range args)
   (b0 (hd2 args) fun q=>eb (Z3N "max" x) (two f f .max q.1 q.2)
    (ifE (Z3N "isinstance" x) (b2 (f q.1) (Z55 sc q.2) fun c p=>some (.pr p [c])))))))))))
noncomputable def Z5N (e:PySem.Expr):Bool:= !c0V (vw e)
noncomputable def Z5d (f:PySem.Expr→Option CE) (o:PySem.Expr) (m:Str) (args:List PySem.Expr):Option CE:=
 ifE (Z5N o) (match args with
  |[]=>ifE (Z3N "lower" m) (b0 (f o) fun c=>some (.pr .lower [c]))
  |a::r=>(match r with
   |[]=>
    eb (Z3N "append" m) (b2 (f o) (f a) fun c d=>some (.pr .append [.pr .islst [c],d]))
    (eb (Z3N "join" m) (b2 (strConst o) (f a) fun c d=>some (.pr .join [.cst (.str c),d]))
    (eb (Z3N "index" m) (b2 (strConst o) (f a) fun c d=>some (.pr .index [.cst (.str c),d]))
    (ifE (Z3N "startswith" m) (b2 (f o) (strConst a) fun c d=>some (.pr .startswith [c,.cst (.str d)])))))
   |b::r=>(match r with
    |[]=>
     eb (Z3N "replace" m) (b2 (strConst a) (strConst b) fun x y=>b0 (f o) fun c=>some (.pr (.replace x y) [c]))
     (ifE (Z3N "get" m) (b2 (f a) (f b) fun x y=>b0 (f o) fun c=>some (.pr .dget [.pr .isdict [c],x,y])))
    |_::_=>none)))
noncomputable def Za1 (f:PySem.Expr→Option CE) (l:PySem.Expr) (op:CmpOp) (r:PySem.Expr):Option CE:=
 match op with
 | .Is=>ifE (Z0e r) (b0 (f l) fun c=>some (.pr .isNone [c]))
 | .IsNot=>ifE (Z0e r) (b0 (f l) fun c=>some (.pr .notNone [c]))
 | .In=>two f (frz f) .inn l r
 | .Eq=>two f (frz f) .eq l r
 | .NotEq=>two f (frz f) .ne l r
 | .Lt=>two f f .lt l r
 | .LtE=>two f f .le l r
 | .Gt=>two f f .gt l r
 | .GtE=>two f f .ge l r
 | .NotIn=>none
noncomputable def Zf0:Operator→Bool
 | .Pow=>true
 |_=>false
noncomputable def Z70 (x:PySem.Expr):Option CE:=
 eo (Zf4 x) (fun k=>some (.cst (.int (-k))))
  (b0 (Zic (vw x)) fun q=>b2 (Zf4 q.1) (Zf4 q.2.2) fun a b=>ifE (Zf0 q.2.1&&a==2&&b==63) (some (.cst (.int (-9223372036854775808)))))
noncomputable def ZY (x:Str):Bool:= !dictMarks.contains x.cps.toList
noncomputable def Zfp:Str:=Str.ofString ".0"
noncomputable def Z7M (T:List Str) (sc:Scope) (x:Str) (sc':Scope):Bool:=
 sc'.kind== .function&&sc'.names.lookup x==some NameKind.local&&decide T.Nodup&& !T.contains Zfp&&T.all ZY&&
 sc'.names.all fun p=>(p.2== .local&&(p.1==x||p.1==Zfp)&&sc'.names.lookup p.1==some NameKind.local)||p.2== .globalImplicit||(p.2== .free&&sc.names.lookup p.1==some .cell)
noncomputable def ZbX (f:PySem.Expr→Option CE) (op:UnaryOp) (x:PySem.Expr):Option CE:=
 match op with
 | .Not=>b0 (f x) fun c=>some (.pr .notb [c])
 | .USub=>Z70 x
 |_=>none
noncomputable def ZbZ (f:PySem.Expr→Option CE) (l:PySem.Expr) (ops:List CmpOp) (rs:List PySem.Expr):Option CE:=
 eo (hd1 ops) (fun op=>b0 (hd1 rs) fun r=>Za1 f l op r)
  (b2 (hd2 ops) (hd2 rs) fun o m=>b2 (Za2 o.1) (Za2 o.2) fun p q=>b2 (f l) (f m.1) fun x y=>b0 (f m.2) fun z=>some (.chain p q x y z))
noncomputable def Zc0 (N:Names) (sc:Scope) (f:PySem.Expr→Option CE) (fn:PySem.Expr) (args:List PySem.Expr) (nokw:Bool) (line:Nat):Option CE:=
 ifE nokw (eo (Z3O (vw fn)) (fun x=>Z5e sc N f x.1 args) (b0 (ZfH (vw fn)) fun q=>ifE (q.2.2.endLine==line) (Z5d f q.1 q.2.1 args)))
noncomputable def Za0 (f:PySem.Expr→Option CE) (v i:PySem.Expr):Option CE:=
 eo (ZbF (vw i)) (fun q=>b0 (f v) fun x=>b2 (Zew f q.1) (Zew f q.2) fun y z=>some (.pr .slice [x,y,z]))
  (two (frz f) f .getitem v i)
noncomputable def Z9B (g:List Comprehension):Option (Str×Pos×PySem.Expr):=
 b0 (hd1 g) fun c=>b0 (Z3O (vw c.target)) fun x=>ifE (c.ifs.isEmpty&&c.is_async==0) (some (x.1,x.2,c.iter))
noncomputable def ZbY (T:List Str) (f f':PySem.Expr→Option CE) (sc sc':Scope) (elt:PySem.Expr) (gens:List Comprehension):Option CE:=
 b0 (Z9B gens) fun q=>b0 (Z6R q.1 T) fun k=>b2 (f' elt) (f q.2.2) fun c d=>ifE (Z7M T sc q.1 sc') (some (.comp k c d))
noncomputable def Zfu (f:PySem.Expr→Option CE) (ks:List (Option PySem.Expr)) (vs:List PySem.Expr):Option CE:=
 b2 (Z0I ks) (Z0S f vs) fun k c=>ifE (ZbW k vs) (some (.pr (.mkDict k) c))
noncomputable def ZeZ:NameKind→Bool
 | .local=>true
 | .cell=>true
 | .free=>true
 |_=>false
noncomputable def Z7N (T:List Str) (sc:Scope) (x:Str):Option CE:=
 b0 (sc.names.lookup x) fun k=>ifE (ZeZ k&& !(x==dbg||x==Zc3)) (b0 (Z6R x T) fun i=>some (.var i))
noncomputable def Zc (N:Names):Nat→Scope→PySem.Expr→Option CE
 |0,_,_=>none
 |n+1,sc,e=>match e with
  | .Constant c _ _=>b0 (Z6c c) fun m=>some (.cst m)
  | .Name x _=>Z7N N.T sc x
  | .BoolOp op vs _=>b0 (Z0S (Zc N n sc) vs) (Z0Y op)
  | .BinOp l op r _=>b0 (ZgM op) fun p=>two (Zc N n sc) (frz (Zc N n sc)) p l r
  | .UnaryOp op x _=>ZbX (Zc N n sc) op x
  | .IfExp t a b _=>b0 (Zc N n sc t) fun x=>b2 (Zc N n sc a) (Zc N n sc b) fun y z=>some (.cond x y z)
  | .Compare l ops rs _=>ZbZ (Zc N n sc) l ops rs
  | .Call fn args kws p=>Zc0 N sc (Zc N n sc) fn args kws.isEmpty p.line
  | .Subscript v i _=>Za0 (Zc N n sc) v i
  | .Tuple elts _ _=>lim (Zc N n sc) .mkTup elts
  | .List elts _=>lim (Zc N n sc) .mkList elts
  | .Dict ks vs _=>Zfu (Zc N n sc) ks vs
  | .ListComp elt gens sc' _=>ZbY N.T (Zc N n sc) (Zc N n sc') sc sc' elt gens
  |_=>none
noncomputable def Zf1:NameKind→Bool
 | .local=>true
 | .cell=>true
 |_=>false
noncomputable def Z11 (sc:Scope) (N:Names) (e:PySem.Expr):Option Nat:=b0 (Z3O (vw e)) fun x=>b0 (sc.names.lookup x.1) fun k=>ifE (Zf1 k) (Z6R x.1 N.T)
noncomputable def Z19 (sc:Scope) (N:Names):List PySem.Expr→Option (List Nat)
 |[]=>some []
 |e::r=>b2 (Z11 sc N e) (Z19 sc N r) fun a b=>some (a::b)
noncomputable def Zd7 (e:PySem.Expr):Bool:=lcV (vw e)
noncomputable def Z9f (e:PySem.Expr):Bool:=match tupleV (vw e) with
 |some es=> !((es.length==2||es.length==3)&&es.all (constantsAlone 8))
 |none=>true
noncomputable def p0s:Pos:=⟨0,0,0,0⟩
noncomputable def Zfw (N:Names) (sc:Scope) (f:PySem.Expr→Option CE) (t e:PySem.Expr):Option CS:=
 eo (Z3O (vw t)) (fun x=>b2 (Z11 sc N (.Name x.1 p0s)) (f e) fun k c=>some (.assign k c))
  (eo (tupleV (vw t)) (fun es=>ifE (Z9f e) (b2 (Z19 sc N es) (f e) fun ks c=>ifE (decide ks.Nodup) (some (.unpack ks c))))
   (b0 (ZhH (vw t)) fun q=>b2 (f q.1) (f q.2) fun a b=>b0 (f e) fun c=>some (.setidx a b c)))
noncomputable def Zf2:Operator→Bool
 | .Add=>true
 |_=>false
noncomputable def Zfv (N:Names) (sc:Scope) (f:PySem.Expr→Option CE) (t:PySem.Expr) (op:Operator) (e:PySem.Expr):Option CS:=
 ifE (Zf2 op) (b0 (Z3O (vw t)) fun x=>ifE (!(x.1==dbg||x.1==Zc3)) (b2 (Z11 sc N (.Name x.1 p0s)) (f e) fun k c=>some (.assign k (.pr .iadd [.var k,c]))))
noncomputable def Zfs (N:Names) (sc:Scope) (f:PySem.Expr→Option CE) (t it:PySem.Expr) (b:List CS):Option CS:=
 eo (Z3O (vw t)) (fun x=>b2 (Z11 sc N (.Name x.1 p0s)) (frz f it) fun k c=>some (.for k c b))
  (b0 (tupleV (vw t)) fun es=>b2 (Z19 sc N es) (frz f it) fun ks c=>some (.forT ks c b))
noncomputable def Z47 (N:Names) (sc:Scope):Nat→Stmt→Option CS
 |0,_=>none
 |n+1,st=>match st with
  | .Expr e _=>ifE (!Zd7 e) (b0 (Zc N n sc e) fun c=>some (.expr c))
  | .Assign ts e _=>b0 (hd1 ts) fun t=>ifE (!Zd7 e) (Zfw N sc (Zc N n sc) t e)
  | .AugAssign t op e _=>Zfv N sc (Zc N n sc) t op e
  | .Return v _=>b0 v fun e=>b0 (frz (Zc N n sc) e) fun c=>some (.ret c)
  | .If t a b _=>b0 (Zc N n sc t) fun c=>some (.ite c (a.map fun s=>(Z47 N sc n s).getD .bad) (b.map fun s=>(Z47 N sc n s).getD .bad))
  | .While t a o _=>ifE o.isEmpty (b0 (Zc N n sc t) fun c=>some (.while c (a.map fun s=>(Z47 N sc n s).getD .bad)))
  | .For t it a o _=>ifE o.isEmpty (Zfs N sc (Zc N n sc) t it (a.map fun s=>(Z47 N sc n s).getD .bad))
  |_=>none
noncomputable def Z69 (N:Names) (sc:Scope) (n:Nat) (b:List Stmt):List CS:=b.map fun s=>(Z47 N sc n s).getD .bad
noncomputable def Zg6 (b:List Str):List Str:=b
noncomputable def Z7F (x:Str):List (Str×Addr×Nat)→Option Nat
 |[]=>none
 |(y,_,i)::r=>if x==y then some i else Z7F x r
noncomputable def Z14 (x:Str):Option Nat:=Z7F x fnTab
noncomputable def Z1Z (sc:Scope):List Str:=(sc.names.filter fun x=>x.2== .local||x.2== .cell).map (·.1)
noncomputable def Z0r (i:Nat):List Str:=(if i=17 then ["node"] else if i=35 then ["test"] else if i=73 then ["arg"] else if i=75 then ["k"] else []:List String).map Str.ofString
noncomputable def Zhk (s:Stmt):Option (Arguments×List Stmt×Scope):=(fnD s).map Prod.snd
noncomputable def Zft (i:Nat):Option Fn:=b0 (P.main.body[i]?) fun st=>b0 (Zhk st) fun q=>
 some ⟨q.1.args.length,(Z1Z q.2.2++Z0r i).length,(if i=45 then [.int 0,.none,.int 0] else []),Z69 ⟨Z1Z q.2.2++Z0r i,Z14⟩ q.2.2 40 q.2.1⟩
end Mine
namespace Mine
theorem Z1D:SL=sizeLine:=by rw [sizeLine_eq];rfl
noncomputable def lstr (s:List Nat):Str:=⟨s.toArray⟩
@[simp] theorem Zw (s:List Nat):(lstr s).length=s.length:=by simp [lstr,Str.length]
@[simp] theorem Z9r (s:List Nat):(lstr s).cps.toList=s:=rfl
theorem Z18 {a b:List Nat}:lstr a=lstr b↔a=b:=by
 constructor
 ·intro h;have:=congrArg (fun x:Str=>x.cps.toList) h;simpa using this
 ·rintro rfl;rfl
theorem Z3Q (x:Str):lstr x.cps.toList=x:=by cases x;rfl
section
variable (w:World)
mutual
noncomputable def Rep (σ:Z4) (h:Heap):MV→Value→Prop
 | .none,v=>v=.none
 | .bool b,v=>v=.bool b
 | .int i,v=>∃t,v=.int i t
 | .str s,v=>s.length≤SL∧∃t,v=.str (lstr s) t
 | .tup l,v=>l.length≤SL∧∃a vs,v=.ref a∧h.IsTuple a vs∧ZA σ h l vs.toList
 | .lst a,v=>v=.ref a
 | .fl l,v=>l.length≤SL∧∃a vs,v=.ref a∧σ a=none∧h.IsList a vs∧ZA σ h l vs.toList
 | .dict kvs,v=>∃a f,v=.ref a∧a≠sysModules∧h.MapOf (strKind P w) a f∧(∃k∈dictMarks,(f (lstr k)).isSome=true)∧
   (∀k,Zz k kvs=none→f (lstr k)=none)∧Z6n σ h kvs f
 | .rng n,v=>n.natAbs<2^30∧∃a t u x,v=.ref a∧IsRange h a 0 n 1 t u x
noncomputable def ZA (σ:Z4) (h:Heap):List MV→List Value→Prop
 |[],vs=>vs=[]
 |m::ms,vs=>∃v r,vs=v::r∧Rep σ h m v∧ZA σ h ms r
noncomputable def Z6n (σ:Z4) (h:Heap):List (List Nat×MV)→(Str→Option Value)→Prop
 |[],_=>True
 |(k,m)::r,f=>(∃u,f (lstr k)=some u∧Rep σ h m u)∧Z6n σ h r f
end
noncomputable def ZU (h:Heap) (b:Addr):Prop:=
 (∀vs,¬h.IsTuple b vs)∧(∀vs,¬h.IsList b vs)∧(∀n t u x,¬IsRange h b 0 n 1 t u x)∧
 (∀f,h.MapOf (strKind P w) b f→∀k∈dictMarks,f (lstr k)=none)
noncomputable def Pres (X:Addr→Prop) (σ:Z4) (h:Heap) (σ':Z4) (h':Heap):Prop:=
 ∀b o,h.get? b=some o→σ b=none→¬X b→h'.get? b=some o∧σ' b=none
theorem Pres.refl {X σ h}:Pres X σ h σ h:=fun _ _ e e' _=>⟨e,e'⟩
theorem Pres.trans {X σ h σ' h' σ'' h''} (a:Pres X σ h σ' h') (b:Pres X σ' h' σ'' h''):Pres X σ h σ'' h'':=
 fun x o e e' n=>let ⟨e1,e2⟩:=a x o e e' n;b x o e1 e2 n
theorem Pres.weak {X Y:Addr→Prop} {σ h σ' h'} (a:Pres X σ h σ' h') (hXY:∀b,X b→Y b):Pres Y σ h σ' h':=
 fun x o e e' n=>a x o e e' (fun hx=>n (hXY x hx))
structure StL (σ:Z4) (h:Heap):Prop where
 lists:∀a l,σ a=some l→l.length≤SL∧∃vs,h.PlainList a vs∧ZA w σ h l vs.toList
variable {w}
theorem Z07 {σ h a l} (S:StL w σ h) (e:σ a=some l):∃vs,h.IsList a vs:=let ⟨_,vs,x,_⟩:=S.lists a l e;⟨vs,x.isList⟩
theorem Z3p {σ h a vs} (S:StL w σ h) (x:h.IsTuple a vs):σ a=none:=by
 cases e:σ a with
 |none=>rfl
 |some l=>
  obtain ⟨us,o,ho,hc,_⟩:=Z07 S e
  obtain ⟨o',ho',hc',_⟩:=x
  rw [ho] at ho';cases ho';rw [hc] at hc';exact absurd hc' (by decide)
theorem Z4K {σ h a f} (S:StL w σ h) (x:h.MapOf (strKind P w) a f):σ a=none:=by
 cases e:σ a with
 |none=>rfl
 |some l=>
  obtain ⟨us,o,ho,hc,_⟩:=Z07 S e
  obtain ⟨o',es,ep,ho',hx,_⟩:=x
  rw [ho] at ho';cases ho';have:=hx.1;rw [hc] at this;exact absurd this (by decide)
theorem Z3q {σ h a n t u x} (S:StL w σ h) (r:IsRange h a 0 n 1 t u x):σ a=none:=by
 cases e:σ a with
 |none=>rfl
 |some l=>
  obtain ⟨us,o,ho,hc,_⟩:=Z07 S e
  unfold IsRange at r
  rw [ho] at r;cases r;exact absurd (show Value.type "range" =Value.type "list" from hc) (by decide)
theorem Pres.tuple {X σ h σ' h' a vs} (p:Pres X σ h σ' h') (S:StL w σ h) (hX:∀b,X b→ZU w h b) (x:h.IsTuple a vs):h'.IsTuple a vs:=by
 obtain ⟨o,ho,r⟩:=id x
 exact ⟨o,(p a o ho (Z3p S x) fun hx=>(hX a hx).1 vs x).1,r⟩
theorem Pres.list {X σ h σ' h' a vs} (p:Pres X σ h σ' h') (hX:∀b,X b→ZU w h b) (hs:σ a=none) (x:h.IsList a vs):h'.IsList a vs∧σ' a=none:=by
 obtain ⟨o,ho,r⟩:=id x
 have:=p a o ho hs fun hx=>(hX a hx).2.1 vs x
 exact ⟨⟨o,this.1,r⟩,this.2⟩
theorem Pres.range {X σ h σ' h' a n t u x} (p:Pres X σ h σ' h') (S:StL w σ h) (hX:∀b,X b→ZU w h b) (r:IsRange h a 0 n 1 t u x):IsRange h' a 0 n 1 t u x:=
 (p a _ r (Z3q S r) fun hx=>(hX a hx).2.2.1 _ _ _ _ r).1
theorem Pres.map {X σ h σ' h' a f} (p:Pres X σ h σ' h') (S:StL w σ h) (hX:∀b,X b→ZU w h b) (x:h.MapOf (strKind P w) a f)
  (k:List Nat) (hk:k∈dictMarks) (h1:(f (lstr k)).isSome=true):h'.MapOf (strKind P w) a f:=by
 obtain ⟨o,es,ep,ho,r⟩:=id x
 exact ⟨o,es,ep,(p a o ho (Z4K S x) fun hx=>(by rw [(hX a hx).2.2.2 f x k hk] at h1;cases h1)).1,r⟩
mutual
theorem Rep.pres {X σ h σ' h'} (p:Pres X σ h σ' h') (S:StL w σ h) (hX:∀b,X b→ZU w h b):∀(m:MV) {v:Value},Rep w σ h m v→Rep w σ' h' m v
 | .none,_,r=>r
 | .bool _,_,r=>r
 | .int _,_,r=>r
 | .str _,_,r=>r
 | .tup l,_,r=>by
  obtain ⟨hl,a,vs,e,x,y⟩:=r
  exact ⟨hl,a,vs,e,p.tuple S hX x,ZA.pres p S hX l y⟩
 | .lst _,_,r=>r
 | .fl l,_,r=>by
  obtain ⟨hl,a,vs,e,hs,x,y⟩:=r
  have:=p.list hX hs x
  exact ⟨hl,a,vs,e,this.2,this.1,ZA.pres p S hX l y⟩
 | .dict kvs,_,r=>by
  obtain ⟨a,f,e,hn,x,⟨k,hk,h1⟩,hno,y⟩:=r
  exact ⟨a,f,e,hn,p.map S hX x k hk h1,⟨k,hk,h1⟩,hno,Z6n.pres p S hX kvs y⟩
 | .rng n,_,r=>by
  obtain ⟨hb,a,t,u,x,e,y⟩:=r
  exact ⟨hb,a,t,u,x,e,p.range S hX y⟩
theorem ZA.pres {X σ h σ' h'} (p:Pres X σ h σ' h') (S:StL w σ h) (hX:∀b,X b→ZU w h b):∀(l:List MV) {vs:List Value},ZA w σ h l vs→ZA w σ' h' l vs
 |[],_,r=>r
 |m::ms,_,r=>by
  obtain ⟨v,rest,e,x,y⟩:=r
  exact ⟨v,rest,e,Rep.pres p S hX m x,ZA.pres p S hX ms y⟩
theorem Z6n.pres {X σ h σ' h'} (p:Pres X σ h σ' h') (S:StL w σ h) (hX:∀b,X b→ZU w h b):∀(l:List (List Nat×MV)) {f:Str→Option Value},Z6n w σ h l f→Z6n w σ' h' l f
 |[],_,_=>trivial
 |(k,m)::ms,_,r=>by
  obtain ⟨⟨u,e,x⟩,y⟩:=r
  exact ⟨⟨u,e,Rep.pres p S hX m x⟩,Z6n.pres p S hX ms y⟩
end
theorem ZA.length {σ h}:∀{l:List MV} {vs:List Value},ZA w σ h l vs→vs.length=l.length
 |[],_,r=>by cases r;rfl
 |m::ms,_,r=>by
  obtain ⟨v,rest,rfl,_,y⟩:=r
  simp [ZA.length y]
theorem ZA.at {σ h}:∀{l:List MV} {vs:List Value} {i:Nat} {m:MV},ZA w σ h l vs→l[i]? =some m→∃v,vs[i]? =some v∧Rep w σ h m v
 |[],_,_,_,_,e=>by simp at e
 |x::ms,_,0,m,r,e=>by
  obtain ⟨v,rest,rfl,h1,_⟩:=r
  simp at e;subst e;exact ⟨v,rfl,h1⟩
 |x::ms,_,i+1,m,r,e=>by
  obtain ⟨v,rest,rfl,_,y⟩:=r
  simpa using ZA.at y (by simpa using e)
theorem ZA.set {σ h}:∀{l:List MV} {vs:List Value} {i:Nat} {m:MV} {v:Value},ZA w σ h l vs→Rep w σ h m v→ZA w σ h (l.set i m) (vs.set i v)
 |[],_,_,_,_,r,_=>by cases r;exact rfl
 |x::ms,_,0,m,v,r,e=>by
  obtain ⟨u,rest,rfl,_,y⟩:=r
  exact ⟨v,rest,rfl,e,y⟩
 |x::ms,_,i+1,m,v,r,e=>by
  obtain ⟨u,rest,rfl,h1,y⟩:=r
  exact ⟨u,_,rfl,h1,ZA.set y e⟩
theorem ZA.append {σ h}:∀{l:List MV} {vs:List Value} {l':List MV} {vs':List Value},ZA w σ h l vs→ZA w σ h l' vs'→ZA w σ h (l++l') (vs++vs')
 |[],_,_,_,r,s=>by cases r;exact s
 |x::ms,_,_,_,r,s=>by
  obtain ⟨u,rest,rfl,h1,y⟩:=r
  exact ⟨u,_,rfl,h1,ZA.append y s⟩
theorem ZA.one {σ h m v} (r:Rep w σ h m v):ZA w σ h [m] [v]:=⟨v,[],rfl,r,rfl⟩
theorem ZA.take {σ h}:∀{l:List MV} {vs:List Value} (n:Nat),ZA w σ h l vs→ZA w σ h (l.take n) (vs.take n)
 |_,_,0,_=>by simp;exact rfl
 |[],_,_+1,r=>by cases r;simp;exact rfl
 |x::ms,_,n+1,r=>by
  obtain ⟨u,rest,rfl,h1,y⟩:=r
  exact ⟨u,_,rfl,h1,ZA.take n y⟩
theorem ZA.drop {σ h}:∀{l:List MV} {vs:List Value} (n:Nat),ZA w σ h l vs→ZA w σ h (l.drop n) (vs.drop n)
 |_,_,0,r=>r
 |[],_,_+1,r=>by cases r;exact rfl
 |x::ms,_,n+1,r=>by
  obtain ⟨u,rest,rfl,h1,y⟩:=r
  exact ZA.drop n y
end
structure St (w:World) (h₀:Heap) (os₀:OsState) (σ:Z4) (s:Shared):Prop extends StL w σ s.heap where
 keep:∀b o,h₀.get? b=some o→s.heap.get? b=some o
 sep:∀b o,h₀.get? b=some o→σ b=none
 gens:s.gens= #[]
 os:s.os=os₀
 toks:0<s.toks
theorem St.toksTo {w h₀ os₀ σ s} (S:St w h₀ os₀ σ s) {k:Nat} (hk:0<k):St w h₀ os₀ σ {s with toks:=k}:=
 ⟨⟨S.lists⟩,S.keep,S.sep,S.gens,S.os,hk⟩
theorem St.untracked_new {w h₀ os₀ σ s} (S:St w h₀ os₀ σ s) {a:Addr} (h:s.heap.get? a=none):σ a=none:=by
 cases e:σ a with
 |none=>rfl
 |some l=>obtain ⟨vs,o,ho,_⟩:=Z07 S.toStL e;rw [h] at ho;cases ho
theorem Heap.get?_size (h:Heap):h.get? h.objs.size=none:=by
 cases e:h.get? h.objs.size with
 |none=>rfl
 |some o=>exact absurd (Heap.lt_size e) (Nat.lt_irrefl _)
theorem Pres.of_keeps {X σ h h'} (k:∀b o,h.get? b=some o→h'.get? b=some o):Pres X σ h σ h':=fun b o e e' _=>⟨k b o e,e'⟩
theorem noX {w} {h:Heap}:∀b,(fun _:Addr=>False) b→ZU w h b:=fun _ x=>x.elim
theorem St.grow {w h₀ os₀ σ s} (S:St w h₀ os₀ σ s) {h':Heap} {k:Nat} (hk:0<k) (g:∀b o,s.heap.get? b=some o→h'.get? b=some o):St w h₀ os₀ σ {s with heap:=h',toks:=k}:=
 ⟨⟨fun a l e=>by
  obtain ⟨hl,vs,x,y⟩:=S.lists a l e
  exact ⟨hl,vs,x.at fun o ho=>g _ _ ho,ZA.pres (X:=fun _=>False) (Pres.of_keeps g) S.toStL noX l y⟩⟩,fun b o e=>g _ _ (S.keep b o e),S.sep,S.gens,S.os,hk⟩
theorem St.upd {w h₀ os₀ σ s} (S:St w h₀ os₀ σ s) {a:Addr} {h':Heap} {k:Nat} {l:List MV} {vs:Array Value} (hk:0<k) (hnew:∀o,h₀.get? a≠some o)
  (g:∀b o,b≠a→s.heap.get? b=some o→h'.get? b=some o) (p:Pres (fun _=>False) σ s.heap (upd σ a l) h') (hl:l.length≤SL) (x:h'.PlainList a vs) (y:ZA w (Mine.upd σ a l) h' l vs.toList):
  St w h₀ os₀ (Mine.upd σ a l) {s with heap:=h',toks:=k}:=by
 refine ⟨⟨fun b l' e=>?_⟩,fun b o e=>g _ _ (fun hb=>by subst hb;exact hnew o e) (S.keep b o e),fun b o e=>?_,S.gens,S.os,hk⟩
 ·by_cases hb:b=a
  ·subst hb;rw [Z9] at e;cases e;exact ⟨hl,vs,x,y⟩
  ·rw [Zp hb] at e
   obtain ⟨hl',us,x',y'⟩:=S.lists b l' e
   exact ⟨hl',us,x'.at fun o ho=>g _ _ hb ho,ZA.pres p S.toStL noX l' y'⟩
 ·rw [Zp (fun hb=>by subst hb;exact hnew o e)];exact S.sep b o e
theorem ZG.none {σ σ':Z4} (hs:ZG σ' σ) {a:Addr} (e:σ a=none):σ' a=none:=by
 cases e':σ' a with
 |none=>rfl
 |some l=>rw [hs a l e'] at e;cases e
mutual
theorem Rep.sub {w} {σ σ':Z4} {h:Heap} (hs:ZG σ' σ):∀(m:MV) {v:Value},Rep w σ h m v→Rep w σ' h m v
 | .none,_,r=>r
 | .bool _,_,r=>r
 | .int _,_,r=>r
 | .str _,_,r=>r
 | .tup l,_,r=>by
  obtain ⟨hl,a,vs,e,x,y⟩:=r
  exact ⟨hl,a,vs,e,x,ZA.sub hs l y⟩
 | .lst _,_,r=>r
 | .fl l,_,r=>by
  obtain ⟨hl,a,vs,e,hs',x,y⟩:=r
  exact ⟨hl,a,vs,e,hs.none hs',x,ZA.sub hs l y⟩
 | .dict kvs,_,r=>by
  obtain ⟨a,f,e,hn,x,hne,hno,y⟩:=r
  exact ⟨a,f,e,hn,x,hne,hno,Z6n.sub hs kvs y⟩
 | .rng n,_,r=>r
theorem ZA.sub {w} {σ σ':Z4} {h:Heap} (hs:ZG σ' σ):∀(l:List MV) {vs:List Value},ZA w σ h l vs→ZA w σ' h l vs
 |[],_,r=>r
 |m::ms,_,r=>by
  obtain ⟨v,rest,e,x,y⟩:=r
  exact ⟨v,rest,e,Rep.sub hs m x,ZA.sub hs ms y⟩
theorem Z6n.sub {w} {σ σ':Z4} {h:Heap} (hs:ZG σ' σ):∀(l:List (List Nat×MV)) {f:Str→Option Value},Z6n w σ h l f→Z6n w σ' h l f
 |[],_,_=>trivial
 |(k,m)::ms,_,r=>by
  obtain ⟨⟨u,e,x⟩,y⟩:=r
  exact ⟨⟨u,e,Rep.sub hs m x⟩,Z6n.sub hs ms y⟩
end
theorem St.sub {w h₀ os₀ σ σ' s} (S:St w h₀ os₀ σ s) (hs:ZG σ' σ):St w h₀ os₀ σ' s:=
 ⟨⟨fun a l e=>let ⟨hl,vs,x,y⟩:=S.lists a l (hs a l e);⟨hl,vs,x,ZA.sub hs l y⟩⟩,S.keep,fun b o e=>hs.none (S.sep b o e),S.gens,S.os,S.toks⟩
theorem Pres.sub {X σ h σ' h' σ''} (p:Pres X σ h σ' h') (hs:ZG σ'' σ'):Pres X σ h σ'' h':=fun b o e e' n=>⟨(p b o e e' n).1,hs.none (p b o e e' n).2⟩
end Mine
namespace Mine
noncomputable def EP (w:World) (h₀:Heap) (os₀:OsState) (σ:Z4) (h:Heap) (Q:ZT):Value→Shared→Prop:=
 fun v s'=>∃m σ',Q m σ'∧Rep w σ' s'.heap m v∧St w h₀ os₀ σ' s'∧Pres (fun _=>False) σ h σ' s'.heap
theorem Z0B {α:Type} {M:Model} {A:Around} {t:Sem α} {Q:α→Shared→Prop} {E:Value→Shared→Prop} {s:Shared} (hs:0<s.toks)
  (h:wpAny M A t (fun a s'=>0<s'.toks→Q a s') E s):wpAny M A t Q E s:=
 wpAny_with_toks (n:=1) hs (wpAny_mono h (fun _ _ x=>x) fun _ _ x _=>x)
section
variable {w:World} {h₀:Heap} {os₀:OsState} {σ:Z4} {s:Shared} {A:Around} {E:Value→Shared→Prop} {Q:ZT}
theorem EP.flat (S:St w h₀ os₀ σ s) {m:MV} {v:Value} (q:Q m σ) (r:Rep w σ s.heap m v) {k:Nat} (hk:0<k):EP w h₀ os₀ σ s.heap Q v {s with toks:=k}:=
 ⟨m,σ,q,r,S.toksTo hk,Pres.refl⟩
theorem EP.here (S:St w h₀ os₀ σ s) {m:MV} {v:Value} (q:Q m σ) (r:Rep w σ s.heap m v):EP w h₀ os₀ σ s.heap Q v s:=
 ⟨m,σ,q,r,S,Pres.refl⟩
theorem EP.int (S:St w h₀ os₀ σ s) {i:Int} (q:Q (.int i) σ) {t k:Nat} (hk:0<k):EP w h₀ os₀ σ s.heap Q (.int i t) {s with toks:=k}:=EP.flat S q ⟨t,rfl⟩ hk
theorem EP.bool (S:St w h₀ os₀ σ s) {b:Bool} (q:Q (.bool b) σ):EP w h₀ os₀ σ s.heap Q (.bool b) s:=EP.here S q rfl
theorem EP.str (S:St w h₀ os₀ σ s) {x:Str} {t k:Nat} (q:Q (.str x.cps.toList) σ) (hl:x.length≤SL) (hk:0<k):EP w h₀ os₀ σ s.heap Q (.str x t) {s with toks:=k}:=
 EP.flat S q ⟨by simpa [Str.length] using hl,t,by rw [Z3Q]⟩ hk
theorem EP.grown (S:St w h₀ os₀ σ s) {m:MV} {v:Value} {h':Heap} {k:Nat} (hk:0<k) (g:∀b o,s.heap.get? b=some o→h'.get? b=some o) (q:Q m σ) (r:Rep w σ h' m v):
  EP w h₀ os₀ σ s.heap Q v {s with heap:=h',toks:=k}:=⟨m,σ,q,r,S.grow hk g,Pres.of_keeps g⟩
theorem EP.trans {σ':Z4} {h h':Heap} {v:Value} {s':Shared} (p:Pres (fun _=>False) σ h σ' h') (e:EP w h₀ os₀ σ' h' Q v s'):EP w h₀ os₀ σ h Q v s':=by
 obtain ⟨m,σ'',q,r,S,p'⟩:=e
 exact ⟨m,σ'',q,r,S,p.trans p'⟩
theorem EP.mono {Q':ZT} {h:Heap} {v:Value} {s':Shared} (e:EP w h₀ os₀ σ h Q v s') (k:∀m σ',Q m σ'→Q' m σ'):EP w h₀ os₀ σ h Q' v s':=by
 obtain ⟨m,σ'',q,r⟩:=e
 exact ⟨m,σ'',k _ _ q,r⟩
theorem Zr (h:Heap) (o:Obj):∀b x,h.get? b=some x→(h.push o).get? b=some x:=fun _ _ e=>Heap.get?_push_of_some o e
theorem Z8K {a b va vb} (S:St w h₀ os₀ σ s) (ra:Rep w σ s.heap a va) (rb:Rep w σ s.heap b vb) (q:Pr.sem .sub [a,b] σ Q):
  wpAny (model P w) A (binaryOp .Sub va vb) (EP w h₀ os₀ σ s.heap Q) E s:=by
 rcases q with ⟨r,h,x,q⟩|q
 ·obtain ⟨i,j,rfl,rfl,h⟩:=Z4D h;cases h;obtain ⟨t,rfl⟩:=ra;obtain ⟨u,rfl⟩:=rb;exact _root_.PySem.P.sub_int (EP.int S q (Nat.succ_pos _))
 ·exact q.elim
theorem Z1K {a:Int} (h0:a≠0) (h:a.natAbs<2^64):a.natAbs.log2<64:=by
 have hn:a.natAbs≠0:=by lia
 exact (Nat.log2_lt hn).mpr h
set_option tactic.hygienic true in
theorem Z57 {a:Int} (h:a.natAbs<2^64):Builtin.Int.intBits a≤64:=by
 unfold Builtin.Int.intBits
 split
 ·lia
 ·rename_i hb
  have:=Z1K (by simpa using hb) h
  lia
theorem Z8O {a b va vb} (S:St w h₀ os₀ σ s) (ra:Rep w σ s.heap a va) (rb:Rep w σ s.heap b vb) (q:Pr.sem .mul [a,b] σ Q):
  wpAny (model P w) A (binaryOp .Mult va vb) (EP w h₀ os₀ σ s.heap Q) E s:=by
 rcases q with ⟨r,h,x,q⟩|q
 ·obtain ⟨i,j,rfl,rfl,h⟩:=Z4D h
  obtain ⟨k,h⟩:=ZC h
  obtain ⟨_,h⟩:=ZC h
  cases h;obtain ⟨t,rfl⟩:=ra;obtain ⟨u,rfl⟩:=rb;exact _root_.PySem.P.mul_int (EP.int S q (Nat.succ_pos _)) (IntMulOk.of_left (Z57 (of_decide_eq_true k)))
 ·exact q.elim
set_option tactic.hygienic true in
theorem Z87 {a b va vb} (S:St w h₀ os₀ σ s) (ra:Rep w σ s.heap a va) (rb:Rep w σ s.heap b vb) (q:Pr.sem .fdiv [a,b] σ Q):
  wpAny (model P w) A (binaryOp .FloorDiv va vb) (EP w h₀ os₀ σ s.heap Q) E s:=by
 rcases q with ⟨r,h,x,q⟩|q
 ·cases h
 ·obtain ⟨i,j,h,h0,h1,q⟩:=q
  cases h;obtain ⟨t,rfl⟩:=ra;obtain ⟨u,rfl⟩:=rb
  refine AutoIntOps.floordiv_1 (by simpa using h0) ?_ (EP.int S q (Nat.succ_pos _))
  unfold Builtin.divisionGoesByPylong
  simp only [Bool.and_eq_true,decide_eq_true_eq,not_and]
  intro hd
  exfalso
  revert hd
  split
  ·lia
  ·rename_i hb
   have h2:=Z1K h0 h1
   lia
theorem Z8P {a b va vb} (S:St w h₀ os₀ σ s) (ra:Rep w σ s.heap a va) (rb:Rep w σ s.heap b vb) (q:Pr.sem .mod [a,b] σ Q):
  wpAny (model P w) A (binaryOp .Mod va vb) (EP w h₀ os₀ σ s.heap Q) E s:=by
 rcases q with ⟨r,h,x,q⟩|q
 ·cases h
 ·obtain ⟨i,j,h,h0,q⟩:=q
  cases h;obtain ⟨t,rfl⟩:=ra;obtain ⟨u,rfl⟩:=rb;exact mod_int' h0 (EP.int S q (Nat.succ_pos _))
theorem Z5f {fi:Int→Int→Bool} {fs:List Nat→List Nat→Bool} {a b:MV} {r:MV×OP} (h:Z9V fi fs a b=some r) (q:Q r.1 σ):
  (∃i j,a=.int i∧b=.int j∧Q (.bool (fi i j)) σ)∨(∃i j,a=.str i∧b=.str j∧Q (.bool (fs i j)) σ):=by
 rcases Z02 h with h|h
 ·obtain ⟨i,j,ea,eb,h⟩:=Z4D h;cases h;exact .inl ⟨i,j,ea,eb,q⟩
 ·obtain ⟨i,j,ea,eb,h⟩:=Z5D h;cases h;exact .inr ⟨i,j,ea,eb,q⟩
theorem ZaF {a b va vb} (S:St w h₀ os₀ σ s) (ra:Rep w σ s.heap a va) (rb:Rep w σ s.heap b vb) (q:Pr.sem .lt [a,b] σ Q):
  wpAny (model P w) A (compareOp .Lt va vb) (EP w h₀ os₀ σ s.heap Q) E s:=by
 rcases q with ⟨r,h,x,q⟩|q
 ·rcases Z5f h q with ⟨i,j,rfl,rfl,q⟩|⟨i,j,rfl,rfl,q⟩
  ·obtain ⟨t,rfl⟩:=ra;obtain ⟨u,rfl⟩:=rb;exact _root_.PySem.P.lt_int (EP.bool S q)
  ·obtain ⟨_,t,rfl⟩:=ra;obtain ⟨_,u,rfl⟩:=rb;exact _root_.PySem.P.lt_str (EP.bool S q)
 ·exact q.elim
theorem ZaG {a b va vb} (S:St w h₀ os₀ σ s) (ra:Rep w σ s.heap a va) (rb:Rep w σ s.heap b vb) (q:Pr.sem .le [a,b] σ Q):
  wpAny (model P w) A (compareOp .LtE va vb) (EP w h₀ os₀ σ s.heap Q) E s:=by
 rcases q with ⟨r,h,x,q⟩|q
 ·rcases Z5f h q with ⟨i,j,rfl,rfl,q⟩|⟨i,j,rfl,rfl,q⟩
  ·obtain ⟨t,rfl⟩:=ra;obtain ⟨u,rfl⟩:=rb;exact _root_.PySem.P.le_int (EP.bool S q)
  ·obtain ⟨_,t,rfl⟩:=ra;obtain ⟨_,u,rfl⟩:=rb;exact _root_.PySem.P.le_str (EP.bool S q)
 ·exact q.elim
theorem ZaI {a b va vb} (S:St w h₀ os₀ σ s) (ra:Rep w σ s.heap a va) (rb:Rep w σ s.heap b vb) (q:Pr.sem .gt [a,b] σ Q):
  wpAny (model P w) A (compareOp .Gt va vb) (EP w h₀ os₀ σ s.heap Q) E s:=by
 rcases q with ⟨r,h,x,q⟩|q
 ·rcases Z5f h q with ⟨i,j,rfl,rfl,q⟩|⟨i,j,rfl,rfl,q⟩
  ·obtain ⟨t,rfl⟩:=ra;obtain ⟨u,rfl⟩:=rb;exact _root_.PySem.P.gt_int (EP.bool S q)
  ·obtain ⟨_,t,rfl⟩:=ra;obtain ⟨_,u,rfl⟩:=rb;exact _root_.PySem.P.gt_str (EP.bool S q)
 ·exact q.elim
theorem ZaJ {a b va vb} (S:St w h₀ os₀ σ s) (ra:Rep w σ s.heap a va) (rb:Rep w σ s.heap b vb) (q:Pr.sem .ge [a,b] σ Q):
  wpAny (model P w) A (compareOp .GtE va vb) (EP w h₀ os₀ σ s.heap Q) E s:=by
 rcases q with ⟨r,h,x,q⟩|q
 ·rcases Z5f h q with ⟨i,j,rfl,rfl,q⟩|⟨i,j,rfl,rfl,q⟩
  ·obtain ⟨t,rfl⟩:=ra;obtain ⟨u,rfl⟩:=rb;exact _root_.PySem.P.ge_int (EP.bool S q)
  ·obtain ⟨_,t,rfl⟩:=ra;obtain ⟨_,u,rfl⟩:=rb;exact _root_.PySem.P.ge_str (EP.bool S q)
 ·exact q.elim
theorem Z8S {a b va vb} (S:St w h₀ os₀ σ s) (ra:Rep w σ s.heap a va) (rb:Rep w σ s.heap b vb) (q:Pr.sem .add [a,b] σ Q):
  wpAny (model P w) A (binaryOp .Add va vb) (EP w h₀ os₀ σ s.heap Q) E s:=by
 have lists:∀{c d:Addr} {vs us:Array Value} {l m:List MV},s.heap.IsList c vs→s.heap.IsList d us→ZA w σ s.heap l vs.toList→ZA w σ s.heap m us.toList→l.length+m.length≤SL→Q (.fl (l++m)) σ→
   wpAny (model P w) A (binaryOp .Add (.ref c) (.ref d)) (EP w h₀ os₀ σ s.heap Q) E s:=by
  intro c d vs us l m hl hm rl rm hlen q
  obtain ⟨⟨cls,dd,data,sl⟩,ho,hc,n,hd⟩:=id hl
  obtain ⟨⟨cls2,dd2,data2,sl2⟩,ho2,hc2,n2,hd2⟩:=id hm
  simp only at hc hd hc2 hd2
  subst hc hd hc2 hd2
  have l1:=rl.length
  have l2:=rm.length
  rw [Z1D] at hlen
  refine concat_meets ⟨_,ho,rfl⟩ ⟨_,ho2,rfl⟩ noFill_list_add seq_list_add PySem.F.slot_list_add PySem.F.entry_list_add (PySem.F.args_list_add_2 _ _) (list_addW c d vs us n n2 dd dd2 sl sl2 (by simpa [←l1,←l2] using hlen)) ⟨ho,ho2,?_⟩
  have g:=Zr s.heap {cls:=.type "list",data:=.seq (vs++us)}
  refine EP.grown (k:=s.toks) S S.toks g q ⟨by rw [Z1D];simpa using hlen,_,vs++us,rfl,S.untracked_new (Heap.get?_size _),⟨_,Heap.get?_push_size _ rfl,rfl,_,rfl⟩,?_⟩
  rw [Array.toList_append]
  exact ZA.pres (X:=fun _=>False) (Pres.of_keeps g) S.toStL noX _ (rl.append rm)
 rcases q with ⟨r,h,hlen,q⟩|q
 ·rcases Z02 h with h|h
  ·obtain ⟨i,j,rfl,rfl,h⟩:=Z5D h;cases h;obtain ⟨_,t,rfl⟩:=ra;obtain ⟨_,u,rfl⟩:=rb
   have hlen:(i++j).length≤SL:=hlen
   rw [List.length_append] at hlen
   refine Z0B S.toks (PyProof.Rows.add_str (fun t' tk hk=>EP.flat S q ⟨by simpa using hlen,t',?_⟩ hk) (by rw [←Z1D];simpa using hlen))
   show Value.str (Str.mk (_++_)) t'=_
   simp [lstr]
  ·rcases Z02 h with h|h
   ·obtain ⟨i,j,rfl,rfl,h⟩:=Z4D h;cases h;obtain ⟨t,rfl⟩:=ra;obtain ⟨u,rfl⟩:=rb;exact PyProof.Rows.add_int (EP.int S q (Nat.succ_pos _))
   ·obtain ⟨i,hi,h⟩:=Zb h
    obtain ⟨j,hj,h⟩:=Zb h
    cases MV.f_inv hi;cases MV.f_inv hj;cases h
    obtain ⟨_,c,vs,rfl,_,x,y⟩:=ra;obtain ⟨_,d,us,rfl,_,x',y'⟩:=rb
    exact lists x x' y y' (List.length_append▸hlen) q
 ·obtain ⟨c,l,m,h,e,hl,q⟩:=q
  cases h;cases ra;obtain ⟨_,d,us,rfl,_,x',y'⟩:=rb
  obtain ⟨_,vs,x,y⟩:=S.lists _ _ e
  exact lists x.isList x' y y' hl q
end
end Mine
namespace Mine
section
variable {w:World} {h₀:Heap} {os₀:OsState} {σ:Z4} {s:Shared} {A:Around} {E:Value→Shared→Prop} {Q:ZT}
open SeqAt
theorem Z4V (i:Int) (n:Nat):pyIdx i n=seqIndex? i n:=by
 unfold pyIdx seqIndex?
 simp only [Bool.and_eq_true,decide_eq_true_eq]
 by_cases h:i<0
 ·rw [if_neg (by lia),if_pos h]
  by_cases h1:0≤i+n
  ·rw [if_pos h1,if_pos ⟨h1,by lia⟩]
  ·rw [if_neg h1,if_neg (fun x=>h1 x.1)]
 ·rw [if_pos (by lia),if_neg h]
  by_cases h1:i<n
  ·rw [if_pos h1,if_pos ⟨by lia,h1⟩]
  ·rw [if_neg h1,if_neg (fun x=>h1 x.2)]
theorem Z2k {a b:List Nat} {t u:Tok}:EqAt A s (.str (lstr b) t) (.str (lstr a) u) (a==b):=fun prog w E Q hq=>wpAny_eqBool_str (by
 have:decide (lstr b=lstr a)=(a==b):=by
  rw [Bool.eq_iff_iff];simp only [decide_eq_true_eq,Z18,beq_iff_eq];exact eq_comm
 rw [this];exact hq)
theorem Z1H {h:Heap} {a b:List Nat} {vs:Array Value} (r:ZA w σ h [.str a,.str b] vs.toList):∃t u,vs= #[.str (lstr a) t,.str (lstr b) u]:=by
 obtain ⟨v,rest,e,⟨_,t,rfl⟩,v',rest',rfl,⟨_,u,rfl⟩,rfl⟩:=r
 exact ⟨t,u,by rw [←Array.toList_inj];exact e⟩
theorem Z95 {a b c d:List Nat} {x y:Addr} {vs us:Array Value} (hu:A.units<cLine) (hx:s.heap.IsTuple x vs) (hy:s.heap.IsTuple y us) (rx:ZA w σ s.heap [.str a,.str b] vs.toList) (ry:ZA w σ s.heap [.str c,.str d] us.toList):
  RcAt A s (.ref x) (.ref y) (a==c&&b==d):=by
 obtain ⟨t,u,rfl⟩:=Z1H rx
 obtain ⟨t',u',rfl⟩:=Z1H ry
 have h:=RcAt.tuples (e:=fun j=>if j=0 then c==a else d==b) hx hy hu (fun j h1 h2=>by
  match j,h1 with
  |0,_=>exact Z2k
  |1,_=>exact Z2k)
 have e:((List.range (min (#[Value.str (lstr a) t,Value.str (lstr b) u]).size (#[Value.str (lstr c) t',Value.str (lstr d) u']).size)).all (fun j=>if j=0 then c==a else d==b)&&
   (#[Value.str (lstr a) t,Value.str (lstr b) u]).size==(#[Value.str (lstr c) t',Value.str (lstr d) u']).size)=(a==c&&b==d):=by
  show ((List.range 2).all _&&(2==2))=_
  have e1:(c==a)=(a==c):=BEq.comm
  have e2:(d==b)=(b==d):=BEq.comm
  show ((c==a)&&((d==b)&&true)&&true)=_
  rw [e1,e2,Bool.and_true,Bool.and_true]
 rw [e] at h;exact h
theorem Z0s {x m:MV} (ok:x.eqok m=true):(∃a b,x=.str a∧m=.str b)∨(∃a b,x=.int a∧m=.int b)∨(∃a b c d,x=.tup [.str a,.str b]∧m=.tup [.str c,.str d]):=by
 cases x with
 |str a=>obtain ⟨b,hb⟩:=Option.isSome_iff_exists.1 ok;exact .inl ⟨a,b,rfl,MV.s_inv hb⟩
 |int a=>obtain ⟨b,hb⟩:=Option.isSome_iff_exists.1 ok;exact .inr (.inl ⟨a,b,rfl,MV.i_inv hb⟩)
 |tup l=>
  have ok:=Bool.and_eq_true_iff.1 ok
  obtain ⟨⟨a,b⟩,e⟩:=Option.isSome_iff_exists.1 ok.1
  obtain ⟨⟨c,d⟩,k⟩:=Option.isSome_iff_exists.1 ok.2
  obtain ⟨r,h,k⟩:=Zb k
  exact .inr (.inr ⟨a,b,c,d,congrArg MV.tup (Z9c e),(MV.t_inv h).trans (congrArg MV.tup (Z9c k))⟩)
 |_=>cases ok
theorem Z4o {h:Heap} {a:Addr} {vs us:Array Value} (ha:h.IsTuple a vs) (hb:h.IsTuple a us):vs=us:=by
 obtain ⟨o,ho,_,n,hd⟩:=ha;obtain ⟨o',ho',_,n',hd'⟩:=hb
 rw [ho] at ho';cases ho';rw [hd] at hd';cases hd';rfl
theorem Z5O {h:Heap} {a b c d:List Nat} {vs:Array Value} (ra:ZA w σ h [.str a,.str b] vs.toList) (rb:ZA w σ h [.str c,.str d] vs.toList):a=c∧b=d:=by
 obtain ⟨t,u,rfl⟩:=Z1H ra
 obtain ⟨t',u',e⟩:=Z1H rb
 have e:=congrArg Array.toList e
 injection e with e1 e2
 injection e2 with e2 _
 injection e1 with e1 _
 injection e2 with e2 _
 exact ⟨Z18.mp e1,Z18.mp e2⟩
theorem Z9W {m x:MV} {v u:Value} (hu:A.units<cLine) (rm:Rep w σ s.heap m v) (rx:Rep w σ s.heap x u) (ok:x.eqok m=true):EqAt A s v u (x.eqv m):=by
 rcases Z0s ok with ⟨a,b,rfl,rfl⟩|⟨a,b,rfl,rfl⟩|⟨a,b,c,d,rfl,rfl⟩
 ·obtain ⟨_,t,rfl⟩:=rm;obtain ⟨_,t',rfl⟩:=rx;exact Z2k
 ·obtain ⟨t,rfl⟩:=rm;obtain ⟨t',rfl⟩:=rx
  intro prog w E Q hq
  refine wpAny_eqBool_int ?_
  have e:(b==a)=(a==b):=BEq.comm
  rw [e];exact hq
 ·obtain ⟨_,y,vs,rfl,ha,ra⟩:=rm
  obtain ⟨_,z,us,rfl,hb,rb⟩:=rx
  by_cases hab:y=z
  ·subst hab
   have:=Z4o ha hb
   subst this
   obtain ⟨rfl,rfl⟩:=Z5O rb ra
   have e:MV.eqv (.tup [.str a,.str b]) (.tup [.str a,.str b])=true:=by show (a==a&&b==b)=true;simp
   rw [e]
   exact EqAt.same _
  ·have h:=EqAt.of_refs hab (Z95 hu ha hb ra rb)
   have e1:(c==a)=(a==c):=BEq.comm
   have e2:(d==b)=(b==d):=BEq.comm
   rw [e1,e2] at h
   exact h
theorem Rep.uniq {m m' x:MV} {v:Value} {h:Heap} (r:Rep w σ h m v) (r':Rep w σ h m' v) (ok:x.eqok m=true) (ok':x.eqok m'=true):m=m':=by
 rcases Z0s ok with ⟨a,b,rfl,rfl⟩|⟨a,b,rfl,rfl⟩|⟨a,b,c,d,rfl,rfl⟩
 ·rcases Z0s ok' with ⟨a',b',e,rfl⟩|⟨a',b',e,rfl⟩|⟨a',b',c',d',e,rfl⟩<;>first|cases e|skip
  obtain ⟨_,t,rfl⟩:=r;obtain ⟨_,t',e⟩:=r'
  injection e with e _
  rw [Z18.mp e]
 ·rcases Z0s ok' with ⟨a',b',e,rfl⟩|⟨a',b',e,rfl⟩|⟨a',b',c',d',e,rfl⟩<;>first|cases e|skip
  obtain ⟨t,rfl⟩:=r;obtain ⟨t',e⟩:=r'
  injection e with e _
  rw [e]
 ·rcases Z0s ok' with ⟨a',b',e,rfl⟩|⟨a',b',e,rfl⟩|⟨a',b',c',d',e,rfl⟩<;>first|cases e|skip
  obtain ⟨_,y,vs,rfl,ha,ra⟩:=r
  obtain ⟨_,z,us,e,hb,rb⟩:=r'
  cases e
  have:=Z4o ha hb
  subst this
  obtain ⟨rfl,rfl⟩:=Z5O ra rb
  rfl
theorem ZA.mem {h:Heap}:∀{l:List MV} {vs:List Value},ZA w σ h l vs→∀y∈vs,∃m∈l,Rep w σ h m y
 |[],_,r,_,hy=>by cases r;cases hy
 |m::ms,_,r,y,hy=>by
  obtain ⟨v,rest,rfl,x,z⟩:=r
  rcases List.mem_cons.mp hy with rfl|hy
  ·exact ⟨m,List.mem_cons_self,x⟩
  ·obtain ⟨m',h1,h2⟩:=ZA.mem z y hy
   exact ⟨m',List.mem_cons_of_mem _ h1,h2⟩
theorem ZA.mem' {h:Heap}:∀{l:List MV} {vs:List Value},ZA w σ h l vs→∀m∈l,∃y∈vs,Rep w σ h m y
 |[],_,_,_,hm=>by cases hm
 |m::ms,_,r,k,hk=>by
  obtain ⟨v,rest,rfl,x,z⟩:=r
  rcases List.mem_cons.mp hk with rfl|hk
  ·exact ⟨v,List.mem_cons_self,x⟩
  ·obtain ⟨y,h1,h2⟩:=ZA.mem' z k hk
   exact ⟨y,List.mem_cons_of_mem _ h1,h2⟩
noncomputable def eOf (w:World) (σ:Z4) (h:Heap) (l:List MV) (x:MV) (y:Value):Bool:= @decide (∃m∈l,Rep w σ h m y∧x.eqv m=true) (Classical.propDecidable _)
theorem Zdp (w:World) (σ:Z4) (h:Heap) (l:List MV) (x:MV) (y:Value):eOf w σ h l x y=true↔∃m∈l,Rep w σ h m y∧x.eqv m=true:=
 @decide_eq_true_iff _ (Classical.propDecidable _)
theorem Z7H {h:Heap} {l:List MV} {x m:MV} {y:Value} (ok:l.all x.eqok=true) (hm:m∈l) (r:Rep w σ h m y):eOf w σ h l x y=x.eqv m:=by
 rw [List.all_eq_true] at ok
 rw [Bool.eq_iff_iff,Zdp]
 constructor
 ·rintro ⟨m',hm',r',e⟩
  rw [Rep.uniq r r' (ok m hm) (ok m' hm')];exact e
 ·exact fun e=>⟨m,hm,r,e⟩
theorem Z9Y {h:Heap} {l:List MV} {x:MV} {vs:Array Value} (ok:l.all x.eqok=true) (r:ZA w σ h l vs.toList):vs.any (eOf w σ h l x)=l.any x.eqv:=by
 rw [Bool.eq_iff_iff,Array.any_eq_true',List.any_eq_true]
 constructor
 ·rintro ⟨y,hy,e⟩
  obtain ⟨m,hm,rm⟩:=r.mem y (by simpa using hy)
  rw [Z7H ok hm rm] at e
  exact ⟨m,hm,e⟩
 ·rintro ⟨m,hm,e⟩
  obtain ⟨y,hy,rm⟩:=r.mem' m hm
  exact ⟨y,by simpa using hy,by rw [Z7H ok hm rm];exact e⟩
theorem Z2e {x:List Nat} {c i:Nat}:(i+(lstr [c]).length≤(lstr x).length∧Builtin.Str.subAt (lstr x) (lstr [c]) i=true)↔x[i]? =some c:=by
 have l1:(lstr [c]).length=1:=rfl
 have l2:(lstr x).length=x.length:=Zw x
 unfold Builtin.Str.subAt
 rw [l1,l2,beq_iff_eq]
 show (i+1≤x.length∧x.toArray.extract i (i+1)= #[c])↔_
 constructor
 ·rintro ⟨h1,h2⟩
  have h3:=congrArg (fun a:Array Nat=>a[0]?) h2
  simpa [Array.getElem?_extract,show i<x.length by lia] using h3
 ·intro h
  obtain ⟨h1,rfl⟩:=List.getElem?_eq_some_iff.mp h
  refine ⟨by lia,?_⟩
  apply Array.ext
  ·simp;lia
  ·intro j h2 h3
   have:j=0:=by simp at h3;lia
   subst this
   simp
theorem Zf5 (x:List Nat) (c:Nat):(!(Builtin.Str.occurrences (lstr x) (lstr [c]) 0 (lstr x).length 1).isEmpty)=x.contains c:=by
 rw [Bool.eq_iff_iff,StrLaws.found_iff]
 simp only [Z2e,List.contains_iff_mem]
 exact ⟨fun ⟨i,h⟩=>List.mem_of_getElem? h,fun h=>let ⟨i,h,e⟩:=List.getElem_of_mem h;⟨i,by rw [←e];exact List.getElem?_eq_getElem h⟩⟩
set_option tactic.hygienic true in
theorem Z6n.at {h:Heap} {f:Str→Option Value}:∀{kvs:List (List Nat×MV)} {k:List Nat} {m:MV},Z6n w σ h kvs f→Zz k kvs=some m→∃u,f (lstr k)=some u∧Rep w σ h m u
 |[],_,_,_,e=>by cases e
 |(a,v)::r,k,m,p,e=>by
  unfold Zz at e
  split at e
  ·next hk=>cases e;rw [beq_iff_eq] at hk;subst hk;exact p.1
  ·exact Z6n.at p.2 e
theorem ZaH {a b va vb} (S:St w h₀ os₀ σ s) (hu:A.units+2<cLine) (ra:Rep w σ s.heap a va) (rb:Rep w σ s.heap b vb) (q:Pr.sem .inn [a,b] σ Q):
  wpAny (model P w) A (compareOp .In va vb) (EP w h₀ os₀ σ s.heap Q) E s:=by
 have hu1:A.in1.units<cLine:=by rw [Around.in1_units];lia
 obtain ⟨r,h,x,q⟩|q:=q
 rotate_left
 ·exact q.elim
 rcases Z02 h with h|h
 ·obtain ⟨l,hl,h⟩:=Zb h
  cases MV.t_inv hl
  obtain ⟨k,h⟩:=ZC h
  cases h
  obtain ⟨_,c,vs,rfl,hc,rc⟩:=rb
  refine in_tupleAt (eOf w _ s.heap _ a) hc (fun y hy=>?_) (by rw [Z9Y k rc];exact EP.bool S q)
  obtain ⟨m,hm,rm⟩:=rc.mem y (by simpa using hy)
  rw [Z7H k hm rm]
  exact Z9W hu1 rm ra (List.all_eq_true.mp k m hm)
 rcases Z02 h with h|h
 ·obtain ⟨l,hl,h⟩:=Zb h
  cases MV.f_inv hl
  obtain ⟨k,h⟩:=ZC h
  cases h
  obtain ⟨_,c,vs,rfl,_,hc,rc⟩:=rb
  refine in_listAt (eOf w _ s.heap _ a) hc (fun y hy=>?_) (by rw [Z9Y k rc];exact EP.bool S q)
  obtain ⟨m,hm,rm⟩:=rc.mem y (by simpa using hy)
  rw [Z7H k hm rm]
  exact Z9W hu1 rm ra (List.all_eq_true.mp k m hm)
 obtain ⟨k,hk,h⟩:=Zb h
 cases MV.s_inv hk
 obtain ⟨_,t,rfl⟩:=ra
 rcases Z02 h with h|h
 ·obtain ⟨kvs,hd,h⟩:=Zb h
  cases MV.d_inv hd
  cases h
  obtain ⟨d,f,rfl,hd,hm,_,hno,hp⟩:=rb
  refine wpAny_in_of (knd:=strKind P w) (strKind_is P w _ t) (beq_eq_false_iff_ne.mpr hd) hm ?_
  have e:(f (lstr k)).isSome=(Zz k kvs).isSome:=by
   cases e:Zz k kvs with
   |none=>rw [hno k e];rfl
   |some m=>obtain ⟨u,hu,_⟩:=hp.at e;rw [hu];rfl
  rw [e]
  exact EP.flat S q rfl (Nat.succ_pos _)
 ·obtain ⟨y,hy,h1⟩:=Zb h
  cases MV.s_inv hy
  obtain ⟨c,hc,h2⟩:=Zb h1
  cases Z0o hc
  cases h2
  obtain ⟨_,u,rfl⟩:=rb
  refine PyProof.Rows.in_str ?_
  rw [Zf5]
  exact EP.bool S q
end
end Mine
namespace Mine
section
variable {w:World} {h₀:Heap} {os₀:OsState} {σ:Z4} {s:Shared} {A:Around} {E:Value→Shared→Prop} {Q:ZT}
theorem Zcu {n:Nat} (h:n≤SL):(n:Int)<2^63:=by unfold SL at h;lia
theorem Z8R {a va} (S:St w h₀ os₀ σ s) (ra:Rep w σ s.heap a va) (q:Pr.sem .len [a] σ Q):wpAny (model P w) A (call (.builtin "len") [va]) (EP w h₀ os₀ σ s.heap Q) E s:=by
 obtain ⟨r,h,x,q⟩|q:=q
 rotate_left
 ·exact q.elim
 rcases Z02 h with h|h
 ·obtain ⟨l,e,h⟩:=Zb h
  cases MV.s_inv e
  cases h;obtain ⟨hl,t,rfl⟩:=ra
  refine _root_.PySem.P.len_str (by have:=Zcu hl;simp;lia) ?_
  rw [Zw];exact EP.int S q (Nat.succ_pos _)
 rcases Z02 h with h|h
 ·obtain ⟨l,e,h⟩:=Zb h
  cases MV.t_inv e
  cases h;obtain ⟨hl,c,vs,rfl,hc,rc⟩:=ra
  have hlen:=rc.length
  simp only [Array.length_toList] at hlen
  refine len_tuple hc (by rw [hlen];exact Zcu hl) ?_
  rw [hlen];exact EP.int S q (Nat.succ_pos _)
 ·obtain ⟨l,e,h⟩:=Zb h
  cases MV.f_inv e
  cases h;obtain ⟨hl,c,vs,rfl,_,hc,rc⟩:=ra
  have hlen:=rc.length
  simp only [Array.length_toList] at hlen
  refine len_list hc (by rw [hlen];exact Zcu hl) ?_
  rw [hlen];exact EP.int S q (Nat.succ_pos _)
theorem Z8M {a va} (S:St w h₀ os₀ σ s) (ra:Rep w σ s.heap a va) (q:Pr.sem .ord [a] σ Q):wpAny (model P w) A (call (.builtin "ord") [va]) (EP w h₀ os₀ σ s.heap Q) E s:=by
 obtain ⟨r,h,x,q⟩|q:=q
 ·obtain ⟨y,e,h⟩:=Zb h
  cases MV.s_inv e
  obtain ⟨c,e,h⟩:=Zb h
  cases Z0o e
  cases h;obtain ⟨hl,t,rfl⟩:=ra
  exact _root_.PySem.P.ord_of_char (EP.int S q (Nat.succ_pos _))
 ·exact q.elim
theorem Z5B {a va} (S:St w h₀ os₀ σ s) (ra:Rep w σ s.heap a va) (q:Pr.sem .isBool [a] σ Q):wpAny (model P w) A (call (.builtin "isinstance") [va,.type "bool"]) (EP w h₀ os₀ σ s.heap Q) E s:=by
 obtain ⟨r,h,x,q⟩|q:=q
 rotate_left
 ·exact q.elim
 obtain ⟨hb,h⟩:=ZC h
 cases h
 cases a<;>first|exact ff hb|skip
 ·cases ra;exact call_isinstance (isinstance_true (Tx:= "bool") meta_bool sub_bool_bool) ⟨rfl,EP.bool S q⟩
 ·obtain ⟨t,rfl⟩:=ra;exact call_isinstance (isinstance_false_int (by decide) meta_bool sub_int_bool) (EP.flat S q rfl (Nat.succ_pos _))
 ·obtain ⟨_,t,rfl⟩:=ra;exact call_isinstance (isinstance_false_str (by decide) meta_bool sub_str_bool) (EP.flat S q rfl (Nat.succ_pos _))
theorem Z6z {a va} (S:St w h₀ os₀ σ s) (ra:Rep w σ s.heap a va) (q:Pr.sem .isStr [a] σ Q):wpAny (model P w) A (call (.builtin "isinstance") [va,.type "str"]) (EP w h₀ os₀ σ s.heap Q) E s:=by
 obtain ⟨r,h,x,q⟩|q:=q
 rotate_left
 ·exact q.elim
 obtain ⟨hb,h⟩:=ZC h
 cases h
 cases a<;>first|exact ff hb|skip
 ·cases ra;exact call_isinstance (isinstance_false_bool (by decide) meta_str sub_bool_str) (EP.flat S q rfl (Nat.succ_pos _))
 ·obtain ⟨t,rfl⟩:=ra;exact call_isinstance (isinstance_false_int (by decide) meta_str PyProof.Rows.sub_int_str) (EP.flat S q rfl (Nat.succ_pos _))
 ·obtain ⟨_,t,rfl⟩:=ra;exact call_isinstance (isinstance_true (Tx:= "str") meta_str sub_str_str) ⟨rfl,EP.bool S q⟩
theorem Z3B {a va} {tp:Addr} (S:St w h₀ os₀ σ s) (ra:Rep w σ s.heap a va) (htp:s.heap.get? tp=some {cls:=.type "tuple",data:=.seq #[.type "bool",.type "str"]})
  (q:Pr.sem .isBoolStr [a] σ Q):wpAny (model P w) A (call (.builtin "isinstance") [va,.ref tp]) (EP w h₀ os₀ σ s.heap Q) E s:=by
 obtain ⟨r,h,x,q⟩|q:=q
 rotate_left
 ·exact q.elim
 obtain ⟨hb,h⟩:=ZC h
 cases h
 refine Z0B S.toks ?_
 cases a<;>first|exact ff hb|skip
 ·cases ra
  exact call_isinstance (isinstance_tuple (Tx:= "bool") (cs:=[.type "bool",.type "str"]) (vs:=[true,false]) ⟨Answers.of_true meta_bool sub_bool_bool,Answers.of_false_bool (by decide) meta_str sub_bool_str,trivial⟩)
   ⟨rfl,htp,fun tk hk=>EP.flat S q rfl hk⟩
 ·obtain ⟨t,rfl⟩:=ra
  exact call_isinstance (isinstance_tuple (Tx:= "int") (cs:=[.type "bool",.type "str"]) (vs:=[false,false]) ⟨Answers.of_false_int (by decide) meta_bool sub_int_bool,Answers.of_false_int (by decide) meta_str PyProof.Rows.sub_int_str,trivial⟩)
   ⟨typeIs_int _ _ _,htp,fun tk hk=>EP.flat S q rfl hk⟩
 ·obtain ⟨_,t,rfl⟩:=ra
  exact call_isinstance (isinstance_tuple (Tx:= "str") (cs:=[.type "bool",.type "str"]) (vs:=[false,true]) ⟨Answers.of_false_str (by decide) meta_bool sub_str_bool,Answers.of_true meta_str sub_str_str,trivial⟩)
   ⟨typeIs_str _ _ _,htp,fun tk hk=>EP.flat S q rfl hk⟩
theorem Z8L {a va} (S:St w h₀ os₀ σ s) (ra:Rep w σ s.heap a va) (q:Pr.sem .strOf [a] σ Q):wpAny (model P w) A (call (.type "str") [va]) (EP w h₀ os₀ σ s.heap Q) E s:=by
 obtain ⟨r,h,x,q⟩|q:=q
 ·obtain ⟨i,e,h⟩:=Zb h
  cases MV.i_inv e
  cases h;obtain ⟨t,rfl⟩:=ra
  have hlog:i.natAbs.log2<1920:=by
   by_cases h0:i=0
   ·subst h0;decide
   ·have:=Z1K h0 x;lia
  refine _root_.PySem.P.str_of_int hlog (EP.str S q ?_ (Nat.succ_pos _))
  rw [Z1D];exact int_text_fits hlog
 ·exact q.elim
mutual
theorem Z7l {h:Heap} (m:MV):∀{v:Value},showable m=true→Rep w σ h m v→Reads h v (Z1S m) []:=by
 intro v hs r
 cases m with
 |none=>cases r;exact .none
 |bool b=>cases r;exact .bool b
 |int i=>obtain ⟨t,rfl⟩:=r;exact .int i t
 |str x=>obtain ⟨_,t,rfl⟩:=r;exact .str (lstr x) t
 |tup l=>
  obtain ⟨_,a,vs,rfl,⟨o,ho,hc,n,hd⟩,rl⟩:=r
  exact .tuple ho hc hd (Z3H l hs rl)
 |_=>cases hs
theorem Z3H {h:Heap} (l:List MV):∀{vs:List Value},Z08 l=true→ZA w σ h l vs→ReadsAll h vs (Z1t l) []:=by
 intro vs hs r
 cases l with
 |nil=>cases r;exact .nil
 |cons m ms=>
  obtain ⟨v,rest,rfl,x,y⟩:=r
  obtain ⟨h1,h2⟩:=Bool.and_eq_true_iff.1 (show (showable m&&Z08 ms)=true from hs)
  exact .cons (as:=[]) (bs:=[]) (Z7l m h1 x) (Z3H ms h2 y)
end
theorem Z6v {a va} (S:St w h₀ os₀ σ s) (ra:Rep w σ s.heap a va) (q:Pr.sem .tuple [a] σ Q):wpAny (model P w) A (call (.type "tuple") [va]) (EP w h₀ os₀ σ s.heap Q) E s:=by
 have key:∀{c:Addr} {vs:Array Value} {l:List MV},s.heap.IsList c vs→ZA w σ s.heap l vs.toList→l.length≤SL→Q (.tup l) σ→wpAny (model P w) A (call (.type "tuple") [.ref c]) (EP w h₀ os₀ σ s.heap Q) E s:=by
  intro c vs l hc rc hl q
  have hlen:=rc.length
  simp only [Array.length_toList] at hlen
  refine call_tuple_list hc (fun h' g=>?_) (by rw [hlen,←Z1D];exact hl)
  have g':∀b o,s.heap.get? b=some o→(h'.push {cls:=.type "tuple",data:=.seq vs}).get? b=some o:=fun b o e=>Heap.get?_push_of_some _ (g b o e)
  exact EP.grown (k:=s.toks) S S.toks g' q ⟨hl,_,vs,rfl,⟨_,Heap.get?_push_size _ rfl,rfl,_,rfl⟩,ZA.pres (X:=fun _=>False) (Pres.of_keeps g') S.toStL noX _ rc⟩
 obtain ⟨r,h,x,q⟩|⟨c,l,h,e,q⟩:=q
 ·obtain ⟨l,e,h⟩:=Zb h
  cases MV.f_inv e
  cases h;obtain ⟨hl,c,vs,rfl,_,hc,rc⟩:=ra;exact key hc rc hl q
 ·cases h;cases ra;obtain ⟨hl,vs,hc,rc⟩:=S.lists _ _ e;exact key hc.isList rc hl q
theorem Z8Q {a b va vb} (S:St w h₀ os₀ σ s) (hh:A.handled=none) (ra:Rep w σ s.heap a va) (rb:Rep w σ s.heap b vb) (q:Pr.sem .max [a,b] σ Q):
  wpAny (model P w) A (call (.builtin "max") [va,vb]) (EP w h₀ os₀ σ s.heap Q) E s:=by
 obtain ⟨r,h,x,q⟩|q:=q
 ·obtain ⟨i,j,rfl,rfl,h⟩:=Z4D h
  cases h;obtain ⟨t,rfl⟩:=ra;obtain ⟨u,rfl⟩:=rb
  refine Z0B S.toks (max_two_ints hh fun h' tk g hk=>?_)
  refine EP.grown S hk g q ?_
  split
  ·exact ⟨_,rfl⟩
  ·exact ⟨_,rfl⟩
 ·exact q.elim
theorem Z6w {a va} (S:St w h₀ os₀ σ s) (ra:Rep w σ s.heap a va) (q:Pr.sem .range [a] σ Q):wpAny (model P w) A (call (.type "range") [va]) (EP w h₀ os₀ σ s.heap Q) E s:=by
 obtain ⟨r,h,x,q⟩|⟨i,h,hi,q⟩:=q
 ·cases h
 ·cases h;obtain ⟨t,rfl⟩:=ra
  refine call_range_1 ?_
  exact EP.grown S (Nat.succ_pos _) (Zr _ _) q ⟨hi,_,_,_,_,rfl,Heap.get?_push_size _ rfl⟩
theorem Zd0 {x:List Nat} (h:Ze x=true):Txt.lower (lstr x)=lstr (lowerL x):=by
 rw [lower_ascii (fun c hc=>by have:=List.all_eq_true.mp h c (by simpa using hc);simpa using this)]
 show Str.mk (x.toArray.map lo1)=Str.mk _
 simp only [List.map_toArray,lowerL]
 congr 3
theorem Z6y {a va} (S:St w h₀ os₀ σ s) (ra:Rep w σ s.heap a va) (q:Pr.sem .lower [a] σ Q):wpAny (model P w) A (call (.builtin "str.lower") [va]) (EP w h₀ os₀ σ s.heap Q) E s:=by
 obtain ⟨r,h,x,q⟩|q:=q
 ·obtain ⟨y,e,h⟩:=Zb h
  cases MV.s_inv e
  cases h;obtain ⟨hl,t,rfl⟩:=ra
  obtain ⟨h1,h2⟩:=x
  have e:=Zd0 h1
  refine SC.lower ?_ ?_
  ·rw [e,Zw]
   unfold Builtin.Str.tooLong
   simp [lowerL];rw [←Z1D];exact hl
  ·rw [e];exact EP.str S q (by simpa [lowerL] using hl) (Nat.succ_pos _)
 ·exact q.elim
theorem Z2Y {a b va vb} (S:St w h₀ os₀ σ s) (ra:Rep w σ s.heap a va) (rb:Rep w σ s.heap b vb) (q:Pr.sem .startswith [a,b] σ Q):
  wpAny (model P w) A (call (.builtin "str.startswith") [va,vb]) (EP w h₀ os₀ σ s.heap Q) E s:=by
 obtain ⟨r,h,_,q⟩|q:=q
 ·obtain ⟨x,y,rfl,rfl,h⟩:=Z5D h
  cases h;obtain ⟨_,t,rfl⟩:=ra;obtain ⟨_,u,rfl⟩:=rb
  refine SC.startswith ?_
  have e:Txt.startswith (lstr x) (lstr y)=y.isPrefixOf x:=by
   unfold Txt.startswith Builtin.Str.subAt
   rw [Zw,Zw,Bool.eq_iff_iff,List.isPrefixOf_iff_prefix]
   simp only [Bool.and_eq_true,decide_eq_true_eq,beq_iff_eq,Nat.zero_add]
   show y.length≤x.length∧x.toArray.extract 0 y.length=y.toArray↔_
   rw [List.extract_toArray,List.prefix_iff_eq_take]
   simp only [List.extract_eq_take_drop,List.drop_zero,Nat.sub_zero,Array.mk.injEq]
   constructor
   ·exact fun h=>h.2.symm
   ·intro h
    refine ⟨?_,h.symm⟩
    have:=congrArg List.length h
    rw [List.length_take] at this
    lia
  rw [e];exact EP.bool S q
 ·exact q.elim
theorem Z6A {a b va vb} (S:St w h₀ os₀ σ s) (ra:Rep w σ s.heap a va) (rb:Rep w σ s.heap b vb) (q:Pr.sem .index [a,b] σ Q):
  wpAny (model P w) A (call (.builtin "str.index") [va,vb]) (EP w h₀ os₀ σ s.heap Q) E s:=by
 obtain ⟨r,h,_,q⟩|q:=q
 ·obtain ⟨x,y,rfl,rfl,h⟩:=Z5D h
  obtain ⟨c,e,h⟩:=Zb h
  cases Z0o e
  obtain ⟨hm,h⟩:=ZC h
  have hm:=List.contains_iff_mem.1 hm
  cases h;obtain ⟨_,t,rfl⟩:=ra;obtain ⟨_,u,rfl⟩:=rb
  rcases StrLaws.occ_head (lstr x) (lstr [c]) 1 (Nat.le_refl _) with ⟨_,hn⟩|⟨i,r,ho,hi,hlt⟩
  ·obtain ⟨i,hi,e⟩:=List.getElem_of_mem hm
   exact absurd (Z2e.mpr (by rw [←e];exact List.getElem?_eq_getElem hi)) (hn i)
  ·refine SC.index ho ?_
   have e:i=x.idxOf c:=by
    have hj:=List.idxOf_lt_length_of_mem hm
    have h1:¬x.idxOf c<i:=fun h=>hlt _ h (Z2e.mpr (by rw [List.getElem?_eq_getElem hj,List.getElem_idxOf hj]))
    have h2:¬i<x.idxOf c:=fun h=>by
     have h3:=Z2e.mp hi
     have h4:=List.not_of_lt_findIdx (p:=(· ==c)) (xs:=x) (i:=i) h
     rw [List.getElem?_eq_getElem (by lia)] at h3
     injection h3 with h3
     simp [h3] at h4
    lia
   rw [e];exact EP.int S q (Nat.succ_pos _)
 ·exact q.elim
theorem Z7n {X:Addr→Prop} {c:Addr} {l l':List MV} {h h':Heap} (e:σ c=some l) (hs:Heap.SameBut c h h'):Pres X σ h (upd σ c l') h':=by
 intro b o ho hb _
 have hbc:b≠c:=by rintro rfl;rw [e] at hb;cases hb
 exact ⟨(hs.2 b hbc).trans ho,by rw [Zp hbc];exact hb⟩
theorem Z2Q {a b va vb} (S:St w h₀ os₀ σ s) (ra:Rep w σ s.heap a va) (rb:Rep w σ s.heap b vb) (q:Pr.sem .append [a,b] σ Q):
  wpAny (model P w) A (call (.builtin "list.append") [va,vb]) (EP w h₀ os₀ σ s.heap Q) E s:=by
 obtain ⟨r,h,_,q⟩|⟨c,l,b',h,e,hlt,q⟩:=q
 ·cases h
 ·cases h;cases ra
  obtain ⟨hl,vs,hc,rc⟩:=S.lists _ _ e
  have hlen:=rc.length
  simp only [Array.length_toList] at hlen
  refine wpAny_list_append_plain hc (fun h' hc' hs=>?_) (by rw [hlen,←Z1D];exact hl)
  have p:=Z7n (X:=fun _=>False) (l':=l++[b]) e hs
  refine ⟨.none,_,q,rfl,?_,p⟩
  refine St.upd (k:=s.toks) S S.toks (fun o ho=>by rw [S.sep _ _ ho] at e;cases e) (fun b o hb ho=>(hs.2 b hb).trans ho) p (by simp;lia) hc' ?_
  rw [Array.toList_push]
  exact (ZA.pres p S.toStL noX _ rc).append (ZA.one (Rep.pres p S.toStL noX _ rb))
end
end Mine
namespace Mine
noncomputable def bndOf:MV→Option Int
 | .int i=>some i
 |_=>none
theorem ZhK (k n:Nat):min (k:Int) n=((min k n:Nat):Int):=by
 rcases Nat.le_total k n with h|h
 ·rw [Nat.min_eq_left h,Int.min_eq_left (Int.ofNat_le.2 h)]
 ·rw [Nat.min_eq_right h,Int.min_eq_right (Int.ofNat_le.2 h)]
theorem bndI {i:Int} (h: -1≤i):(∃k:Nat,i=k)∨i= -1:=by
 by_cases h0:0≤i
 ·exact .inl (Int.eq_ofNat_of_zero_le h0)
 ·exact .inr (Int.le_antisymm (Int.le_of_lt_add_one (b:= -1) (Int.not_le.1 h0)) h)
theorem m1N (n:Nat):(-1+(n:Int)).toNat=n-1:=by
 rw [Int.add_comm];exact Int.toNat_sub n 1
theorem pyk (n d k:Nat):pyBnd n d (.int (k:Nat))=min k n:=by
 show (if (0:Int)≤(k:Nat) then min ((k:Int).toNat) n else ((k:Int)+n).toNat)=_
 rw [if_pos (Int.natCast_nonneg k)];rfl
theorem pym (n d:Nat):pyBnd n d (.int (-1))=n-1:=by
 show (if (0:Int)≤ -1 then min ((-1:Int).toNat) n else (-1+(n:Int)).toNat)=_
 rw [if_neg (by decide),m1N]
theorem Z7m {n d:Nat} (hd:d≤n) {m:MV} (h:Z1z m=true):pyBnd n d m≤n:=by
 cases m with
 |none=>exact hd
 |int i=>
  rcases bndI (of_decide_eq_true h) with ⟨k,rfl⟩|rfl
  ·rw [pyk];exact Nat.min_le_right _ _
  ·rw [pym];exact Nat.sub_le _ _
 |_=>exact ff h
theorem toN {m:MV} (h:Z0G m=true):Z1z m=true:=by
 cases m with
 |none=>rfl
 |int i=>exact decide_eq_true (Int.le_trans (by decide) (of_decide_eq_true h))
 |_=>exact ff h
theorem msl {a n x S:Nat} (h:n≤S):min a n-x≤S:=Nat.le_trans (Nat.sub_le _ _) (Nat.le_trans (Nat.min_le_right _ _) h)
noncomputable def clN (n d:Nat) (m:MV):Int:=match bndOf m with|none=>(d:Int)|some i=>max 0 (min (if i<0 then i+(n:Int) else i) n)
theorem Zc2 {n d:Nat} {m:MV} (hm:Z1z m=true):clN n d m=(pyBnd n d m:Int):=by
 cases m with
 |none=>rfl
 |int i=>
  show max 0 (min (if i<0 then i+(n:Int) else i) n)=_
  rcases bndI (of_decide_eq_true hm) with ⟨k,rfl⟩|rfl
  ·rw [pyk,if_neg (Int.not_lt.2 (Int.natCast_nonneg k)),ZhK,Int.max_eq_right (Int.natCast_nonneg _)]
  ·rw [pym,if_pos (by decide)]
   cases n with
   |zero=>rfl
   |succ n=>
    show max 0 (min (-1+((n:Int)+1)) ((n+1:Nat):Int))=((n:Nat):Int)
    rw [Int.add_comm (n:Int) 1,Int.neg_add_cancel_left,Int.min_eq_left (Int.ofNat_le.2 (Nat.le_succ n)),Int.max_eq_right (Int.natCast_nonneg n)]
 |_=>exact ff hm
theorem sr1 (a b:Nat):sliceRange (a:Int) (b:Int) 1=(List.range (b-a)).map (fun k=>a+k):=by
 show (List.range (if (a:Int)<b then ((b:Int)-a+1-1)/1 else 0).toNat).map (fun (k:Nat)=>((a:Int)+1*k).toNat)=_
 have e:(if (a:Int)<b then ((b:Int)-a+1-1)/1 else 0).toNat=b-a:=by
  by_cases hlt:(a:Int)<b
  ·rw [if_pos hlt,Int.add_sub_cancel,Int.ediv_one,Int.toNat_sub]
  ·rw [if_neg hlt,Nat.sub_eq_zero_of_le (Int.ofNat_le.1 (Int.not_lt.1 hlt))]
   rfl
 rw [e]
 refine List.map_congr_left fun k _=>?_
 rw [Int.one_mul];rfl
theorem ZbD {n:Nat} {lo hi:MV} (h1:Z1z lo=true) (h2:Z1z hi=true):
  Builtin.Str.strSliceIndices (bndOf lo) (bndOf hi) 1 n=(List.range (pyBnd n n hi-pyBnd n 0 lo)).map (fun k=>pyBnd n 0 lo+k):=by
 show sliceRange (clN n 0 lo) (clN n n hi) 1=_
 rw [Zc2 h1,Zc2 h2,sr1]
theorem sl0 {a b n:Nat} (h:b-a=n) (hb:b≤n) (ha:a≤n):a=0:=by
 rw [←h] at hb
 exact (Nat.eq_zero_or_pos a).elim id fun p=>absurd hb (Nat.not_le.2 (Nat.sub_lt (Nat.lt_of_lt_of_le p (Nat.le_trans ha (h▸Nat.sub_le b a))) p))
theorem Z6H {α:Type} (l:List α) (lo hi:MV):Z1s l lo hi=(l.drop (pyBnd l.length 0 lo)).take (pyBnd l.length l.length hi-pyBnd l.length 0 lo):=by
 unfold Z1s;rw [List.drop_take]
section
variable {w:World} {h₀:Heap} {os₀:OsState} {σ:Z4} {s:Shared} {A:Around} {E:Value→Shared→Prop} {Q:ZT}
theorem Z92 {h:Heap} {m:MV} {v:Value} (hb:Z1z m=true) (r:Rep w σ h m v):∃l:Option (Int×Tok),v=partValue l∧l.map (·.1)=bndOf m:=by
 cases m<;>first|exact ff hb|skip
 ·cases r;exact ⟨none,rfl,rfl⟩
 ·obtain ⟨t,rfl⟩:=r;exact ⟨some (_,t),rfl,rfl⟩
theorem Z7k {h:Heap} {m:MV} {v:Value} (hb:Z1z m=true) (r:Rep w σ h m v):IsPart v (bndOf m):=by
 cases m<;>first|exact ff hb|skip
 ·cases r;exact .none
 ·obtain ⟨t,rfl⟩:=r;exact .int _ _
theorem ZfJ {n:Nat} {lo hi:MV} (h1:Z0G lo=true) (h2:Z0G hi=true):Builtin.Slice.sliceAdjust (bndOf lo) (bndOf hi) 1 (n:Int)=((pyBnd n 0 lo:Int),(pyBnd n n hi:Int)):=by
 have cl:∀{m:MV} {d:Nat},Z0G m=true→(match bndOf m with|none=>(d:Int)|some v=>if v<0 then max (v+(n:Int)) 0 else min v (n:Int))=(pyBnd n d m:Int):=fun {m d} hm=>by
  cases m with
  |none=>rfl
  |int i=>
   obtain ⟨k,rfl⟩:=Int.eq_ofNat_of_zero_le (of_decide_eq_true hm:0≤i)
   rw [pyk,←ZhK]
   exact if_neg (Int.not_lt.2 (Int.natCast_nonneg k))
  |_=>exact ff hm
 rw [←cl h1,←cl h2]
 rfl
theorem Z9e (a b:Nat):Builtin.Slice.slicePlaces (a:Int) (b:Int) 1=b-a:=by
 unfold Builtin.Slice.slicePlaces
 rw [if_pos (by decide)]
 by_cases hlt:(a:Int)<b
 ·rw [if_pos hlt,Int.ediv_one,Int.sub_add_cancel,Int.toNat_sub]
 ·rw [if_neg hlt,Nat.sub_eq_zero_of_le (Int.ofNat_le.1 (Int.not_lt.1 hlt))]
  rfl
theorem Z7o {A:Around} {v:Value} {k:Option Int} {R:Option Int→Shared→Prop} (hv:IsPart v k) (q:R k s):wpAny (model P w) A (Builtin.Slice.slicePartIndex v) R E s:=by
 cases hv with
 |none=>exact slicePart_none q
 |int i t=>exact slicePart_int q
theorem Z8W {A:Around} {sl:Addr} {vl vu:Value} {lo hi:MV} {n:Nat} {R:Int×Int×Nat→Shared→Prop} (hs:s.heap.IsSliceOf sl vl vu .none) (pl:IsPart vl (bndOf lo)) (pu:IsPart vu (bndOf hi)) (h1:Z0G lo=true) (h2:Z0G hi=true)
  (hR:R ((pyBnd n 0 lo:Int),1,pyBnd n n hi-pyBnd n 0 lo) s):wpAny (model P w) A (Builtin.Slice.sliceApplied (.ref sl) (pure (n:Int))) R E s:=by
 obtain ⟨os,hos,hcs,hds⟩:=hs
 unfold Builtin.Slice.sliceApplied Builtin.Slice.sliceFields
 refine wpAny_bind (wpAny_bind (wpAny_field hos hds (x:=vl) rfl (wpAny_bind (wpAny_field hos hds (x:=vu) rfl (wpAny_bind (wpAny_field hos hds (x:=.none) rfl (wpAny_pure ?_)))))))
 refine wpAny_bind (slicePart_none ?_)
 show wpAny _ _ (if ((1:Int)==0)=true then _ else _) _ _ s
 rw [if_neg (by decide)]
 refine wpAny_bind (Z7o pl (wpAny_bind (Z7o pu (wpAny_bind (wpAny_pure ?_)))))
 show wpAny _ _ (match Builtin.Slice.sliceAdjust (bndOf lo) (bndOf hi) 1 (n:Int) with|(lo,hi)=>pure (lo,(1:Int),Builtin.Slice.slicePlaces lo hi 1)) _ _ s
 rw [ZfJ h1 h2]
 rw [←Z9e] at hR
 exact wpAny_pure hR
theorem ZcK {items:Array Value} (a n:Nat):(List.range n).filterMap (fun (k:Nat)=>items[((a:Int)+(k:Int)*1).toNat]?)=(items.toList.drop a).take n:=by
 have:=pick_run items a n
 rw [List.filterMap_map] at this
 rw [←this]
 have e:(fun (k:Nat)=>items[((a:Int)+(k:Int)*1).toNat]?)=fun k=>items[a+k]?:=funext fun k=>by rw [Int.mul_one];rfl
 rw [e];rfl
set_option tactic.hygienic true in
theorem Z6p {t sl:Addr} {items:Array Value} {vl vu:Value} {lo hi:MV} {Q':Value→Shared→Prop} (ht:s.heap.IsTuple t items) (hs:s.heap.IsSliceOf sl vl vu .none) (pl:IsPart vl (bndOf lo)) (pu:IsPart vu (bndOf hi))
  (h1:Z0G lo=true) (h2:Z0G hi=true) (hsz:items.size≤sizeLine)
  (hq:∀a h',(∀b o,s.heap.get? b=some o→h'.get? b=some o)→h'.IsTuple a (Z1s items.toList lo hi).toArray→Q' (.ref a) {s with heap:=h'}):
  wpAny (model P w) A (getItem (.ref t) (.ref sl)) Q' E s:=by
 have hTs:s.TypeIs (.ref sl) "slice" :=let ⟨os,hos,hcs,_⟩:=hs;⟨os,hos,hcs⟩
 unfold getItem
 try with_reducible refine wpAny_holding ?_
 first|refine wpAny_bind (wpAny_pure ?_)|skip
 refine wpAny_bind (wpAny_sequenceKey (IsTup.typeIs ht) (by decide) ?_)
 refine wpAny_bind (wpAny_callSpecial?_slot (name:=Str.ofString "__getitem__") (IsTup.typeIs ht) slot_tuple_getitem
  (wpAny_call_entry slot_tuple_getitem (IsTup.typeIs ht) entry_tuple_getitem ?_ (args_tuple_getitem _ _)))
 show wpAny _ _ (Builtin.Tuple.tupleItemsOf (.ref t)>>= _) _ _ s
 refine wpAny_bind (tupleItemsOf_ ht ?_)
 refine wpAny_bind (wpAny_typeOf hTs ?_)
 rw [if_pos (by decide)]
 refine wpAny_bind (Z8W hs pl pu h1 h2 ?_)
 show wpAny _ _ (if ((pyBnd items.size 0 lo:Int)==0&&(1:Int)==1&&(pyBnd items.size items.size hi-pyBnd items.size 0 lo)==items.size)=true then _ else _) _ _ s
 have es:Z1s items.toList lo hi=(items.toList.drop (pyBnd items.size 0 lo)).take (pyBnd items.size items.size hi-pyBnd items.size 0 lo):=Z6H _ _ _
 rw [es] at hq
 split
 ·next hw=>
  obtain ⟨ha,hb⟩:=Bool.and_eq_true_iff.1 hw
  rw [eq_of_beq hb,Int.ofNat.inj (eq_of_beq (Bool.and_eq_true_iff.1 ha).1),List.drop_zero,←Array.length_toList,List.take_length] at hq
  refine wpAny_bind ?_
  unfold Builtin.Tuple.tupleIsExact
  refine wpAny_bind (wpAny_typeOf (IsTup.typeIs ht) ?_)
  refine wpAny_pure ?_
  rw [if_pos (by decide)]
  exact wpAny_bind (wpAny_rule (wpAny_pure ⟨_,rfl,wpAny_pure (hq t s.heap (fun _ _ e=>e) ht)⟩))
 ·rw [ZcK]
  have hfit:sizeOk (.seq ((items.toList.drop (pyBnd items.size 0 lo)).take (pyBnd items.size items.size hi-pyBnd items.size 0 lo)).toArray):=by
   show Array.size _≤sizeLine
   rw [List.size_toArray]
   exact Nat.le_trans (List.length_take_le' _ _) (Nat.le_trans (List.length_drop▸Nat.sub_le _ _) hsz)
  generalize (items.toList.drop (pyBnd items.size 0 lo)).take (pyBnd items.size items.size hi-pyBnd items.size 0 lo)=L at hq hfit ⊢
  have h:Q' (.ref s.heap.objs.size) {s with heap:=s.heap.push {cls:=.type "tuple",data:=.seq L.toArray}}:=hq _ _ (Zr s.heap _) ⟨_,Heap.get?_push_size _ rfl,rfl,_,rfl⟩
  first
   |exact wpAny_bind (m:=Builtin.Tuple.tupleExact _) (wpAny_newObj_type (wpAny_pure ⟨_,rfl,wpAny_pure h⟩) hfit)
   |exact wpAny_bind (m:=Builtin.Tuple.tupleExact _) (wpAny_newObj_type (wpAny_bind (wpAny_pure (wpAny_pure ⟨_,rfl,wpAny_pure h⟩))) hfit)
   |exact wpAny_bind (wpAny_bind (m:=Builtin.Tuple.tupleExact _) (wpAny_newObj_type (wpAny_pure (wpAny_pure ⟨_,rfl,wpAny_pure h⟩)) hfit))
   |exact wpAny_bind (wpAny_bind (m:=Builtin.Tuple.tupleExact _) (wpAny_newObj_type (wpAny_pure ⟨_,rfl,wpAny_pure h⟩) hfit))
noncomputable def Zga (w:World) (σ:Z4) (h:Heap) (sl:Addr) (lo hi:MV):Prop:=∃vl vu,h.IsSliceOf sl vl vu .none∧Rep w σ h lo vl∧Rep w σ h hi vu
set_option tactic.hygienic true in
theorem Z8V {x:List Nat} {lo hi:MV} {va:Value} {sl:Addr} (S:St w h₀ os₀ σ s) (ra:Rep w σ s.heap (.str x) va) (rs:Zga w σ s.heap sl lo hi) (h1:Z0G lo=true) (h2:Z1z hi=true) (q:Q (.str (Z1s x lo hi)) σ):
  wpAny (model P w) A (getItem va (.ref sl)) (EP w h₀ os₀ σ s.heap Q) E s:=by
 obtain ⟨vl,vu,hs,rl,ru⟩:=rs
 obtain ⟨hl,t,rfl⟩:=ra
 obtain ⟨l,rfl,el⟩:=Z92 (toN h1) rl
 obtain ⟨u,rfl,eu⟩:=Z92 h2 ru
 obtain ⟨o,ho,hc,hd⟩:=hs
 refine wpAny_getItem_str_slice (l:=l) (u:=u) (st:=none) ⟨o,ho,hc,hd⟩ (by decide) ?_
 have e:((slicePicked (lstr x) l u none).filterMap ((lstr x).cps[·]?))=Z1s x lo hi:=by
  unfold slicePicked
  rw [Zw,el,eu]
  show List.filterMap _ (Builtin.Str.strSliceIndices (bndOf lo) (bndOf hi) 1 x.length)=_
  rw [ZbD (toN h1) h2,Z6H]
  have:=pick_run (lstr x).cps (pyBnd x.length 0 lo) (pyBnd x.length x.length hi-pyBnd x.length 0 lo)
  rw [Z9r] at this
  exact this
 have hlen:(Z1s x lo hi).length≤SL:=by
  unfold Z1s;rw [List.length_drop,List.length_take];exact msl hl
 unfold sliceMade
 split
 ·next hw=>
  have hw:(slicePicked (lstr x) l u none).length=x.length:=by
   have:=(Bool.and_eq_true_iff.mp hw).2
   rw [beq_iff_eq,Zw] at this;exact this
  have hx:Z1s x lo hi=x:=by
   unfold slicePicked at hw
   rw [Zw,el,eu] at hw
   change (Builtin.Str.strSliceIndices (bndOf lo) (bndOf hi) 1 x.length).length=x.length at hw
   rw [ZbD (toN h1) h2,List.length_map,List.length_range] at hw
   have hb:=Z7m (Nat.le_refl x.length) h2
   have ha:=Z7m (Nat.zero_le x.length) (toN h1)
   have h0:pyBnd x.length 0 lo=0:=sl0 hw hb ha
   rw [h0] at hw
   rw [Z6H,h0,hw,List.drop_zero,List.take_length]
  show EP w h₀ os₀ _ s.heap _ (.str (lstr x) t) s
  rw [hx] at q
  exact EP.here S q ⟨hl,t,rfl⟩
 ·rw [e]
  refine ⟨?_,EP.str S q (by simpa [Str.length] using hlen) (Nat.succ_pos _)⟩
  rw [←Z1D];simpa [Str.length] using hlen
theorem Z8U {x:List MV} {lo hi:MV} {va:Value} {sl:Addr} (S:St w h₀ os₀ σ s) (ra:Rep w σ s.heap (.tup x) va) (rs:Zga w σ s.heap sl lo hi) (h1:Z0G lo=true) (h2:Z0G hi=true) (q:Q (.tup (Z1s x lo hi)) σ):
  wpAny (model P w) A (getItem va (.ref sl)) (EP w h₀ os₀ σ s.heap Q) E s:=by
 obtain ⟨vl,vu,hs,rl,ru⟩:=rs
 obtain ⟨hl,t,vs,rfl,ht,rt⟩:=ra
 have hlen:=rt.length
 refine Z6p ht hs (Z7k (toN h1) rl) (Z7k (toN h2) ru) h1 h2 (by rw [←Array.length_toList,hlen,←Z1D];exact hl) fun b h' g hb=>?_
 refine EP.grown (k:=s.toks) S S.toks g q ⟨by unfold Z1s;rw [List.length_drop,List.length_take];exact msl hl,b,_,rfl,hb,?_⟩
 show ZA w _ h' (Z1s x lo hi) (Z1s vs.toList lo hi)
 unfold Z1s
 rw [hlen]
 exact ((ZA.pres (X:=fun _=>False) (Pres.of_keeps g) S.toStL noX _ rt).take _).drop _
theorem ZaL {x:List MV} {hi:Int} {va:Value} {sl:Addr} (S:St w h₀ os₀ σ s) (ra:Rep w σ s.heap (.fl x) va) (rs:Zga w σ s.heap sl .none (.int hi)) (h2:0≤hi) (q:Q (.fl (x.take hi.toNat)) σ):
  wpAny (model P w) A (getItem va (.ref sl)) (EP w h₀ os₀ σ s.heap Q) E s:=by
 obtain ⟨vl,vu,hs,rl,ru⟩:=rs
 obtain ⟨hl,t,vs,rfl,_,ht,rt⟩:=ra
 cases rl
 obtain ⟨u,rfl⟩:=ru
 have hlen:=rt.length
 refine wpAny_getItem_list_slice ht hs .none (.int hi u) .none (by simp) ?_ (by rw [←Array.length_toList,hlen,←Z1D];exact hl)
 obtain ⟨k,rfl⟩:=Int.eq_ofNat_of_zero_le h2
 rw [slicePick_upto']
 have g:=Zr s.heap {cls:=.type "list",data:=.seq (vs.toList.take k).toArray}
 refine EP.grown (k:=s.toks) S S.toks g q ⟨by rw [List.length_take];exact Nat.le_trans (Nat.min_le_right _ _) hl,_,_,rfl,S.untracked_new (Heap.get?_size _),⟨_,Heap.get?_push_size _ rfl,rfl,_,rfl⟩,?_⟩
 exact (ZA.pres (X:=fun _=>False) (Pres.of_keeps g) S.toStL noX _ rt).take _
theorem Z3A {a lo hi va} {sl:Addr} (S:St w h₀ os₀ σ s) (ra:Rep w σ s.heap a va) (rs:Zga w σ s.heap sl lo hi) (q:Pr.sem .slice [a,lo,hi] σ Q):
  wpAny (model P w) A (getItem va (.ref sl)) (EP w h₀ os₀ σ s.heap Q) E s:=by
 obtain ⟨r,h,_,q⟩|⟨l,i,h,hi,q⟩:=q
 ·rcases Z02 h with h|h
  ·obtain ⟨l,e,h⟩:=Zb h
   cases MV.s_inv e
   obtain ⟨k,h⟩:=ZC h
   cases h
   have k:=Bool.and_eq_true_iff.1 k
   exact Z8V S ra rs k.1 k.2 q
  ·obtain ⟨l,e,h⟩:=Zb h
   cases MV.t_inv e
   obtain ⟨k,h⟩:=ZC h
   cases h
   have k:=Bool.and_eq_true_iff.1 k
   exact Z8U S ra rs k.1 k.2 q
 ·cases h;exact ZaL S ra rs hi q
end
end Mine
namespace Mine
section
variable {w:World} {h₀:Heap} {os₀:OsState} {σ:Z4} {s:Shared} {A:Around} {E:Value→Shared→Prop} {Q:ZT}
open SeqAt
theorem Z7y {h:Heap} {a:MV} {va:Value} (ra:Rep w σ h a va):(va== .none)=a.isNil:=by
 cases a with
 |none=>cases ra;rfl
 |bool b=>cases ra;rfl
 |int i=>obtain ⟨t,rfl⟩:=ra;rfl
 |str x=>obtain ⟨_,t,rfl⟩:=ra;rfl
 |tup l=>obtain ⟨_,a,vs,rfl,_⟩:=ra;rfl
 |lst a=>cases ra;rfl
 |fl l=>obtain ⟨_,a,vs,rfl,_⟩:=ra;rfl
 |dict l=>obtain ⟨a,f,rfl,_⟩:=ra;rfl
 |rng n=>obtain ⟨_,a,t,u,x,rfl,_⟩:=ra;rfl
theorem Z5A {a va} (S:St w h₀ os₀ σ s) (ra:Rep w σ s.heap a va) (q:Pr.sem .isNone [a] σ Q):wpAny (model P w) A (compareOp .Is va .none) (EP w h₀ os₀ σ s.heap Q) E s:=by
 obtain ⟨r,h,_,q⟩|q:=q
 rotate_left
 ·exact q.elim
 cases h
 refine is_none_gen ?_
 rw [Z7y ra]
 have q:Q (.bool (a.isNil !=false)) σ:=q
 rw [Bool.bne_false] at q
 exact EP.bool S q
theorem Z4Q {a va} (S:St w h₀ os₀ σ s) (ra:Rep w σ s.heap a va) (q:Pr.sem .notNone [a] σ Q):wpAny (model P w) A (compareOp .IsNot va .none) (EP w h₀ os₀ σ s.heap Q) E s:=by
 obtain ⟨r,h,_,q⟩|q:=q
 rotate_left
 ·exact q.elim
 cases h
 refine isnot_none_gen ?_
 rw [Z7y ra]
 have q:Q (.bool (a.isNil !=true)) σ:=q
 rw [Bool.bne_true] at q
 exact EP.bool S q
theorem Z8N {a va} (S:St w h₀ os₀ σ s) (ra:Rep w σ s.heap a va) (q:Pr.sem .notb [a] σ Q):wpAny (model P w) A (unaryOp .Not va) (EP w h₀ os₀ σ s.heap Q) E s:=by
 obtain ⟨r,h,_,q⟩|q:=q
 ·obtain ⟨y,e,h⟩:=Zb h
  cases MV.b_inv e
  cases h;cases ra;exact PyProof.Rows.not_of (wpAny_truthy_bool (EP.bool S q))
 ·exact q.elim
theorem Zdn {x y:MV} {v u:Value} (hu:A.units+2<cLine) (rx:Rep w σ s.heap x v) (ry:Rep w σ s.heap y u) (ok:x.eqok y=true):RcAt A s v u (x.eqv y):=by
 have hu0:A.units<cLine:=by lia
 rcases Z0s ok with ⟨a,b,rfl,rfl⟩|⟨a,b,rfl,rfl⟩|⟨a,b,c,d,rfl,rfl⟩
 ·obtain ⟨_,t,rfl⟩:=rx;obtain ⟨_,t',rfl⟩:=ry
  intro prog w E Q hq
  exact _root_.PySem.P.eq_str hq
 ·obtain ⟨t,rfl⟩:=rx;obtain ⟨t',rfl⟩:=ry
  intro prog w E Q hq
  exact _root_.PySem.P.eq_int hq
 ·obtain ⟨_,p,vs,rfl,ha,ra⟩:=rx
  obtain ⟨_,q,us,rfl,hb,rb⟩:=ry
  exact Z95 hu0 ha hb ra rb
theorem ZcP {x y:MV} {v u:Value} (hu:A.units+2<cLine) (rx:Rep w σ s.heap x v) (ry:Rep w σ s.heap y u) (ok:x.eqok y=true):RcNeAt A s v u (!(x.eqv y)):=by
 have hu0:A.units<cLine:=by lia
 rcases Z0s ok with ⟨a,b,rfl,rfl⟩|⟨a,b,rfl,rfl⟩|⟨a,b,c,d,rfl,rfl⟩
 ·obtain ⟨_,t,rfl⟩:=rx;obtain ⟨_,t',rfl⟩:=ry
  intro prog w E Q hq
  exact _root_.PySem.P.ne_str hq
 ·obtain ⟨t,rfl⟩:=rx;obtain ⟨t',rfl⟩:=ry
  intro prog w E Q hq
  exact _root_.PySem.P.ne_int hq
 ·obtain ⟨_,p,vs,rfl,ha,ra⟩:=rx
  obtain ⟨_,q,us,rfl,hb,rb⟩:=ry
  obtain ⟨t,u,rfl⟩:=Z1H ra
  obtain ⟨t',u',rfl⟩:=Z1H rb
  have h:=RcNeAt.tuples (e:=fun j=>if j=0 then c==a else d==b) ha hb hu0 (fun j h1 h2=>by
   match j,h1 with
   |0,_=>exact Z2k
   |1,_=>exact Z2k)
  have e:(!((List.range (min (#[Value.str (lstr a) t,Value.str (lstr b) u]).size (#[Value.str (lstr c) t',Value.str (lstr d) u']).size)).all (fun j=>if j=0 then c==a else d==b)&&
    (#[Value.str (lstr a) t,Value.str (lstr b) u]).size==(#[Value.str (lstr c) t',Value.str (lstr d) u']).size))=(!(a==c&&b==d)):=by
   have e1:(c==a)=(a==c):=BEq.comm
   have e2:(d==b)=(b==d):=BEq.comm
   show (!((c==a)&&((d==b)&&true)&&true))=_
   rw [e1,e2,Bool.and_true,Bool.and_true]
  rw [e] at h;exact h
theorem Z5G {l b:Addr} {items items2:Array Value} (hl:s.heap.IsList l items) (hb:s.heap.IsList b items2) (h0:items2.size=0) (hu:A.units<cLine):RcAt A s (.ref l) (.ref b) (decide (items.size=0)):=by
 by_cases h:items.size=0
 ·have:=RcAt.lists (e:=fun _=>true) hl hb (h.trans h0.symm) hu (fun j h1 _=>by lia)
  rw [decide_eq_true h]
  rwa [show (List.range items.size).all (fun _=>true)=true by simp] at this
 ·rw [decide_eq_false h]
  exact RcAt.lists_lengths hl hb (by simp [h0,h]) hu
theorem Z4g {l b:Addr} {items items2:Array Value} (hl:s.heap.IsList l items) (hb:s.heap.IsList b items2) (h0:items2.size=0) (hu:A.units<cLine):RcNeAt A s (.ref l) (.ref b) (!decide (items.size=0)):=by
 by_cases h:items.size=0
 ·have:=RcNeAt.lists (e:=fun _=>true) hl hb (h.trans h0.symm) hu (fun j h1 _=>by lia)
  rw [decide_eq_true h]
  rwa [show (!(List.range items.size).all (fun _=>true))= !true by simp] at this
 ·rw [decide_eq_false h]
  exact RcNeAt.lists_lengths hl hb (by simp [h0,h]) hu
theorem Z9l {vs:Array Value} {l:List MV} (h:vs.toList.length=l.length):l.isEmpty=decide (vs.size=0):=by
 rw [←Array.length_toList,h];cases l<;>rfl
theorem ZaK {a b va vb} (S:St w h₀ os₀ σ s) (hu:A.units+2<cLine) (ra:Rep w σ s.heap a va) (rb:Rep w σ s.heap b vb) (q:Pr.sem .eq [a,b] σ Q):
  wpAny (model P w) A (compareOp .Eq va vb) (EP w h₀ os₀ σ s.heap Q) E s:=by
 obtain ⟨r,h,_,q⟩|⟨c,l,h,e,q⟩:=q
 ·obtain ⟨k,h⟩:=ZC h
  cases h
  have q:Q (.bool (a.eqv b !=false)) σ:=q
  rw [Bool.bne_false] at q
  exact Zdn hu ra rb k P w E _ (EP.bool S q)
 ·cases h;cases ra
  obtain ⟨_,vs,hc,rc⟩:=S.lists _ _ e
  obtain ⟨_,d,us,rfl,_,hd,rd⟩:=rb
  exact Z5G hc.isList hd rd.length (by lia) P w E _ (Z9l rc.length▸EP.bool S q)
theorem ZaE {a b va vb} (S:St w h₀ os₀ σ s) (hu:A.units+2<cLine) (ra:Rep w σ s.heap a va) (rb:Rep w σ s.heap b vb) (q:Pr.sem .ne [a,b] σ Q):
  wpAny (model P w) A (compareOp .NotEq va vb) (EP w h₀ os₀ σ s.heap Q) E s:=by
 obtain ⟨r,h,_,q⟩|⟨c,l,h,e,q⟩:=q
 ·obtain ⟨k,h⟩:=ZC h
  cases h
  have q:Q (.bool (a.eqv b !=true)) σ:=q
  rw [Bool.bne_true] at q
  exact ZcP hu ra rb k P w E _ (EP.bool S q)
 ·cases h;cases ra
  obtain ⟨_,vs,hc,rc⟩:=S.lists _ _ e
  obtain ⟨_,d,us,rfl,_,hd,rd⟩:=rb
  exact Z4g hc.isList hd rd.length (by lia) P w E _ (Z9l rc.length▸EP.bool S q)
theorem Z3Z {α:Type} {i:Int} {l:List α} {x:α} (h:(pyIdx i l.length).bind (l[·]?)=some x):∃j,seqIndex? i l.length=some j∧l[j]? =some x:=by
 rw [Z4V] at h
 cases e:seqIndex? i l.length with
 |none=>rw [e] at h;cases h
 |some j=>rw [e] at h;exact ⟨j,rfl,h⟩
theorem Z40 {i:Int} {n j:Nat} (h:seqIndex? i n=some j):(0≤i∧i<n∧j=i.toNat)∨(i<0∧0≤i+n∧j=(i+n).toNat):=by
 rw [←Z4V] at h
 unfold pyIdx at h
 split at h
 ·split at h
  ·cases h;exact .inl ⟨by assumption,by assumption,rfl⟩
  ·cases h
 ·split at h
  ·cases h;exact .inr ⟨by lia,by assumption,rfl⟩
  ·cases h
theorem Z3Y {i:Int} {n j:Nat} (h:seqIndex? i n=some j): -(n:Int)≤i∧i<n:=by
 rcases Z40 h with ⟨a,b,_⟩|⟨a,b,_⟩<;>lia
theorem Z5T {c:Addr} {vs:Array Value} {l:List MV} {i:Int} {t:Tok} {m:MV} (S:St w h₀ os₀ σ s) (hl:l.length≤SL) (hc:s.heap.IsList c vs) (rc:ZA w σ s.heap l vs.toList) (e:(pyIdx i l.length).bind (l[·]?)=some m) (q:Q m σ):
  wpAny (model P w) A (getItem (.ref c) (.int i t)) (EP w h₀ os₀ σ s.heap Q) E s:=by
 obtain ⟨j,h1,h2⟩:=Z3Z e
 have hr:=Z3Y h1
 have hb:=Zcu hl
 have hlen:=rc.length
 simp only [Array.length_toList] at hlen
 obtain ⟨v,hv,rv⟩:=rc.at h2
 rw [Array.getElem?_toList] at hv
 rcases Z40 h1 with ⟨a,b,rfl⟩|⟨a,b,rfl⟩
 ·exact wpAny_getItem_list hc a (by lia) hv (EP.here S q rv)
 ·exact wpAny_getItem_list_neg hc a (by rw [hlen];exact hr.1) (by lia) (by rw [hlen];exact hv) (EP.here S q rv)
theorem Z4R {a b va vb} (S:St w h₀ os₀ σ s) (ra:Rep w σ s.heap a va) (rb:Rep w σ s.heap b vb) (q:Pr.sem .getitem [a,b] σ Q):
  wpAny (model P w) A (getItem va vb) (EP w h₀ os₀ σ s.heap Q) E s:=by
 obtain ⟨r,h,_,q⟩|⟨c,l,i,m,h,e0,e,q⟩:=q
 ·rcases Z02 h with h1|h1
  ·clear h
   obtain ⟨i,e,h2⟩:=Zb h1
   clear h1
   cases MV.i_inv e
   obtain ⟨u,rfl⟩:=rb
   rcases Z02 h2 with h3|h3
   ·obtain ⟨l,e,h4⟩:=Zb h3
    obtain ⟨m,e1,h5⟩:=Zb h4
    clear h2 h3 h4
    cases MV.t_inv e
    cases h5
    obtain ⟨hl,c,vs,rfl,hc,rc⟩:=ra
    obtain ⟨j,h1,h2⟩:=Z3Z (Z9E e1)
    have hr:=Z3Y h1
    have hb:=Zcu hl
    have hlen:=rc.length
    simp only [Array.length_toList] at hlen
    obtain ⟨v,hv,rv⟩:=rc.at h2
    rw [Array.getElem?_toList] at hv
    exact PyProof.Rows.getItem_tuple hc (by lia) (by lia) (by rw [hlen];exact h1) hv (EP.here S q rv)
   rcases Z02 h3 with h4|h4
   ·obtain ⟨l,e,h5⟩:=Zb h4
    obtain ⟨m,e1,h6⟩:=Zb h5
    clear h2 h3 h4 h5
    cases MV.f_inv e
    cases h6
    obtain ⟨hl,c,vs,rfl,_,hc,rc⟩:=ra
    exact Z5T S hl hc rc (Z9E e1) q
   ·obtain ⟨l,e,h5⟩:=Zb h4
    obtain ⟨m,e1,h6⟩:=Zb h5
    clear h2 h3 h4 h5
    cases MV.s_inv e
    cases h6
    obtain ⟨hl,t,rfl⟩:=ra
    obtain ⟨j,h1,h2⟩:=Z3Z (Z9E e1)
    have hr:=Z3Y h1
    have hb:=Zcu hl
    refine PyProof.Rows.getItem_str (c:=m) (by simp only [Bool.or_eq_false_iff,decide_eq_false_iff_not];lia) ?_ ?_
    ·rw [Zw,h1]
     show (lstr _).cps[j]? =some m
     rw [←Array.getElem?_toList];exact h2
    ·exact EP.flat S q ⟨by show 1≤SL;decide,_,rfl⟩ (Nat.succ_pos _)
  ·obtain ⟨k,e,h2⟩:=Zb h1
   obtain ⟨l,e1,h3⟩:=Zb h2
   obtain ⟨m,e2,h4⟩:=Zb h3
   clear h h1 h2 h3
   cases MV.s_inv e
   cases MV.d_inv e1
   cases h4
   obtain ⟨d,f,rfl,hd,hm,_,hno,hp⟩:=ra
   obtain ⟨_,t,rfl⟩:=rb
   obtain ⟨u,hu,ru⟩:=hp.at e2
   exact wpAny_getItem_of (knd:=strKind P w) (strKind_is P w _ t) hm hu (EP.flat S q ru (Nat.succ_pos _))
 ·cases h
  cases ra
  obtain ⟨u,rfl⟩:=rb
  obtain ⟨hl,vs,hc,rc⟩:=S.lists _ _ e0
  exact Z5T S hl hc.isList rc e q
theorem Z6x {l:List MV} {vs:List Value} (S:St w h₀ os₀ σ s) (r:ZA w σ s.heap l vs) (hl:l.length≤SL) (q:Q (.tup l) σ):wpAny (model P w) A (newTuple vs) (EP w h₀ os₀ σ s.heap Q) E s:=by
 have hlen:=r.length
 refine wpAny_newObj_type ?_ (by show vs.toArray.size≤sizeLine;rw [List.size_toArray,hlen,←Z1D];exact hl)
 have g:=Zr s.heap {cls:=.type "tuple",data:=.seq vs.toArray}
 exact EP.grown (k:=s.toks) S S.toks g q ⟨hl,_,vs.toArray,rfl,⟨_,Heap.get?_push_size _ rfl,rfl,_,rfl⟩,ZA.pres (X:=fun _=>False) (Pres.of_keeps g) S.toStL noX _ r⟩
theorem Z84 {l:List MV} {vs:List Value} (S:St w h₀ os₀ σ s) (r:ZA w σ s.heap l vs) (hl:l.length≤SL) (q:Q (.fl l) σ):wpAny (model P w) A (newList vs) (EP w h₀ os₀ σ s.heap Q) E s:=by
 have hlen:=r.length
 refine wpAny_newObj_type ?_ (by show vs.toArray.size≤sizeLine;rw [List.size_toArray,hlen,←Z1D];exact hl)
 have g:=Zr s.heap {cls:=.type "list",data:=.seq vs.toArray}
 exact EP.grown (k:=s.toks) S S.toks g q ⟨hl,_,vs.toArray,rfl,S.untracked_new (Heap.get?_size _),⟨_,Heap.get?_push_size _ rfl,rfl,_,rfl⟩,ZA.pres (X:=fun _=>False) (Pres.of_keeps g) S.toStL noX _ r⟩
theorem ZaV {X:Addr→Prop} {h h':Heap} {a:Addr} {l:List MV} (ha:h.get? a=none) (g:∀b o,h.get? b=some o→h'.get? b=some o):Pres X σ h (upd σ a l) h':=by
 intro b o ho hb _
 have hba:b≠a:=by rintro rfl;rw [ha] at ho;cases ho
 exact ⟨g b o ho,by rw [Zp hba];exact hb⟩
theorem Z2P {l:List MV} {vs:List Value} (S:St w h₀ os₀ σ s) (r:ZA w σ s.heap l vs) (hl:l.length≤SL) (q:∀a,σ a=none→Q (.lst a) (upd σ a l)):wpAny (model P w) A (newList vs) (EP w h₀ os₀ σ s.heap Q) E s:=by
 have hlen:=r.length
 refine wpAny_newObj_type ?_ (by show vs.toArray.size≤sizeLine;rw [List.size_toArray,hlen,←Z1D];exact hl)
 have g:=Zr s.heap {cls:=.type "list",data:=.seq vs.toArray}
 have p:Pres (fun _=>False) σ s.heap (upd σ s.heap.objs.size l) (s.heap.push {cls:=.type "list",data:=.seq vs.toArray}):=ZaV (Heap.get?_size _) g
 refine ⟨_,_,q _ (S.untracked_new (Heap.get?_size _)),rfl,?_,p⟩
 refine St.upd (k:=s.toks) S S.toks (fun o ho=>?_) (fun b o _ ho=>g b o ho) p hl ⟨_,Heap.get?_push_size _ rfl⟩ (ZA.pres p S.toStL noX _ r)
 have:=S.keep _ _ ho
 rw [Heap.get?_size] at this;cases this
mutual
theorem Z3C:∀(m:MV),showable m=true→PyData.showable (Z1S m)=true
 | .none,_=>by simp [Z1S,PyData.showable]
 | .bool _,_=>by simp [Z1S,PyData.showable]
 | .int i,h=>by
  simp only [showable,decide_eq_true_eq] at h
  simp only [Z1S,PyData.showable,decide_eq_true_eq]
  by_cases h0:i=0
  ·subst h0;decide
  ·have:=Z1K h0 h;lia
 | .str _,_=>by simp [Z1S,PyData.showable]
 | .tup l,h=>by
  simp only [Z1S,PyData.showable]
  exact Z2R l (by simpa [showable] using h)
theorem Z2R:∀(l:List MV),Z08 l=true→PyData.showableAll (Z1t l)=true
 |[],_=>by simp [Z1t,PyData.showableAll]
 |m::ms,h=>by
  simp only [Z08,Bool.and_eq_true] at h
  simp only [Z1t,PyData.showableAll,Bool.and_eq_true]
  exact ⟨Z3C m h.1,Z2R ms h.2⟩
end
theorem Z83 {a va} (S:St w h₀ os₀ σ s) (hg:A.guards=some []) (hu:A.units+1002<cLine) (ra:Rep w σ s.heap a va) (q:Pr.sem .repr [a] σ Q):
  wpAny (model P w) A (call (.builtin "repr") [va]) (EP w h₀ os₀ σ s.heap Q) E s:=by
 obtain ⟨r,h,_,q⟩|⟨l,h,h1,h2,h3,q⟩:=q
 ·cases h
 ·cases h
  have h1:showable (.tup l)=true:=h1
  have rd:=Z7l _ h1 ra
  obtain ⟨_,c,vs,rfl,hc,rc⟩:=ra
  have hlen:=h3
  unfold Z3G at hlen
  rw [Array.length_toList] at hlen
  refine Z0B S.toks (repr_of_reads' rd (Z3C _ h1) (fun _ x=>by cases x) hg (by lia) (fun _ _ e=>e) (fun h' u tk g hk=>?_) (by rw [←Z1D];exact hlen))
  refine EP.grown S hk g q ⟨h3,u,?_⟩
  unfold Z3G;rw [Z3Q]
set_option tactic.hygienic true in
theorem Z3y {h:Heap}:∀{l:List MV} {t:List (List Nat)} {vs:List Value},Z1R l=some t→ZA w σ h l vs→∃p:List (Str×Tok),vs=strValues p∧p.map (·.1)=t.map lstr
 |[],_,_,e,r=>by cases e;cases r;exact ⟨[],rfl,rfl⟩
 |m::ms,t,_,e,r=>by
  obtain ⟨v,rest,rfl,x,y⟩:=r
  cases m<;>first|exact nn e|skip
  rename_i a
  simp only [Z1R] at e
  cases e':Z1R ms with
  |none=>rw [e'] at e;cases e
  |some t'=>
   rw [e'] at e;cases e
   obtain ⟨p,rfl,hp⟩:=Z3y e' y
   obtain ⟨_,k,rfl⟩:=x
   exact ⟨(lstr a,k)::p,rfl,by simp [hp]⟩
theorem ZbQ (sep:List Nat):∀t:List (List Nat),Str.join (lstr sep) (t.map lstr)=lstr (joinL sep t)
 |[]=>rfl
 |[a]=>rfl
 |a::b::r=>by
  have ih:=ZbQ sep (b::r)
  show lstr a++lstr sep++Str.join (lstr sep) ((b::r).map lstr)=lstr (a++sep++joinL sep (b::r))
  rw [ih]
  show Str.mk ((a.toArray++sep.toArray)++(joinL sep (b::r)).toArray)=_
  simp [lstr]
theorem Z7t (sep:List Nat):∀t:List (List Nat),((t.map lstr).map (·.length)).sum+(t.map lstr).length*sep.length≤(joinL sep t).length+sep.length
 |[]=>by simp
 |[a]=>by simp [joinL]
 |a::b::r=>by
  have ih:=Z7t sep (b::r)
  simp only [List.map_cons,List.sum_cons,List.length_cons,List.length_map,Zw,joinL,List.length_append,Nat.add_mul,Nat.one_mul] at ih ⊢
  lia
theorem Z85 {a b va vb} (S:St w h₀ os₀ σ s) (ra:Rep w σ s.heap a va) (rb:Rep w σ s.heap b vb) (q:Pr.sem .join [a,b] σ Q):
  wpAny (model P w) A (call (.builtin "str.join") [va,vb]) (EP w h₀ os₀ σ s.heap Q) E s:=by
 have key:∀{sep:List Nat} {t:Tok} {c:Addr} {vs:Array Value} {l:List MV} {ts:List (List Nat)},s.heap.IsList c vs→ZA w σ s.heap l vs.toList→Z1R l=some ts→(joinL sep ts).length+sep.length≤SL→Q (.str (joinL sep ts)) σ→
   wpAny (model P w) A (call (.builtin "str.join") [.str (lstr sep) t,.ref c]) (EP w h₀ os₀ σ s.heap Q) E s:=by
  intro sep t c vs l ts hc rc et hlen q
  obtain ⟨p,hp,hpt⟩:=Z3y et rc
  have hc':s.heap.IsList c (strValues p).toArray:=by rw [←hp];simpa using hc
  refine Z0B S.toks (SC.join (texts:=ts.map lstr) hc' hpt ?_ fun t' k hk=>?_)
  ·unfold JoinOk
   have h1:=StrLaws.joinTotal (lstr sep) (ts.map lstr)
   have h2:=Z7t sep ts
   rw [h1]
   rw [Z1D,sizeLine_eq] at hlen
   rw [Zw] at*
   simp only [Bool.not_eq_true',Builtin.Str.tooLong,decide_eq_false_iff_not,sizeLine_eq]
   lia
  ·have e:Txt.join (lstr sep) (ts.map lstr)=lstr (joinL sep ts):=by
    unfold Txt.join;rw [StrLaws.glued_eq_join,ZbQ]
   rw [e]
   exact EP.flat S q ⟨by lia,t',rfl⟩ hk
 obtain ⟨r,h,_,q⟩|⟨x,y,l,ts,h,e,et,hlen,q⟩:=q
 ·cases h
 ·cases h;obtain ⟨_,t,rfl⟩:=ra
  rcases e with rfl|⟨c,rfl,e⟩
  ·obtain ⟨_,c,vs,rfl,_,hc,rc⟩:=rb
   exact key hc rc et hlen q
  ·cases rb
   obtain ⟨_,vs,hc,rc⟩:=S.lists _ _ e
   exact key hc.isList rc et hlen q
end
end Mine
namespace Mine
section
variable {w:World} {h₀:Heap} {os₀:OsState} {σ:Z4} {s:Shared} {A:Around} {E:Value→Shared→Prop} {Q:ZT}
theorem Z4T {l:Addr} {items:Array Value} {k:Int} {t:Tok} {v:Value} {Q':Unit→Shared→Prop} (hl:s.heap.PlainList l items)
  (h0:0≤k) (hfit:k<2^63) (hn:k<items.size)
  (hQ:∀h',h'.PlainList l (items.setIfInBounds k.toNat v)→Heap.SameBut l s.heap h'→Q' () {s with heap:=h'}):
  wpAny (model P w) A (setItem (.ref l) (.int k t) v) Q' E s:=by
 obtain ⟨ne,ho⟩:=id hl
 have hli:=hl.isList
 unfold setItem
 try with_reducible refine wpAny_holding ?_
 first|refine wpAny_bind (wpAny_pure ?_)|skip
 refine wpAny_bind (wpAny_sequenceKey hli.typeIs (by decide) ?_)
 refine wpAny_bind (wpAny_callSpecial?_slot (name:=Str.ofString "__setitem__") hli.typeIs slot_list_setitem
  (wpAny_call_entry slot_list_setitem hli.typeIs entry_list_setitem ?_ (args_list_setitem _ _ _)))
 show wpAny _ _ (Builtin.List.listSubscript? (.int k t)>>= _) _ _ s
 refine wpAny_bind (wpAny_listSubscript_int (fitsIndex_of h0 hfit) ?_)
 clear hfit
 obtain ⟨j,rfl⟩:=Int.eq_ofNat_of_zero_le h0
 have hj:j<items.size:=by lia
 have hx':items[j]? =some items[j]:=Array.getElem?_eq_getElem hj
 show wpAny _ _ ((seqItemAt l j>>= fun r=>pure (r.map (j,·)))>>= _) _ _ s
 refine wpAny_bind (wpAny_bind (wpAny_seqItemAt ho rfl (wpAny_pure ?_)))
 rw [hx']
 show wpAny _ _ (setSeqItemAt l j v>>= _) _ _ s
 have hfin:(s.heap.update l (Obj.mapSeq (·.setIfInBounds j v))).PlainList l (items.setIfInBounds j v):=
  ⟨_,Heap.get?_update_self _ ho rfl⟩
 refine wpAny_bind (wpAny_setSeqItemAt ho rfl ?_)
 first
  |exact wpAny_bind (wpAny_pure (wpAny_pure ⟨.none,rfl,wpAny_pure (hQ _ hfin (Heap.SameBut.update ..))⟩))
  |exact wpAny_pure ⟨.none,rfl,wpAny_pure (hQ _ hfin (Heap.SameBut.update ..))⟩
theorem Z4O {a:Addr} {n:Int} {t:Tok} {l:List MV} {m:MV} {v:Value} {j:Nat} {Q':Unit→Shared→Prop} (S:St w h₀ os₀ σ s) (e:σ a=some l) (rv:Rep w σ s.heap m v) (h0:0≤n) (hj:pyIdx n l.length=some j)
  (hq:∀s',St w h₀ os₀ (upd σ a (l.set j m)) s'→Pres (fun _=>False) σ s.heap (upd σ a (l.set j m)) s'.heap→Q' () s'):
  wpAny (model P w) A (setItem (.ref a) (.int n t) v) Q' E s:=by
 obtain ⟨hl,vs,hc,rc⟩:=S.lists _ _ e
 have hlen:=rc.length
 simp only [Array.length_toList] at hlen
 have hb:=Zcu hl
 rw [Z4V] at hj
 rcases Z40 hj with ⟨_,h1,rfl⟩|⟨h1,_⟩
 ·refine Z4T hc h0 (by lia) (by rw [hlen];exact h1) fun h' hc' hs=>?_
  have p:=Z7n (X:=fun _=>False) (l':=l.set n.toNat m) e hs
  refine hq _ (St.upd (k:=s.toks) S S.toks (fun o ho=>by rw [S.sep _ _ ho] at e;cases e) (fun b o hb ho=>(hs.2 b hb).trans ho) p (by simpa using hl) hc' ?_) p
  rw [Array.toList_setIfInBounds]
  exact (ZA.pres p S.toStL noX _ rc).set (Rep.pres p S.toStL noX _ rv)
 ·lia
theorem Z4P {x a b:List Nat} {t u v:Tok} (S:St w h₀ os₀ σ s) (hu:u≠0) (hv:v≠0) (huv:u≠v) (q:Pr.sem (.replace a b) [.str x] σ Q):
  wpAny (model P w) A (call (.builtin "str.replace") [.str (lstr x) t,.str (lstr a) u,.str (lstr b) v]) (EP w h₀ os₀ σ s.heap Q) E s:=by
 obtain ⟨r,h,x1,q⟩|q:=q
 rotate_left
 ·exact q.elim
 cases h
 obtain ⟨h1,h2,h3,h4⟩:=x1
 have hb:(lstr x).length+((lstr x).length+1)*(lstr b).length≤16777216:=by
  rw [Zw,Zw]
  have:=Nat.mul_le_mul (show x.length+1≤1001 by lia) h3
  lia
 refine Z0B S.toks (SC.replace hu hv huv ?_ hb fun t' k hk=>?_)
 ·rw [beq_eq_false_iff_ne] at h4 ⊢
  exact fun h=>h4 (Z18.mp h)
 ·refine EP.str S q ?_ hk
  unfold Txt.replace
  split
  ·rw [Zw];unfold SL;lia
  ·rw [Z1D];exact fits_replaced _ hb
end
end Mine
namespace Mine
structure Base (w:World) (h₀:Heap) (mg mb:Str→Option Value):Prop where
 g:h₀.Ns mainGlobals mg
 b:h₀.Ns builtinsNs mb
 nolimit:h₀.NoLimit
 fns:∀x∈fnTab,mg x.1=some (.ref x.2.1)∧∃y,Z9R x.2.2=some y∧Zbe h₀ x.2.1=some y
 bi:∀x∈(["len","ord","isinstance","repr","max"]:List String),mg (Str.ofString x)=none∧mb (Str.ofString x)=some (.builtin x)
 ty:∀x∈(["str","tuple","range","bool"]:List String),mg (Str.ofString x)=none∧mb (Str.ofString x)=some (.type x)
structure EnvOk (sc:Scope) (env:Env):Prop where
 kind:env.scope.kind=.function
 glob:env.globals=mainGlobals
 blt:env.builtins=builtinsNs
 loc:∀x,sc.names.lookup x=some .local→env.kindOf x=some .local
 cel:∀x,sc.names.lookup x=some .cell→env.kindOf x=some .cell
 fre:∀x,sc.names.lookup x=some .free→env.kindOf x=some .free∨env.kindOf x=some .cell
 glb:∀x,sc.names.lookup x=some .globalImplicit→env.kindOf x=some .globalImplicit
 cls:∀x,sc.names.lookup x=some .cell→∃c,env.cells.lookup x=some c
noncomputable def Zu (w:World) (T:List Str) (env:Env) (ρ:Loc) (σ:Z4) (h:Heap):Prop:=
 ∃m cm:Str→Option Value,h.Ns env.locals m∧(∀n c,env.cells.lookup n=some c→h.IsCell c (cm n))∧
  ∀(i:Nat) (x:Str) (v:MV),T[i]? =some x→ρ[i]? =some (some v)→
   (env.kindOf x=some .local→∃u,m x=some u∧Rep w σ h v u)∧
   (env.kindOf x=some .cell∨env.kindOf x=some .free→∃c u,env.cells.lookup x=some c∧cm x=some u∧Rep w σ h v u)
section
variable {w:World} {σ σ':Z4} {h h':Heap}
theorem Z0t (S:StL w σ h) {a:Addr} {o:Obj} (ho:h.get? a=some o) (hd:∀vs n,o.data≠ .seq vs n):σ a=none:=by
 cases e:σ a with
 |none=>rfl
 |some l=>
  obtain ⟨us,o',ho',_,n,hd'⟩:=Z07 S e
  rw [ho] at ho';cases ho';exact absurd hd' (hd _ _)
theorem Pres.ns {X} (p:Pres X σ h σ' h') (S:StL w σ h) {a:Addr} (hX:¬X a) {m:Str→Option Value} (hn:h.Ns a m):h'.Ns a m:=by
 obtain ⟨o,es,ep,ho,hd,r⟩:=hn
 exact ⟨o,es,ep,(p a o ho (Z0t S ho (by rw [hd];intro _ _ x;cases x)) hX).1,hd,r⟩
theorem Pres.cell {X} (p:Pres X σ h σ' h') (S:StL w σ h) {a:Addr} (hX:¬X a) {v:Option Value} (hn:h.IsCell a v):h'.IsCell a v:=by
 obtain ⟨o,ho,hd⟩:=hn
 exact ⟨o,(p a o ho (Z0t S ho (by rw [hd];intro _ _ x;cases x)) hX).1,hd⟩
theorem Zu.pres {T:List Str} {env:Env} {ρ:Loc} (F:Zu w T env ρ σ h) (p:Pres (fun _=>False) σ h σ' h') (S:StL w σ h):Zu w T env ρ σ' h':=by
 obtain ⟨m,cm,hn,hc,hv⟩:=F
 refine ⟨m,cm,p.ns S id hn,fun n c e=>p.cell S id (hc n c e),fun i x v e1 e2=>?_⟩
 obtain ⟨a,b⟩:=hv i x v e1 e2
 exact ⟨fun k=>let ⟨u,e,r⟩:=a k;⟨u,e,Rep.pres p S noX _ r⟩,fun k=>let ⟨c,u,e,e',r⟩:=b k;⟨c,u,e,e',Rep.pres p S noX _ r⟩⟩
end
set_option tactic.hygienic true in
theorem Z1a {x:Str}:∀{T:List Str} {i:Nat},Z6R x T=some i→T[i]? =some x
 |[],_,e=>by cases e
 |y::r,i,e=>by
  unfold Z6R at e
  split at e
  ·next h=>cases e;rw [beq_iff_eq] at h;subst h;rfl
  ·cases e':Z6R x r with
   |none=>rw [e'] at e;cases e
   |some j=>rw [e'] at e;cases e;simpa using Z1a e'
structure Room (d:Nat) (A:Around):Prop where
 depth:A.depth+d≤1000
 units:A.units+3*d+1100<cLine
 handled:A.handled=none
 guards:A.guards=some []
noncomputable def FT:Nat→Option Fn:=Zft
section
variable (w:World) (h₀:Heap) (os₀:OsState) (d:Nat) (A:Around) (T:List Str)
noncomputable def SE (sc:Scope) (e:PySem.Expr) (c:CE):Prop:=
 ∀(env:Env) (ρ:Loc) (σ:Z4) (s:Shared) (Q:ZT) (E:Value→Shared→Prop),EnvOk sc env→St w h₀ os₀ σ s→Zu w T env ρ σ s.heap→wpE (Z3 FT d) c ρ σ Q→
  wpAny (model P w) A (eval e env) (EP w h₀ os₀ σ s.heap Q) E s
noncomputable def BP (σ:Z4) (h:Heap) (R:Bool→Z4→Prop):Bool→Shared→Prop:=
 fun b s'=>∃σ',R b σ'∧St w h₀ os₀ σ' s'∧Pres (fun _=>False) σ h σ' s'.heap
noncomputable def ZV (R:Bool→Z4→Prop):ZT:=fun v σ=>match v with| .bool b=>R b σ|_=>False
noncomputable def SB (sc:Scope) (e:PySem.Expr) (c:CE):Prop:=
 ∀(env:Env) (ρ:Loc) (σ:Z4) (s:Shared) (R:Bool→Z4→Prop) (E:Value→Shared→Prop),EnvOk sc env→St w h₀ os₀ σ s→Zu w T env ρ σ s.heap→wpE (Z3 FT d) c ρ σ (ZV R)→
  wpAny (model P w) A (isTrue e env (eval e env)) (BP w h₀ os₀ σ s.heap R) E s
noncomputable def LP (k:Nat) (σ:Z4) (h:Heap) (Q:List MV→Z4→Prop):List Value→Shared→Prop:=
 fun vs s'=>∃ms σ',ms.length=k∧Q ms σ'∧ZA w σ' s'.heap ms vs∧St w h₀ os₀ σ' s'∧Pres (fun _=>False) σ h σ' s'.heap
end
section
variable {w:World} {h₀:Heap} {os₀:OsState} {d:Nat} {A:Around} {T:List Str} {σ:Z4} {s:Shared} {E:Value→Shared→Prop}
theorem Zhp {Q Q':ZT} {m:Sem Value} {f:Value→Sem Value} (h:wpAny (model P w) A m (EP w h₀ os₀ σ s.heap Q) E s)
  (k:∀v s' x σ',Q x σ'→Rep w σ' s'.heap x v→St w h₀ os₀ σ' s'→Pres (fun _=>False) σ s.heap σ' s'.heap→wpAny (model P w) A (f v) (EP w h₀ os₀ σ' s'.heap Q') E s'):
  wpAny (model P w) A (m>>= f) (EP w h₀ os₀ σ s.heap Q') E s:=by
 refine wpAny_bind (wpAny_mono h (fun v s' e=>?_) fun _ _ x=>x)
 obtain ⟨x,σ',q,r,S',p⟩:=e
 exact wpAny_mono (k v s' x σ' q r S' p) (fun _ _ e=>e.trans p) fun _ _ x=>x
theorem Zg {Q:ZT} {t:Sem Value} {U:Value→Shared→Prop} (h:wpAny (model P w) A t (EP w h₀ os₀ σ s.heap Q) E s)
  (k:∀v s' x σ',Q x σ'→Rep w σ' s'.heap x v→St w h₀ os₀ σ' s'→Pres (fun _=>False) σ s.heap σ' s'.heap→U v s'):
  wpAny (model P w) A t U E s:=
 wpAny_mono h (fun v s' e=>let ⟨x,σ',q,r,S',p⟩:=e;k v s' x σ' q r S' p) fun _ _ x=>x
theorem ZI {e:PySem.Expr} {rest:List PySem.Expr} {env:Env} (h:∀x p,e≠ .Starred x p):starEach (e::rest) env=(false,eval e env)::starEach rest env:=by
 cases e<;>first|rfl|exact absurd rfl (h _ _)
theorem Zq {N:Names} {n:Nat} {sc:Scope} {e:PySem.Expr} {c:CE} (h:Zc N n sc e=some c):∀x p,e≠ .Starred x p:=by
 rintro x p rfl
 cases n with
 |zero=>cases h
 |succ n=>cases h
theorem ZH {f:PySem.Expr→Option CE} {e:PySem.Expr} {r:List PySem.Expr} {cs:List CE} (h:Z0S f (e::r)=some cs):∃c cr,f e=some c∧Z0S f r=some cr∧cs=c::cr:=by
 obtain ⟨c,cr,h1,h2,h⟩:=Z2W h
 cases h;exact ⟨c,cr,h1,h2,rfl⟩
theorem Z6b {f:PySem.Expr→Option CE}:∀{es:List PySem.Expr} {cs:List CE},Z0S f es=some cs→cs.length=es.length
 |[],_,h=>by cases h;rfl
 |e::r,cs,h=>by
  obtain ⟨c,cr,_,h2,rfl⟩:=ZH h
  simp [Z6b h2]
theorem spl {N:Names} {n:Nat} {sc:Scope} {pos:Pos} {env:Env} {ρ:Loc} (he:EnvOk sc env) (ih:∀e c,Zc N n sc e=some c→SE w h₀ os₀ d A T sc e c):
  ∀(es:List PySem.Expr) (cs:List CE) (σ:Z4) (s:Shared) (Q:List MV→Z4→Prop),Z0S (Zc N n sc) es=some cs→St w h₀ os₀ σ s→Zu w T env ρ σ s.heap→wpEs (Z3 FT d) cs ρ σ Q→
   wpAny (model P w) A (spliced (backTo pos (starEach es env))) (LP w h₀ os₀ es.length σ s.heap Q) E s
 |[],cs,σ,s,Q,h,S,F,q=>by
  cases h
  simp only [wpEs] at q
  exact Calls.spliced_nil ⟨[],σ,rfl,q,rfl,S,Pres.refl⟩
 |e::r,cs,σ,s,Q,h,S,F,q=>by
  obtain ⟨c,cr,h1,h2,rfl⟩:=ZH h
  rw [ZI (Zq h1)]
  show wpAny _ _ (spliced ((false,eval e env)::backTo pos (starEach r env))) _ _ _
  simp only [wpEs] at q
  refine Calls.spliced_cons (Zg (ih e c h1 env ρ σ s _ E he S F q) fun v s1 x σ1 q1 rx S1 p1=>?_)
  refine wpAny_mono (spl he ih r cr σ1 s1 _ h2 S1 (F.pres p1 S.toStL) q1) (fun vs s2 z=>?_) fun _ _ x=>x
  obtain ⟨ms,σ2,hl,q2,rm,S2,p2⟩:=z
  exact ⟨x::ms,σ2,by simp [hl],q2,⟨v,vs,rfl,Rep.pres p2 S1.toStL noX _ rx,rm⟩,S2,p1.trans p2⟩
theorem ZaQ {sc:Scope} {c:Const} {k:Nat} {pos:Pos} {m:MV} (h:Z6c c=some m):SE w h₀ os₀ d A T sc (.Constant c k pos) (.cst m):=by
 intro env ρ σ s Q E he S F q
 simp only [wpE] at q
 cases c with
 |none=>cases h;exact wpAny_pure (EP.here S q rfl)
 |bool b=>cases h;exact wpAny_pure (EP.here S q rfl)
 |int i=>cases h;exact wpAny_Constant_int (EP.int S q (Nat.succ_pos _))
 |str x=>
  obtain ⟨hl,h⟩:=ZC h
  cases h
  exact Calls.Constant_str (EP.str S q (Nat.le_trans (of_decide_eq_true hl) (by decide)) (Nat.succ_pos _))
 |_=>cases h
set_option tactic.hygienic true in
theorem Ze6 {sc:Scope} {x:Str} {pos:Pos} {i:Nat} {k:NameKind} (hk:sc.names.lookup x=some k) (hk':k=.local∨k=.cell∨k=.free) (hx:(x==dbg||x==Zc3)=false) (hi:Z6R x T=some i):
  SE w h₀ os₀ d A T sc (.Name x pos) (.var i):=by
 intro env ρ σ s Q E he S F q
 simp only [wpE] at q
 obtain ⟨m,cm,hn,hc,hv⟩:=F
 split at q
 ·next v e=>
  have hρ:ρ[i]? =some (some v):=by
   cases e':ρ[i]? with
   |none=>rw [e'] at e;cases e
   |some o=>rw [e'] at e;simp at e;rw [e]
  obtain ⟨a,b⟩:=hv i x v (Z1a hi) hρ
  obtain ⟨hx,hx'⟩:=Bool.or_eq_false_iff.mp hx
  refine wpAny_Name ?_ hx
  rcases hk' with rfl|rfl|rfl
  ·obtain ⟨u,e,r⟩:=a (he.loc x hk)
   exact wpAny_loadName_local he.kind (he.loc x hk) hn e (EP.here S q r)
  ·obtain ⟨c,u,e,e',r⟩:=b (.inl (he.cel x hk))
   exact wpAny_loadName_cell he.kind (he.cel x hk) e (e'▸hc x c e) (EP.here S q r)
  ·rcases he.fre x hk with hf|hf
   ·obtain ⟨c,u,e,e',r⟩:=b (.inr hf)
    exact wpAny_loadName_free he.kind hf e (e'▸hc x c e) (EP.here S q r) hx'
   ·obtain ⟨c,u,e,e',r⟩:=b (.inl hf)
    exact wpAny_loadName_cell he.kind hf e (e'▸hc x c e) (EP.here S q r)
 ·exact q.elim
end
end Mine
namespace Mine
section
variable {w:World} {h₀:Heap} {os₀:OsState} {d:Nat} {A:Around} {T:List Str} {N:Names} {n:Nat}
noncomputable def Zcb (w:World) (h₀:Heap) (os₀:OsState) (A:Around) (p:Pr) (op:Value→Value→Sem Value):Prop:=
 ∀(σ:Z4) (s:Shared) (x y:MV) (vx vy:Value) (Q:ZT) (E:Value→Shared→Prop),St w h₀ os₀ σ s→Rep w σ s.heap x vx→Rep w σ s.heap y vy→p.sem [x,y] σ Q→wpAny (model P w) A (op vx vy) (EP w h₀ os₀ σ s.heap Q) E s
noncomputable def Z77 (w:World) (h₀:Heap) (os₀:OsState) (A:Around) (p:Pr) (op:Value→Sem Value):Prop:=
 ∀(σ:Z4) (s:Shared) (x:MV) (vx:Value) (Q:ZT) (E:Value→Shared→Prop),St w h₀ os₀ σ s→Rep w σ s.heap x vx→p.sem [x] σ Q→wpAny (model P w) A (op vx) (EP w h₀ os₀ σ s.heap Q) E s
theorem Z36 {p:Pr} {op:Value→Value→Sem Value} (hop:Zcb w h₀ os₀ A p op) {sc:Scope} {e1 e2:PySem.Expr} {c1 c2:CE} (h1:SE w h₀ os₀ d A T sc e1 c1) (h2:SE w h₀ os₀ d A T sc e2 c2)
  {env:Env} {ρ:Loc} {σ:Z4} {s:Shared} {Q:ZT} {E:Value→Shared→Prop} (he:EnvOk sc env) (S:St w h₀ os₀ σ s) (F:Zu w T env ρ σ s.heap) (q:wpE (Z3 FT d) (.pr p [c1,c2]) ρ σ Q):
  wpAny (model P w) A (eval e1 env) (fun a s1=>wpAny (model P w) A (eval e2 env) (fun b s2=>wpAny (model P w) A (op a b) (EP w h₀ os₀ σ s.heap Q) E s2) E s1) E s:=by
 simp only [wpE,wpEs] at q
 refine Zg (h1 env ρ σ s _ E he S F q) fun v1 s1 x σ1 q1 r1 S1 p1=>?_
 refine Zg (h2 env ρ σ1 s1 _ E he S1 (F.pres p1 S.toStL) q1) fun v2 s2 y σ2 q2 r2 S2 p2=>?_
 exact wpAny_mono (hop σ2 s2 x y v1 v2 Q E S2 (Rep.pres p2 S1.toStL noX _ r1) r2 q2) (fun _ _ e=>(e.trans (p1.trans p2))) fun _ _ x=>x
theorem Z3b {p:Pr} {op:Value→Sem Value} (hop:Z77 w h₀ os₀ A p op) {sc:Scope} {e1:PySem.Expr} {c1:CE} (h1:SE w h₀ os₀ d A T sc e1 c1)
  {env:Env} {ρ:Loc} {σ:Z4} {s:Shared} {Q:ZT} {E:Value→Shared→Prop} (he:EnvOk sc env) (S:St w h₀ os₀ σ s) (F:Zu w T env ρ σ s.heap) (q:wpE (Z3 FT d) (.pr p [c1]) ρ σ Q):
  wpAny (model P w) A (eval e1 env) (fun a s1=>wpAny (model P w) A (op a) (EP w h₀ os₀ σ s.heap Q) E s1) E s:=by
 simp only [wpE,wpEs] at q
 refine Zg (h1 env ρ σ s _ E he S F q) fun v1 s1 x σ1 q1 r1 S1 p1=>?_
 exact wpAny_mono (hop σ1 s1 x v1 Q E S1 r1 q1) (fun _ _ e=>e.trans p1) fun _ _ x=>x
theorem ZcO {op:Operator} {p:Pr} (h:ZgM op=some p):Zcb w h₀ os₀ A p (binaryOp op):=by
 intro σ s x y vx vy Q E S rx ry q
 cases op with
 |Add=>cases h;exact Z8S S rx ry q
 |Sub=>cases h;exact Z8K S rx ry q
 |Mult=>cases h;exact Z8O S rx ry q
 |Mod=>cases h;exact Z8P S rx ry q
 |FloorDiv=>cases h;exact Z87 S rx ry q
 |_=>cases h
theorem Z0X {op:CmpOp} {p:Pr} (h:Za2 op=some p):Zcb w h₀ os₀ A p (compareOp op):=by
 intro σ s x y vx vy Q E S rx ry q
 cases op with
 |Lt=>cases h;exact ZaF S rx ry q
 |LtE=>cases h;exact ZaG S rx ry q
 |Gt=>cases h;exact ZaI S rx ry q
 |GtE=>cases h;exact ZaJ S rx ry q
 |_=>cases h
theorem Room.u2 {d:Nat} {A:Around} (R:Room d A):A.units+2<cLine:=by have:=R.units;lia
theorem ZaR {sc:Scope} {l r:PySem.Expr} {op:Operator} {pos:Pos} {c1 c2:CE} {p:Pr} (h:ZgM op=some p) (h1:SE w h₀ os₀ d A T sc l c1) (h2:SE w h₀ os₀ d A T sc r c2):
  SE w h₀ os₀ d A T sc (.BinOp l op r pos) (.pr p [c1,c2]):=fun env ρ σ s Q E he S F q=>wpAny_BinOp (Z36 (ZcO h) h1 h2 he S F q)
theorem Zgt {sc:Scope} {elts:List PySem.Expr} {pos:Pos} {cs:List CE} (ih:∀e c,Zc N n sc e=some c→SE w h₀ os₀ d A T sc e c) (h:Z0S (Zc N n sc) elts=some cs) (hsz:elts.length≤1000):
  SE w h₀ os₀ d A T sc (.List elts pos) (.pr .mkFl cs):=by
 intro env ρ σ s Q E he S F q
 simp only [wpE] at q
 refine List_ (wpAny_mono (spl he ih elts cs σ s _ h S F q) (fun vs s1 z=>?_) fun _ _ x=>x)
 obtain ⟨ms,σ1,hl,q1,rm,S1,p1⟩:=z
 obtain ⟨r,h,_,q1⟩|q1:=q1
 ·cases h;exact wpAny_mono (Z84 S1 rm (by unfold SL;lia) q1) (fun _ _ e=>e.trans p1) fun _ _ x=>x
 ·exact q1.elim
theorem Zcv {sc:Scope} {elts:List PySem.Expr} {pos:Pos} {cs:List CE} (ih:∀e c,Zc N n sc e=some c→SE w h₀ os₀ d A T sc e c) (h:Z0S (Zc N n sc) elts=some cs) (hsz:elts.length≤1000):
  SE w h₀ os₀ d A T sc (.List elts pos) (.pr .mkList cs):=by
 intro env ρ σ s Q E he S F q
 simp only [wpE] at q
 refine List_ (wpAny_mono (spl he ih elts cs σ s _ h S F q) (fun vs s1 z=>?_) fun _ _ x=>x)
 obtain ⟨ms,σ1,hl,q1,rm,S1,p1⟩:=z
 obtain ⟨r,h,_⟩|q1:=q1
 ·cases h
 ·exact wpAny_mono (Z2P S1 rm (by unfold SL;lia) q1) (fun _ _ e=>e.trans p1) fun _ _ x=>x
theorem ZaN {sc:Scope} {elts:List PySem.Expr} {k:Nat} {pos:Pos} {cs:List CE} (ih:∀e c,Zc N n sc e=some c→SE w h₀ os₀ d A T sc e c) (h:Z0S (Zc N n sc) elts=some cs) (hsz:elts.length≤1000):
  SE w h₀ os₀ d A T sc (.Tuple elts k pos) (.pr .mkTup cs):=by
 intro env ρ σ s Q E he S F q
 simp only [wpE] at q
 refine Tuple_ (wpAny_mono (spl he ih elts cs σ s _ h S F q) (fun vs s1 z=>?_) fun _ _ x=>x)
 obtain ⟨ms,σ1,hl,q1,rm,S1,p1⟩:=z
 obtain ⟨r,h,_,q1⟩|q1:=q1
 ·cases h;exact wpAny_mono (Z6x S1 rm (by unfold SL;lia) q1) (fun _ _ e=>e.trans p1) fun _ _ x=>x
 ·exact q1.elim
theorem Z4s {sc:Scope} {e:PySem.Expr} {c:CE} (ih:∀e c,Zc N n sc e=some c→SE w h₀ os₀ d A T sc e c) (h:frz (Zc N n sc) e=some c):SE w h₀ os₀ d A T sc e c:=by
 replace h:=Z6W h
 rcases h with ⟨l,p,cs,rfl,hsz,e',rfl⟩|h
 ·exact Zgt ih e' hsz
 ·exact ih _ _ h
theorem Ze8 {sc:Scope} {x:PySem.Expr} {pos:Pos} {c:CE} (h1:SE w h₀ os₀ d A T sc x c):SE w h₀ os₀ d A T sc (.UnaryOp .Not x pos) (.pr .notb [c]):=
 fun env ρ σ s Q E he S F q=>wpAny_UnaryOp (Z3b (p:=.notb) (fun σ s x vx Q E S rx q=>Z8N S rx q) h1 he S F q)
theorem Z9K {op:Operator} (h:Zf0 op=true):op=.Pow:=by cases op<;>first|rfl|exact ff h
theorem Ze9 {sc:Scope} {x:PySem.Expr} {pos:Pos} {c:CE} (h:Z70 x=some c):SE w h₀ os₀ d A T sc (.UnaryOp .USub x pos) c:=by
 intro env ρ σ s Q E he S F q
 replace h:=Z7G h
 rcases h with ⟨i,hi,h⟩|⟨_,h⟩
 ·obtain ⟨k,p,rfl⟩:=Z3f hi
  cases h
  simp only [wpE] at q
  exact wpAny_UnaryOp (wpAny_Constant_int (_root_.PySem.P.neg_int (EP.int (s:={s with toks:=s.toks+1}) (S.toksTo (Nat.succ_pos _)) q (Nat.succ_pos _))))
 ·replace h:=Zb h
  obtain ⟨⟨l,op,r⟩,hb,h⟩:=h
  obtain ⟨p,rfl⟩:=Zbq hb
  replace h:=Z2W h
  obtain ⟨a,b,ha,hb',h⟩:=h
  obtain ⟨k1,p1,rfl⟩:=Z3f ha
  obtain ⟨k2,p2,rfl⟩:=Z3f hb'
  replace h:=ZC h
  obtain ⟨hc,h⟩:=h
  cases h
  obtain ⟨hc,h2⟩:=Bool.and_eq_true_iff.1 hc
  obtain ⟨hc,h1⟩:=Bool.and_eq_true_iff.1 hc
  obtain rfl:a=2:=eq_of_beq h1
  obtain rfl:b=63:=eq_of_beq h2
  obtain rfl:=Z9K hc
  simp only [wpE] at q
  refine wpAny_UnaryOp (wpAny_BinOp (wpAny_Constant_int (wpAny_Constant_int ?_)))
  refine AutoIntOps.pow_4 (by decide) (by decide) (by decide) (by decide) (by decide) ?_
  exact _root_.PySem.P.neg_int (EP.int (s:={s with toks:=s.toks+1+1+1}) (S.toksTo (Nat.succ_pos _)) q (Nat.succ_pos _))
theorem Z0b {sc:Scope} {e:PySem.Expr} {c:CE} (h:SE w h₀ os₀ d A T sc e c) (he':∀env whole,isTrue e env whole=(do let v ←whole;standAt e.pos;holding [v] (truthy v))):SB w h₀ os₀ d A T sc e c:=by
 intro env ρ σ s R E he S F q
 rw [he']
 refine wpAny_bind (Zg (h env ρ σ s _ E he S F q) fun v s1 x σ1 q1 r1 S1 p1=>?_)
 unfold ZV at q1
 split at q1
 ·cases r1
  exact wpAny_bind (wpAny_standAt (wpAny_holding (wpAny_truthy_bool ⟨σ1,q1,S1,p1⟩)))
 ·exact q1.elim
theorem Zea {sc:Scope} {x:PySem.Expr} {pos:Pos} {c:CE} (h1:SB w h₀ os₀ d A T sc x c):SB w h₀ os₀ d A T sc (.UnaryOp .Not x pos) (.pr .notb [c]):=by
 intro env ρ σ s R E he S F q
 simp only [wpE,wpEs] at q
 refine wpAny_isTrue_Not (wpAny_mono (h1 env ρ σ s (fun b σ'=>R (!b) σ') E he S F (Zi (Zs FT d) c ρ σ (fun m σ' y=>?_) q)) (fun b s1 z=>z) fun _ _ x=>x)
 unfold ZV
 obtain ⟨r,h,_,y⟩|y:=y
 ·obtain ⟨b,e,h1⟩:=Zb h
  cases MV.b_inv e
  cases h1;exact y
 ·exact y.elim
theorem Z0K {c:CE} {ρ:Loc} {σ:Z4} {R:Bool→Z4→Prop} {X Y:Z4→Prop} (q:wpE (Z3 FT d) c ρ σ fun v σ'=>match v with| .bool true=>X σ'| .bool false=>Y σ'|_=>False)
  (hX:∀σ,X σ→R true σ) (hY:∀σ,Y σ→R false σ):wpE (Z3 FT d) c ρ σ (ZV R):=by
 refine Zi (Zs FT d) c ρ σ (fun m σ' y=>?_) q
 unfold ZV
 split at y
 ·exact hX _ y
 ·exact hY _ y
 ·exact y.elim
theorem ZaP {sc:Scope} {t a b:PySem.Expr} {pos:Pos} {ct ca cb:CE} (ht:SB w h₀ os₀ d A T sc t ct) (ha:SE w h₀ os₀ d A T sc a ca) (hb:SE w h₀ os₀ d A T sc b cb):
  SE w h₀ os₀ d A T sc (.IfExp t a b pos) (.cond ct ca cb):=by
 intro env ρ σ s Q E he S F q
 simp only [wpE] at q
 refine wpAny_IfExp (wpAny_mono (ht env ρ σ s (fun b' σ'=>if b' then wpE (Z3 FT d) ca ρ σ' Q else wpE (Z3 FT d) cb ρ σ' Q) E he S F (Z0K q (fun _ z=>by simpa using z) (fun _ z=>by simpa using z))) (fun b' s1 z=>?_) fun _ _ x=>x)
 obtain ⟨σ1,q1,S1,p1⟩:=z
 cases b' with
 |true=>exact wpAny_mono (ha env ρ σ1 s1 Q E he S1 (F.pres p1 S.toStL) q1) (fun _ _ e=>e.trans p1) fun _ _ x=>x
 |false=>exact wpAny_mono (hb env ρ σ1 s1 Q E he S1 (F.pres p1 S.toStL) q1) (fun _ _ e=>e.trans p1) fun _ _ x=>x
theorem BP.trans {σ σ':Z4} {h h':Heap} {R:Bool→Z4→Prop} {b:Bool} {s':Shared} (p:Pres (fun _=>False) σ h σ' h') (e:BP w h₀ os₀ σ' h' R b s'):BP w h₀ os₀ σ h R b s':=by
 obtain ⟨σ'',q,S,p'⟩:=e
 exact ⟨σ'',q,S,p.trans p'⟩
theorem ZaS {sc:Scope} {t a b:PySem.Expr} {pos:Pos} {ct ca cb:CE} (ht:SB w h₀ os₀ d A T sc t ct) (ha:SB w h₀ os₀ d A T sc a ca) (hb:SB w h₀ os₀ d A T sc b cb):
  SB w h₀ os₀ d A T sc (.IfExp t a b pos) (.cond ct ca cb):=by
 intro env ρ σ s R E he S F q
 simp only [wpE] at q
 refine isTrue_IfExp (wpAny_mono (ht env ρ σ s (fun b' σ'=>if b' then wpE (Z3 FT d) ca ρ σ' (ZV R) else wpE (Z3 FT d) cb ρ σ' (ZV R)) E he S F (Z0K q (fun _ z=>by simpa using z) (fun _ z=>by simpa using z))) (fun b' s1 z=>?_) fun _ _ x=>x)
 obtain ⟨σ1,q1,S1,p1⟩:=z
 cases b' with
 |true=>exact wpAny_mono (ha env ρ σ1 s1 R E he S1 (F.pres p1 S.toStL) q1) (fun _ _ e=>e.trans p1) fun _ _ x=>x
 |false=>exact wpAny_mono (hb env ρ σ1 s1 R E he S1 (F.pres p1 S.toStL) q1) (fun _ _ e=>e.trans p1) fun _ _ x=>x
noncomputable def Z1M (op:BoolOp) (a b:CE):CE:=match op with| .And=>.andd a b| .Or=>.orr a b
theorem Z2m {op:BoolOp} {c1 c2:CE} {r:List CE} {c:CE} (h:Z0Y op (c1::c2::r)=some c):∃k,Z0Y op (c2::r)=some k∧c=Z1M op c1 k:=by
 have h':(Z0Y op (c2::r)).map (Z1M op c1)=some c:=by cases op<;>exact h
 cases e:Z0Y op (c2::r) with
 |none=>rw [e] at h';cases h'
 |some k=>rw [e] at h';cases h';exact ⟨k,rfl,rfl⟩
noncomputable def ZhC (Q:ZT):ZT:=fun x σ=>x.isB=true∧Q x σ
theorem Z6C {sc:Scope} {env:Env} {ρ:Loc} (he:EnvOk sc env) (ih:∀e c,Zc N n sc e=some c→SB w h₀ os₀ d A T sc e c) (op:BoolOp):
  ∀(es:List PySem.Expr) (cs:List CE) (c:CE) (σ:Z4) (s:Shared) (R:Bool→Z4→Prop) (E:Value→Shared→Prop),Z0S (Zc N n sc) es=some cs→Z0Y op cs=some c→St w h₀ os₀ σ s→Zu w T env ρ σ s.heap→wpE (Z3 FT d) c ρ σ (ZV R)→
   wpAny (model P w) A (allTrue op es env) (BP w h₀ os₀ σ s.heap R) E s
 |[],cs,c,σ,s,R,E,h,hf,S,F,q=>by cases h;cases hf
 |[e],cs,c,σ,s,R,E,h,hf,S,F,q=>by
  obtain ⟨c1,cr,h1,h2,rfl⟩:=ZH h
  cases h2
  cases hf
  have key:=ih e c h1 env ρ σ s R E he S F q
  cases op with
  |And=>exact wpAny_allTrue_And_cons (wpAny_mono key (fun b s1 z=>by cases b with|true=>exact wpAny_allTrue_And_nil z|false=>exact z) fun _ _ x=>x)
  |Or=>exact wpAny_allTrue_Or_cons (wpAny_mono key (fun b s1 z=>by cases b with|true=>exact z|false=>exact wpAny_allTrue_Or_nil z) fun _ _ x=>x)
 |e::e2::r,cs,c,σ,s,R,E,h,hf,S,F,q=>by
  obtain ⟨c1,cr,h1,h2,rfl⟩:=ZH h
  obtain ⟨c2,cr2,h3,h4,rfl⟩:=ZH h2
  obtain ⟨k,e',rfl⟩:=Z2m hf
  cases op with
   |And=>
    simp only [Z1M,wpE] at q
    have key:=ih e c1 h1 env ρ σ s (fun b σ'=>if b then wpE (Z3 FT d) k ρ σ' (ZV R) else R false σ') E he S F
     (Z0K q (fun σ' z=>by rw [if_pos rfl];exact Zi (Zs FT d) k ρ σ' (fun _ _ t=>And.right t) z) (fun _ z=>z))
    refine wpAny_allTrue_And_cons (wpAny_mono key (fun b s1 z=>?_) fun _ _ x=>x)
    obtain ⟨σ1,q1,S1,p1⟩:=z
    cases b with
    |true=>exact wpAny_mono (Z6C he ih .And (e2::r) (c2::cr2) k σ1 s1 R E h2 e' S1 (F.pres p1 S.toStL) q1) (fun _ _ e=>e.trans p1) fun _ _ x=>x
    |false=>exact ⟨σ1,q1,S1,p1⟩
   |Or=>
    simp only [Z1M,wpE] at q
    have key:=ih e c1 h1 env ρ σ s (fun b σ'=>if b then R true σ' else wpE (Z3 FT d) k ρ σ' (ZV R)) E he S F
     (Z0K q (fun _ z=>z) (fun σ' z=>by rw [if_neg Bool.false_ne_true];exact Zi (Zs FT d) k ρ σ' (fun _ _ t=>And.right t) z))
    refine wpAny_allTrue_Or_cons (wpAny_mono key (fun b s1 z=>?_) fun _ _ x=>x)
    obtain ⟨σ1,q1,S1,p1⟩:=z
    cases b with
    |false=>exact wpAny_mono (Z6C he ih .Or (e2::r) (c2::cr2) k σ1 s1 R E h2 e' S1 (F.pres p1 S.toStL) q1) (fun _ _ e=>e.trans p1) fun _ _ x=>x
    |true=>exact ⟨σ1,q1,S1,p1⟩
theorem Z6B {sc:Scope} {env:Env} {ρ:Loc} (he:EnvOk sc env) (ih:∀e c,Zc N n sc e=some c→SE w h₀ os₀ d A T sc e c) (op:BoolOp) (pos:Pos):
  ∀(es:List PySem.Expr) (cs:List CE) (c:CE) (σ:Z4) (s:Shared) (Q:ZT) (E:Value→Shared→Prop),Z0S (Zc N n sc) es=some cs→Z0Y op cs=some c→St w h₀ os₀ σ s→Zu w T env ρ σ s.heap→wpE (Z3 FT d) c ρ σ Q→
   wpAny (model P w) A (boolOp pos op (evalEach es env)) (EP w h₀ os₀ σ s.heap Q) E s
 |[],cs,c,σ,s,R,E,h,hf,S,F,q=>by cases h;cases hf
 |[e],cs,c,σ,s,R,E,h,hf,S,F,q=>by
  obtain ⟨c1,cr,h1,h2,rfl⟩:=ZH h
  cases h2
  cases hf
  exact ih e c h1 env ρ σ s R E he S F q
 |e::e2::r,cs,c,σ,s,Q,E,h,hf,S,F,q=>by
  obtain ⟨c1,cr,h1,h2,rfl⟩:=ZH h
  obtain ⟨c2,cr2,h3,h4,rfl⟩:=ZH h2
  have hbo:boolOp pos op (evalEach (e::e2::r) env)=(do
    let v ←eval e env
    standAt pos
    let t ←holding [v] (truthy v)
    match op,t with
    | .And,false| .Or,true=>pure v
    |_,_=>boolOp pos op (evalEach (e2::r) env)):=rfl
  rw [hbo]
  obtain ⟨k,e',rfl⟩:=Z2m hf
  cases op with
   |And=>
    simp only [Z1M,wpE] at q
    refine wpAny_bind (Zg (ih e c1 h1 env ρ σ s _ E he S F q) fun v s1 x σ1 q1 r1 S1 p1=>?_)
    split at q1
    ·cases r1
     refine wpAny_bind (wpAny_standAt (wpAny_bind (wpAny_holding (wpAny_truthy_bool ?_))))
     exact wpAny_mono (Z6B he ih .And pos (e2::r) (c2::cr2) k σ1 s1 _ E h2 e' S1 (F.pres p1 S.toStL) q1) (fun _ _ e=>(e.mono fun _ _ y=>y.2).trans p1) fun _ _ x=>x
    ·cases r1
     refine wpAny_bind (wpAny_standAt (wpAny_bind (wpAny_holding (wpAny_truthy_bool ?_))))
     exact wpAny_pure ⟨_,σ1,q1,rfl,S1,p1⟩
    ·exact q1.elim
   |Or=>
    simp only [Z1M,wpE] at q
    refine wpAny_bind (Zg (ih e c1 h1 env ρ σ s _ E he S F q) fun v s1 x σ1 q1 r1 S1 p1=>?_)
    split at q1
    ·cases r1
     refine wpAny_bind (wpAny_standAt (wpAny_bind (wpAny_holding (wpAny_truthy_bool ?_))))
     exact wpAny_pure ⟨_,σ1,q1,rfl,S1,p1⟩
    ·cases r1
     refine wpAny_bind (wpAny_standAt (wpAny_bind (wpAny_holding (wpAny_truthy_bool ?_))))
     exact wpAny_mono (Z6B he ih .Or pos (e2::r) (c2::cr2) k σ1 s1 _ E h2 e' S1 (F.pres p1 S.toStL) q1) (fun _ _ e=>(e.mono fun _ _ y=>y.2).trans p1) fun _ _ x=>x
    ·exact q1.elim
end
end Mine
namespace Mine
section
variable {w:World} {h₀:Heap} {os₀:OsState} {d:Nat} {A:Around} {T:List Str} {N:Names} {n:Nat}
theorem Z2C {N:Names} {n:Nat} {sc:Scope} {e:PySem.Expr} {c:CE} (op:CmpOp) (h:Zc N n sc e=some c):behindInMarks op e=false:=by
 cases e<;>first|rfl|(cases n<;>exact nn h)
theorem Z9o {N:Names} {n:Nat} {sc:Scope} {e:PySem.Expr} {c:CE} (op:CmpOp) (h:frz (Zc N n sc) e=some c):behindInMarks op e=false:=by
 replace h:=Z6W h
 rcases h with ⟨l,p,cs,rfl,_⟩|h
 ·rfl
 ·exact Z2C op h
theorem Zcy {p:Pr} {op:CmpOp} (hop:Zcb w h₀ os₀ A p (compareOp op)) {sc:Scope} {e1 e2:PySem.Expr} {c1 c2:CE} {pos:Pos} (h1:SE w h₀ os₀ d A T sc e1 c1) (h2:SE w h₀ os₀ d A T sc e2 c2) (hm:behindInMarks op e2=false):
  SE w h₀ os₀ d A T sc (.Compare e1 [op] [e2] pos) (.pr p [c1,c2]):=fun env ρ σ s Q E he S F q=>wpAny_Compare1 (Z36 hop h1 h2 he S F q) hm
theorem Z5g {σ:Z4} {s s':Shared} {R:Bool→Z4→Prop} {v:Value} {E:Value→Shared→Prop} (e:EP w h₀ os₀ σ s.heap (ZV R) v s'):wpAny (model P w) A (truthy v) (BP w h₀ os₀ σ s.heap R) E s':=by
 obtain ⟨m,σ',q,r,S,p⟩:=e
 unfold ZV at q
 split at q
 ·cases r;exact wpAny_truthy_bool ⟨σ',q,S,p⟩
 ·exact q.elim
theorem ZcB {p:Pr} {op:CmpOp} (hop:Zcb w h₀ os₀ A p (compareOp op)) {sc:Scope} {e1 e2:PySem.Expr} {c1 c2:CE} {pos:Pos} (h1:SE w h₀ os₀ d A T sc e1 c1) (h2:SE w h₀ os₀ d A T sc e2 c2) (hm:behindInMarks op e2=false):
  SB w h₀ os₀ d A T sc (.Compare e1 [op] [e2] pos) (.pr p [c1,c2]):=fun env ρ σ s R E he S F q=>
 wpAny_isTrue_Compare1 (wpAny_mono (Z36 hop h1 h2 he S F q) (fun a s1 z=>wpAny_mono z (fun b s2 z=>wpAny_mono z (fun c s3 z=>Z5g z) fun _ _ x=>x) fun _ _ x=>x) fun _ _ x=>x) hm
theorem Z3V {p:Pr} {op:CmpOp} (hop:Z77 w h₀ os₀ A p (fun v=>compareOp op v .none)) {sc:Scope} {e1 e2:PySem.Expr} {c1:CE} (h1:SE w h₀ os₀ d A T sc e1 c1) (hn:Z0e e2=true)
  {env:Env} {ρ:Loc} {σ:Z4} {s:Shared} {Q:ZT} {E:Value→Shared→Prop} (he:EnvOk sc env) (S:St w h₀ os₀ σ s) (F:Zu w T env ρ σ s.heap) (q:wpE (Z3 FT d) (.pr p [c1]) ρ σ Q):
  wpAny (model P w) A (eval e1 env) (fun a s1=>wpAny (model P w) A (eval e2 env) (fun b s2=>wpAny (model P w) A (compareOp op a b) (EP w h₀ os₀ σ s.heap Q) E s2) E s1) E s:=by
 obtain ⟨k,p,rfl⟩:=Z1x hn
 exact wpAny_mono (Z3b hop h1 he S F q) (fun a s1 z=>wpAny_pure z) fun _ _ x=>x
theorem Z4z {op:CmpOp} {e:PySem.Expr} (hn:Z0e e=true):behindInMarks op e=false:=by
 obtain ⟨k,p,rfl⟩:=Z1x hn
 rfl
theorem Zdr {sc:Scope} {l r:PySem.Expr} {op:CmpOp} {pos:Pos} {c:CE} (R:Room d A) (ih:∀e c,Zc N n sc e=some c→SE w h₀ os₀ d A T sc e c) (h:Za1 (Zc N n sc) l op r=some c):
  SE w h₀ os₀ d A T sc (.Compare l [op] [r] pos) c∧SB w h₀ os₀ d A T sc (.Compare l [op] [r] pos) c:=by
 have fin:∀{p:Pr} {c1 c2:CE},Zcb w h₀ os₀ A p (compareOp op)→SE w h₀ os₀ d A T sc l c1→SE w h₀ os₀ d A T sc r c2→behindInMarks op r=false→SE w h₀ os₀ d A T sc (.Compare l [op] [r] pos) (.pr p [c1,c2])∧SB w h₀ os₀ d A T sc (.Compare l [op] [r] pos) (.pr p [c1,c2]):=
  fun hop a b m=>⟨Zcy hop a b m,ZcB hop a b m⟩
 have tw:∀{p:Pr},Zcb w h₀ os₀ A p (compareOp op)→two (Zc N n sc) (frz (Zc N n sc)) p l r=some c→SE w h₀ os₀ d A T sc (.Compare l [op] [r] pos) c∧SB w h₀ os₀ d A T sc (.Compare l [op] [r] pos) c:=by
  intro p hop h
  replace h:=Z2W h
  obtain ⟨c1,c2,e1,e2,h⟩:=h
  cases h;exact fin hop (ih _ _ e1) (Z4s ih e2) (Z9o op e2)
 have tw':∀{p:Pr},Zcb w h₀ os₀ A p (compareOp op)→two (Zc N n sc) (Zc N n sc) p l r=some c→SE w h₀ os₀ d A T sc (.Compare l [op] [r] pos) c∧SB w h₀ os₀ d A T sc (.Compare l [op] [r] pos) c:=by
  intro p hop h
  replace h:=Z2W h
  obtain ⟨c1,c2,e1,e2,h⟩:=h
  cases h;exact fin hop (ih _ _ e1) (ih _ _ e2) (Z2C op e2)
 have isn:∀{p:Pr},Z77 w h₀ os₀ A p (fun v=>compareOp op v .none)→ifE (Z0e r) (b0 (Zc N n sc l) fun c=>some (CE.pr p [c]))=some c→
   SE w h₀ os₀ d A T sc (.Compare l [op] [r] pos) c∧SB w h₀ os₀ d A T sc (.Compare l [op] [r] pos) c:=by
  intro p hop h
  replace h:=ZC h
  obtain ⟨hn,h⟩:=h
  replace h:=Zb h
  obtain ⟨c1,e1,h⟩:=h
  cases h
  exact ⟨fun env ρ σ s Q E he S F q=>wpAny_Compare1 (Z3V hop (ih _ _ e1) hn he S F q) (Z4z hn),fun env ρ σ s R E he S F q=>
   wpAny_isTrue_Compare1 (wpAny_mono (Z3V hop (ih _ _ e1) hn he S F q) (fun a s1 z=>wpAny_mono z (fun b s2 z=>wpAny_mono z (fun c s3 z=>Z5g z) fun _ _ x=>x) fun _ _ x=>x) fun _ _ x=>x) (Z4z hn)⟩
 cases op with
 |Is=>exact isn (p:=.isNone) (fun σ s x vx Q E S rx q=>Z5A S rx q) h
 |IsNot=>exact isn (p:=.notNone) (fun σ s x vx Q E S rx q=>Z4Q S rx q) h
 |In=>exact tw (p:=.inn) (fun σ s x y vx vy Q E S rx ry q=>ZaH S R.u2 rx ry q) h
 |Eq=>exact tw (p:=.eq) (fun σ s x y vx vy Q E S rx ry q=>ZaK S R.u2 rx ry q) h
 |NotEq=>exact tw (p:=.ne) (fun σ s x y vx vy Q E S rx ry q=>ZaE S R.u2 rx ry q) h
 |Lt=>exact tw' (Z0X rfl) h
 |LtE=>exact tw' (Z0X rfl) h
 |Gt=>exact tw' (Z0X rfl) h
 |GtE=>exact tw' (Z0X rfl) h
 |NotIn=>cases h
theorem Zds {c:CE} {ρ:Loc} {σ:Z4} {R:Bool→Z4→Prop} {o1:Pr} {x y:MV} {X Y:Z4→Prop} (q:o1.sem [x,y] σ fun v σ'=>match v with| .bool true=>X σ'| .bool false=>Y σ'|_=>False)
  (hX:∀σ,X σ→R true σ) (hY:∀σ,Y σ→R false σ):o1.sem [x,y] σ (ZV R):=by
 refine Pr.mono o1 _ _ (fun m σ' y=>?_) q
 unfold ZV
 split at y
 ·exact hX _ y
 ·exact hY _ y
 ·exact y.elim
theorem Za5 {sc:Scope} {a b c:PySem.Expr} {o1 o2:CmpOp} {p1 p2:Pr} {pos:Pos} {ca cb cc:CE} (h1:Za2 o1=some p1) (h2:Za2 o2=some p2) (ha:SE w h₀ os₀ d A T sc a ca) (hb:SE w h₀ os₀ d A T sc b cb) (hc:SE w h₀ os₀ d A T sc c cc)
  (hm:behindInMarks o2 c=false):SE w h₀ os₀ d A T sc (.Compare a [o1,o2] [b,c] pos) (.chain p1 p2 ca cb cc)∧SB w h₀ os₀ d A T sc (.Compare a [o1,o2] [b,c] pos) (.chain p1 p2 ca cb cc):=by
 constructor
 ·intro env ρ σ s Q E he S F q
  simp only [wpE] at q
  rw [arm_eval_Compare]
  show wpAny _ _ (do let left ←eval a env;compareChain pos left [o1,o2] [eval b env,markedBehindIn o2 c (eval c env)]) _ _ _
  rw [markedBehindIn_of_false hm]
  refine wpAny_bind (Zg (ha env ρ σ s _ E he S F q) fun va s1 x σ1 q1 r1 S1 p1'=>?_)
  show wpAny _ _ (do
   let rv ←holding [va] (eval b env)
   standAt pos
   let c' ←holding [va,rv] (compareOp o1 va rv)
   release [va,rv] [c']
   if ←holding [c',rv] (truthy c') then compareChain pos rv [o2] [eval c env] else pure c') _ _ _
  refine wpAny_bind (wpAny_holding (Zg (hb env ρ σ1 s1 _ E he S1 (F.pres p1' S.toStL) q1) fun vb s2 y σ2 q2 r2 S2 p2'=>?_))
  have F2:=(F.pres p1' S.toStL).pres p2' S1.toStL
  refine wpAny_bind (wpAny_standAt (wpAny_bind (wpAny_holding (Zg (Z0X h1 σ2 s2 x y va vb _ E S2 (Rep.pres p2' S1.toStL noX _ r1) r2 q2) fun vc s3 z σ3 q3 r3 S3 p3'=>?_))))
  refine wpAny_bind (wpAny_release ?_)
  split at q3
  ·cases r3
   refine wpAny_bind (wpAny_holding (wpAny_truthy_bool ?_))
   show wpAny _ _ (do
    let rv ←holding [vb] (eval c env)
    standAt pos
    operate [vb,rv] (compareOp o2 vb rv)) _ _ _
   refine wpAny_bind (wpAny_holding (Zg (hc env ρ σ3 s3 _ E he S3 (F2.pres p3' S2.toStL) q3) fun vd s4 u σ4 q4 r4 S4 p4'=>?_))
   refine wpAny_bind (wpAny_standAt (wpAny_operate' ?_))
   exact wpAny_mono (Z0X h2 σ4 s4 y u vb vd Q E S4 (Rep.pres (p3'.trans p4') S2.toStL noX _ r2) r4 q4) (fun _ _ e=>e.trans (p1'.trans (p2'.trans (p3'.trans p4')))) fun _ _ x=>x
  ·cases r3
   refine wpAny_bind (wpAny_holding (wpAny_truthy_bool ?_))
   exact wpAny_pure ⟨_,σ3,q3,rfl,S3,p1'.trans (p2'.trans p3')⟩
  ·exact q3.elim
 ·intro env ρ σ s R E he S F q
  simp only [wpE] at q
  rw [arm_isTrue_Compare]
  show wpAny _ _ (do let left ←eval a env;testChain pos left [o1,o2] [eval b env,markedBehindIn o2 c (eval c env)]) _ _ _
  rw [markedBehindIn_of_false hm]
  refine wpAny_bind (Zg (ha env ρ σ s _ E he S F q) fun va s1 x σ1 q1 r1 S1 p1'=>?_)
  show wpAny _ _ (do
   let rv ←holding [va] (eval b env)
   standAt pos
   let c' ←holding [va,rv] (compareOp o1 va rv)
   release [va,rv] [c']
   if ←holding [c',rv] (truthy c') then testChain pos rv [o2] [eval c env] else pure false) _ _ _
  refine wpAny_bind (wpAny_holding (Zg (hb env ρ σ1 s1 _ E he S1 (F.pres p1' S.toStL) q1) fun vb s2 y σ2 q2 r2 S2 p2'=>?_))
  have F2:=(F.pres p1' S.toStL).pres p2' S1.toStL
  refine wpAny_bind (wpAny_standAt (wpAny_bind (wpAny_holding (Zg (Z0X h1 σ2 s2 x y va vb _ E S2 (Rep.pres p2' S1.toStL noX _ r1) r2 q2) fun vc s3 z σ3 q3 r3 S3 p3'=>?_))))
  refine wpAny_bind (wpAny_release ?_)
  split at q3
  ·cases r3
   refine wpAny_bind (wpAny_holding (wpAny_truthy_bool ?_))
   show wpAny _ _ (do
    let rv ←holding [vb] (eval c env)
    standAt pos
    let c' ←operate [vb,rv] (compareOp o2 vb rv)
    holding [c'] (truthy c')) _ _ _
   refine wpAny_bind (wpAny_holding (Zg (hc env ρ σ3 s3 _ E he S3 (F2.pres p3' S2.toStL) q3) fun vd s4 u σ4 q4 r4 S4 p4'=>?_))
   refine wpAny_bind (wpAny_standAt (wpAny_bind (wpAny_operate' ?_)))
   refine wpAny_mono (Z0X h2 σ4 s4 y u vb vd (ZV R) E S4 (Rep.pres (p3'.trans p4') S2.toStL noX _ r2) r4 q4) (fun v s5 e=>?_) fun _ _ x=>x
   exact wpAny_holding (wpAny_mono (Z5g e) (fun _ _ z=>z.trans (p1'.trans (p2'.trans (p3'.trans p4')))) fun _ _ x=>x)
  ·cases r3
   refine wpAny_bind (wpAny_holding (wpAny_truthy_bool ?_))
   exact wpAny_pure ⟨σ3,q3,S3,p1'.trans (p2'.trans p3')⟩
  ·exact q3.elim
end
end Mine
namespace Mine
section
variable {w:World} {h₀:Heap} {os₀:OsState} {d:Nat} {A:Around} {T:List Str} {N:Names} {n:Nat}
theorem Z5W {σ:Z4} {s:Shared} {a b:MV} {va:Value} {Q:ZT} (S:St w h₀ os₀ σ s) (ra:Rep w σ s.heap a va) (q:Pr.sem .getitem [a,b] σ Q):
  ∃K id,typeLookup (.type K) "__getitem__" =pure (some (.builtin id))∧s.TypeIs va K:=by
 have tu:∀{l},a=.tup l→∃K id,typeLookup (.type K) "__getitem__" =pure (some (.builtin id))∧s.TypeIs va K:=by
  rintro l rfl;obtain ⟨_,c,vs,rfl,hc,_⟩:=ra;exact ⟨_,_,slot_tuple_getitem.lookup,IsTup.typeIs hc⟩
 obtain ⟨r,h,_⟩|⟨c,l,i,m,h,e,_⟩:=q
 ·rcases Z02 h with h|h
  ·obtain ⟨i,_,h⟩:=Zb h
   rcases Z02 h with h|h
   ·obtain ⟨l,e,_⟩:=Zb h
    exact tu (MV.t_inv e)
   rcases Z02 h with h|h
   ·obtain ⟨l,e,_⟩:=Zb h
    cases MV.f_inv e
    obtain ⟨_,c,vs,rfl,_,hc,_⟩:=ra;exact ⟨_,_,list_getitem_lookup,hc.typeIs⟩
   ·obtain ⟨l,e,_⟩:=Zb h
    cases MV.s_inv e
    obtain ⟨_,t,rfl⟩:=ra;exact ⟨_,_,F.slot_str_getitem.lookup,typeIs_str _ _ _⟩
  ·obtain ⟨k,_,h⟩:=Zb h
   obtain ⟨l,e,_⟩:=Zb h
   cases MV.d_inv e
   obtain ⟨c,f,rfl,_,hm,_⟩:=ra;exact ⟨_,_,slot_dict_getitem.lookup,hm.typeIs⟩
 ·injection h with h _
  subst h
  cases ra
  obtain ⟨_,vs,hc,_⟩:=S.lists _ _ e;exact ⟨_,_,list_getitem_lookup,hc.isList.typeIs⟩
theorem Z4r {σ:Z4} {s:Shared} {a lo hi:MV} {va:Value} {Q:ZT} (S:St w h₀ os₀ σ s) (ra:Rep w σ s.heap a va) (q:Pr.sem .slice [a,lo,hi] σ Q):
  ∃K id,typeLookup (.type K) "__getitem__" =pure (some (.builtin id))∧s.TypeIs va K:=by
 obtain ⟨r,h,_⟩|⟨l,i,h,_⟩:=q
 ·rcases Z02 h with h|h
  ·obtain ⟨l,e,_⟩:=Zb h
   cases MV.s_inv e
   obtain ⟨_,t,rfl⟩:=ra;exact ⟨_,_,F.slot_str_getitem.lookup,typeIs_str _ _ _⟩
  ·obtain ⟨l,e,_⟩:=Zb h
   cases MV.t_inv e
   obtain ⟨_,c,vs,rfl,hc,_⟩:=ra;exact ⟨_,_,slot_tuple_getitem.lookup,IsTup.typeIs hc⟩
 ·injection h with h _
  subst h
  obtain ⟨_,c,vs,rfl,_,hc,_⟩:=ra;exact ⟨_,_,list_getitem_lookup,hc.typeIs⟩
theorem Z8E {N:Names} {n:Nat} {sc:Scope} {e:PySem.Expr} {c:CE} (h:Zc N n sc e=some c) (o i:Value):subscripted e false o i=operate [o,i] (getItem o i):=by
 cases e<;>first|rfl|(cases n<;>exact nn h)
theorem Z89 {sc:Scope} {v i:PySem.Expr} {pos:Pos} {c1 c2:CE} (h1:SE w h₀ os₀ d A T sc v c1) (h2:SE w h₀ os₀ d A T sc i c2) (hs:∀o k,subscripted i false o k=operate [o,k] (getItem o k)):
  SE w h₀ os₀ d A T sc (.Subscript v i pos) (.pr .getitem [c1,c2]):=by
 intro env ρ σ s Q E he S F q
 simp only [wpE,wpEs] at q
 refine Subscript_ (Zg (h1 env ρ σ s _ E he S F q) fun v1 s1 x σ1 q1 r1 S1 p1=>?_)
 refine Zg (h2 env ρ σ1 s1 _ E he S1 (F.pres p1 S.toStL) q1) fun v2 s2 y σ2 q2 r2 S2 p2=>?_
 have r1':=Rep.pres p2 S1.toStL noX _ r1
 obtain ⟨K,id,hl,hT⟩:=Z5W S2 r1' q2
 exact tail_any hT hl (wpAny_mono (Z4R S2 r1' r2 q2) (fun _ _ e=>e.trans (p1.trans p2)) fun _ _ x=>x) (hs _ _)
theorem Z8Z {sc:Scope} {o:Option PySem.Expr} {c:CE} (ih:∀e c,Zc N n sc e=some c→SE w h₀ os₀ d A T sc e c) (h:Zew (Zc N n sc) o=some c)
  {env:Env} {ρ:Loc} {σ:Z4} {s:Shared} {Q:ZT} {E:Value→Shared→Prop} (he:EnvOk sc env) (S:St w h₀ os₀ σ s) (F:Zu w T env ρ σ s.heap) (q:wpE (Z3 FT d) c ρ σ Q):
  wpAny (model P w) A (evalPart o env) (EP w h₀ os₀ σ s.heap Q) E s:=by
 cases o with
 |none=>cases h;simp only [wpE] at q;exact wpAny_pure (EP.here S q rfl)
 |some e=>exact ih e c h env ρ σ s Q E he S F q
theorem ZaO {sc:Scope} {v:PySem.Expr} {lo hi:Option PySem.Expr} {p pos:Pos} {c1 c2 c3:CE} (ih:∀e c,Zc N n sc e=some c→SE w h₀ os₀ d A T sc e c) (h1:SE w h₀ os₀ d A T sc v c1)
  (h2:Zew (Zc N n sc) lo=some c2) (h3:Zew (Zc N n sc) hi=some c3):
  SE w h₀ os₀ d A T sc (.Subscript v (.Slice lo hi none p) pos) (.pr .slice [c1,c2,c3]):=by
 intro env ρ σ s Q E he S F q
 simp only [wpE,wpEs] at q
 refine Subscript_ (Zg (h1 env ρ σ s _ E he S F q) fun v1 s1 x σ1 q1 r1 S1 p1=>?_)
 have F1:=F.pres p1 S.toStL
 refine wpAny_Slice (Zg (Z8Z ih h2 he S1 F1 q1) fun v2 s2 y σ2 q2 r2 S2 p2=>?_)
 have F2:=F1.pres p2 S1.toStL
 refine Zg (Z8Z ih h3 he S2 F2 q2) fun v3 s3 z σ3 q3 r3 S3 p3=>?_
 rw [evalPart_none]
 refine wpAny_pure ?_
 have g:=Zr s3.heap {cls:=.type "slice",data:=.fields #[v2,v3,.none]}
 have pg:Pres (fun _=>False) σ3 s3.heap σ3 (s3.heap.push {cls:=.type "slice",data:=.fields #[v2,v3,.none]}):=Pres.of_keeps g
 have S4:=S3.grow (k:=s3.toks) S3.toks g
 have r1':=Rep.pres pg S3.toStL noX _ (Rep.pres p3 S2.toStL noX _ (Rep.pres p2 S1.toStL noX _ r1))
 have r2':=Rep.pres pg S3.toStL noX _ (Rep.pres p3 S2.toStL noX _ r2)
 have r3':=Rep.pres pg S3.toStL noX _ r3
 obtain ⟨K,id,hl,hT⟩:=Z4r S4 r1' q3
 exact tail_any hT hl (wpAny_mono (Z3A S4 r1' ⟨v2,v3,Heap.IsSliceOf.new ..,r2',r3'⟩ q3) (fun _ _ e=>e.trans (p1.trans (p2.trans (p3.trans pg)))) fun _ _ x=>x) rfl
theorem Zez {sc:Scope} {pos:Pos} {env:Env}:∀{es:List PySem.Expr} {cs:List CE},Z0S (Zc N n sc) es=some cs→(backTo pos (starEach es env)).any (·.1)=false
 |[],_,_=>rfl
 |e::r,cs,h=>by
  obtain ⟨c,cr,h1,h2,rfl⟩:=ZH h
  rw [ZI (Zq h1)]
  show (false||(backTo pos (starEach r env)).any (·.1))=false
  rw [Zez h2];rfl
theorem Zad {f:Value} {sc:Scope} {pos:Pos} {env:Env} {ρ:Loc} (he:EnvOk sc env) (ih:∀e c,Zc N n sc e=some c→SE w h₀ os₀ d A T sc e c) {es:List PySem.Expr} {cs:List CE} {σ:Z4} {s:Shared} {Q:List MV→Z4→Prop} {E:Value→Shared→Prop}
  (h:Z0S (Zc N n sc) es=some cs) (S:St w h₀ os₀ σ s) (F:Zu w T env ρ σ s.heap) (q:wpEs (Z3 FT d) cs ρ σ Q):
  wpAny (model P w) A (evalArgs f true (backTo pos (starEach es env)) []) (fun a s'=>a.kw=[]∧LP w h₀ os₀ es.length σ s.heap Q a.pos s') E s:=by
 cases es with
 |nil=>
  cases h
  simp only [wpEs] at q
  exact evalArgs_nil3 ⟨rfl,[],σ,rfl,q,rfl,S,Pres.refl⟩
 |cons e r=>
  obtain ⟨c,cr,h1,h2,rfl⟩:=ZH h
  have hh:=spl (pos:=pos) he ih (e::r) (c::cr) σ s Q (E:=E) h S F q
  rw [ZI (Zq h1)] at hh ⊢
  exact Calls.evalArgs_plain (wpAny_mono hh (fun vs s' z=>⟨rfl,z⟩) fun _ _ x=>x)
set_option tactic.hygienic true in
theorem Z7E {x:Str}:∀{tab:List (Str×Addr×Nat)} {i:Nat},Z7F x tab=some i→∃a,(x,a,i)∈tab
 |[],_,h=>by cases h
 |(y,a,j)::r,i,h=>by
  unfold Z7F at h
  split at h
  ·next hx=>cases h;rw [beq_iff_eq] at hx;subst hx;exact ⟨a,List.mem_cons_self⟩
  ·obtain ⟨b,hb⟩:=Z7E h;exact ⟨b,List.mem_cons_of_mem _ hb⟩
noncomputable def Z79 (w:World) (h₀:Heap) (os₀:OsState) (d:Nat) (A:Around):Prop:=
 ∀x∈fnTab,∀(ms:List MV) (vs:List Value) (σ:Z4) (s:Shared) (Q:ZT) (E:Value→Shared→Prop),St w h₀ os₀ σ s→ZA w σ s.heap ms vs→Z3 FT d x.2.2 ms σ Q→
  wpAny (model P w) A (call (.ref x.2.1) vs) (EP w h₀ os₀ σ s.heap Q) E s
theorem Z9U {h:Heap} {a:Addr} {y:FnSum×Str} (e:Zbe h a=some y):∃o fd,h.get? a=some o∧o.data=.func fd:=by
 obtain ⟨o,fd,q,ds,e1,e2,-⟩:=Z5b e
 exact ⟨o,fd,e1,e2⟩
theorem Z3W {sc:Scope} {env:Env} {x:Str} (he:EnvOk sc env) (h:Z1y sc x=true):env.kindOf x=some .globalImplicit:=he.glb x (by simpa [Z1y] using h)
theorem Z9n {x:Str} (h:x≠dbg):(x==("__debug__" :Str))=false:=beq_eq_false_iff_ne.mpr h
theorem ZcQ {mg mb:Str→Option Value} (B:Base w h₀ mg mb) {sc:Scope} {env:Env} {x:Str×Addr×Nat} {p:Pos} {σ:Z4} {s:Shared} {U:Value→Shared→Prop} {E:Value→Shared→Prop} (he:EnvOk sc env) (S:St w h₀ os₀ σ s) (hx:x∈fnTab) (hg:Z1y sc x.1=true) (hd:x.1≠dbg)
  (h:U (.ref x.2.1) s):wpAny (model P w) A (eval (.Name x.1 p) env) U E s:=by
 refine Calls.Name_function_global he.kind (Z3W he hg) (Calls.loadGlobal_global (mg:=mg) ?_ (B.fns x hx).1 h) (Z9n hd)
 rw [he.glob];exact B.g.keeps S.keep
theorem Z0V {mg mb:Str→Option Value} (B:Base w h₀ mg mb) {sc:Scope} {env:Env} {x:Str} {v:Value} {p:Pos} {σ:Z4} {s:Shared} {U:Value→Shared→Prop} {E:Value→Shared→Prop} (he:EnvOk sc env) (S:St w h₀ os₀ σ s) (hx:mg x=none∧mb x=some v) (hg:Z1y sc x=true) (hd:x≠dbg)
  (h:U v s):wpAny (model P w) A (eval (.Name x p) env) U E s:=by
 refine Calls.Name_function_global he.kind (Z3W he hg) (Calls.loadGlobal_builtin (mg:=mg) (mb:=mb) ?_ hx.1 ?_ hx.2 h) (Z9n hd)
 ·rw [he.glob];exact B.g.keeps S.keep
 ·rw [he.blt];exact B.b.keeps S.keep
theorem Z9Q:∀x∈fnTab,x.1≠dbg:=by
 have h:(fnTab.all fun x=>x.1 !=dbg)=true:=by decide+kernel
 intro x hx
 have:=List.all_eq_true.mp h x hx
 simpa using this
theorem Zcz {mg mb:Str→Option Value} (B:Base w h₀ mg mb) (HC:Z79 w h₀ os₀ d A) {sc:Scope} {x:Str} {p pos:Pos} {es:List PySem.Expr} {cs:List CE} {i:Nat} (ih:∀e c,Zc N n sc e=some c→SE w h₀ os₀ d A T sc e c)
  (hg:Z1y sc x=true) (hi:Z14 x=some i) (h:Z0S (Zc N n sc) es=some cs):SE w h₀ os₀ d A T sc (.Call (.Name x p) es [] pos) (.call i cs):=by
 intro env ρ σ s Q E he S F q
 simp only [wpE] at q
 obtain ⟨a,hx⟩:=Z7E hi
 refine Call_Name rfl (ZcQ B he S hx hg (Z9Q _ hx) ?_)
 obtain ⟨y,_,hy⟩:=(B.fns _ hx).2
 obtain ⟨o,fd,ho,hfd⟩:=Z9U hy
 refine Calls.callWith_function (o:=o) (fd:=fd) (wpAny_mono (Zad he ih h S F q) (fun b s1 z=>?_) fun _ _ x=>x)
 obtain ⟨hkw,ms,σ1,hl,q1,rm,S1,p1⟩:=z
 refine ⟨⟨S1.keep _ _ ho,hfd⟩,?_⟩
 rw [hkw]
 exact wpAny_mono (HC _ hx ms b.pos σ1 s1 Q E S1 rm q1) (fun _ _ e=>e.trans p1) fun _ _ x=>x
theorem Z24 {t:String} {x:Str} (h:Z3N t x=true):x=Str.ofString t:=by simpa [Z3N] using h
theorem ZcA {mg mb:Str→Option Value} (B:Base w h₀ mg mb) {sc:Scope} {t:String} {p pos:Pos} {e:PySem.Expr} {c:CE} {pr:Pr} (ht:t∈(["len","ord","isinstance","repr","max"]:List String)) (hd:Str.ofString t≠dbg)
  (h1:SE w h₀ os₀ d A T sc e c) (hns:∀x p,e≠ .Starred x p) (hg:Z1y sc (Str.ofString t)=true) (hop:Z77 w h₀ os₀ A pr (fun v=>call (.builtin t) [v])):
  SE w h₀ os₀ d A T sc (.Call (.Name (Str.ofString t) p) [e] [] pos) (.pr pr [c]):=by
 intro env ρ σ s Q E he S F q
 refine Call_Name rfl (Z0V B he S (B.bi t ht) hg hd ?_)
 rw [ZI hns]
 show wpAny _ _ (callWith pos (.builtin t) [] [(false,eval e env)] []) _ _ _
 exact callWith_builtin1 (Z3b hop h1 he S F q)
theorem Ze7 {mg mb:Str→Option Value} (B:Base w h₀ mg mb) {sc:Scope} {t:String} {p pos:Pos} {e:PySem.Expr} {c:CE} {pr:Pr} (ht:t∈(["str","tuple","range","bool"]:List String)) (hd:Str.ofString t≠dbg)
  (h1:SE w h₀ os₀ d A T sc e c) (hns:∀x p,e≠ .Starred x p) (hg:Z1y sc (Str.ofString t)=true) (hop:Z77 w h₀ os₀ A pr (fun v=>call (.type t) [v])):
  SE w h₀ os₀ d A T sc (.Call (.Name (Str.ofString t) p) [e] [] pos) (.pr pr [c]):=by
 intro env ρ σ s Q E he S F q
 refine Call_Name rfl (Z0V B he S (B.ty t ht) hg hd ?_)
 rw [ZI hns]
 show wpAny _ _ (callWith pos (.type t) [] [(false,eval e env)] []) _ _ _
 exact PySem.callWith_type1 (Z3b hop h1 he S F q)
end
end Mine
namespace Mine
section
variable {w:World} {h₀:Heap} {os₀:OsState} {d:Nat} {A:Around} {T:List Str} {N:Names} {n:Nat}
theorem Z0L {o:PySem.Expr} {name:Str} {env:Env} {t:Sem Value} (h:Z5N o=true):attributeBase o name env t=t:=by
 cases o with
 |Call f a k p=>cases a with
  |nil=>cases f<;>first|rfl|exact ff h
  |cons _ _=>cases f<;>rfl
 |_=>rfl
theorem Z3g {env:Env} {y:Str} {k:Nat} {pos:Pos} {s:Shared} {U:Value→Shared→Prop} {E:Value→Shared→Prop} (h:U (.str (lstr y.cps.toList) s.toks) {s with toks:=s.toks+1}):wpAny (model P w) A (eval (.Constant (.str y) k pos) env) U E s:=by
 rw [Z3Q] at h
 exact Calls.Constant_str h
theorem Zaz {name:Str} {id:String} {x:Str} {t:Tok} {pos:Pos} {trees:List (Bool×Sem Value)} {Q:Value→Shared→Prop} {E:Value→Shared→Prop} {s:Shared} (slot:Slot "str" name id) (ty:typeOf (.builtin id)=pure (.type "method_descriptor"))
  (h:wpAny (model P w) A (callWith pos (.builtin id) [.str x t] trees []) Q E s):MethodOn P w A name pos (.str x t) trees Q E s:=
 ⟨"str",id,F.plainAttrs_str,slot,ty,typeIs_str _ _ _,(fun _ e=>nomatch e),h⟩
theorem Z8q {id:String} {v:Value} {pos:Pos} {Q:Value→Shared→Prop} {E:Value→Shared→Prop} {s:Shared} (h:wpAny (model P w) A (call (.builtin id) [v]) Q E s):wpAny (model P w) A (callWith pos (.builtin id) [v] [] []) Q E s:=
 Calls.callWith_builtin rfl (evalArgs_nil3 h)
theorem Z2J {id:String} {v:Value} {t:Sem Value} {pos:Pos} {Q:Value→Shared→Prop} {E:Value→Shared→Prop} {s:Shared} (h:wpAny (model P w) A t (fun u s₁=>wpAny (model P w) A (call (.builtin id) [v,u]) Q E s₁) E s):wpAny (model P w) A (callWith pos (.builtin id) [v] [(false,t)] []) Q E s:=
 Calls.callWith_builtin rfl (Calls.evalArgs_plain (Calls.spliced_cons (wpAny_mono h (fun _ _ h₁=>Calls.spliced_nil h₁) fun _ _ e=>e)))
theorem Z8p {id:String} {v:Value} {t t':Sem Value} {pos:Pos} {Q:Value→Shared→Prop} {E:Value→Shared→Prop} {s:Shared} (h:wpAny (model P w) A t (fun u s₁=>wpAny (model P w) A t' (fun u' s₂=>wpAny (model P w) A (call (.builtin id) [v,u,u']) Q E s₂) E s₁) E s):
  wpAny (model P w) A (callWith pos (.builtin id) [v] [(false,t),(false,t')] []) Q E s:=
 Calls.callWith_builtin rfl (Calls.evalArgs_plain (Calls.spliced_cons (wpAny_mono h (fun _ _ h₁=>Calls.spliced_cons (wpAny_mono h₁ (fun _ _ h₂=>Calls.spliced_nil h₂) fun _ _ e=>e)) fun _ _ e=>e)))
theorem Za7 {id:String} {t t':Sem Value} {pos:Pos} {Q:Value→Shared→Prop} {E:Value→Shared→Prop} {s:Shared} (h:wpAny (model P w) A t (fun u s₁=>wpAny (model P w) A t' (fun u' s₂=>wpAny (model P w) A (call (.builtin id) [u,u']) Q E s₂) E s₁) E s):
  wpAny (model P w) A (callWith pos (.builtin id) [] [(false,t),(false,t')] []) Q E s:=
 Calls.callWith_builtin rfl (Calls.evalArgs_plain (Calls.spliced_cons (wpAny_mono h (fun _ _ h₁=>Calls.spliced_cons (wpAny_mono h₁ (fun _ _ h₂=>Calls.spliced_nil h₂) fun _ _ e=>e)) fun _ _ e=>e)))
theorem Z0j {e:PySem.Expr} {env:Env} {pos:Pos} (h:∀x p,e≠ .Starred x p):backTo pos (starEach [e] env)=[(false,eval e env)]:=by
 rw [ZI h];rfl
theorem Z0i {e e':PySem.Expr} {env:Env} {pos:Pos} (h:∀x p,e≠ .Starred x p) (h':∀x p,e'≠ .Starred x p):backTo pos (starEach [e,e'] env)=[(false,eval e env),(false,eval e' env)]:=by
 rw [ZI h,ZI h'];rfl
theorem Z0l {y:Str} {k:Nat} {pos:Pos}:∀x p,(PySem.Expr.Constant (.str y) k pos)≠ .Starred x p:=fun _ _ e=>nomatch e
theorem Z9s {x:MV} {σ:Z4} {Q:ZT} (q:Pr.sem .lower [x] σ Q):∃z,x=.str z:=by
 obtain ⟨r,h,_⟩|q:=q
 ·obtain ⟨z,e,_⟩:=Zb h;exact ⟨z,MV.s_inv e⟩
 ·exact q.elim
theorem Z82 {x y:MV} {σ:Z4} {Q:ZT} (q:Pr.sem .startswith [x,y] σ Q):∃z,x=.str z:=by
 obtain ⟨r,h,_⟩|q:=q
 ·obtain ⟨z,e,_⟩:=Zb h;exact ⟨z,MV.s_inv e⟩
 ·exact q.elim
theorem Z6D {x:MV} {a b:List Nat} {σ:Z4} {Q:ZT} (q:Pr.sem (.replace a b) [x] σ Q):∃z,x=.str z:=by
 obtain ⟨r,h,_⟩|q:=q
 ·obtain ⟨z,e,_⟩:=Zb h;exact ⟨z,MV.s_inv e⟩
 ·exact q.elim
theorem Z9H {x:MV} {σ:Z4} {Q:ZT} (q:Pr.sem .islst [x] σ Q):∃a l,x=.lst a∧σ a=some l∧Q (.lst a) σ:=by
 obtain ⟨r,h,_⟩|⟨c,l,h,e,q⟩:=q
 ·cases h
 ·cases h;exact ⟨c,l,rfl,e,q⟩
theorem Z6T {x:MV} {σ:Z4} {Q:ZT} (q:Pr.sem .isdict [x] σ Q):∃kvs,x=.dict kvs∧Q (.dict kvs) σ:=by
 obtain ⟨r,h,_,q⟩|q:=q
 ·obtain ⟨z,e,h1⟩:=Zb h;cases h1;exact ⟨z,MV.d_inv e,q⟩
 ·exact q.elim
theorem Zbh {kvs:List (List Nat×MV)} {y z:MV} {σ:Z4} {Q:ZT} (q:Pr.sem .dget [.dict kvs,y,z] σ Q):∃k,y=.str k∧Q ((Zz k kvs).getD z) σ:=by
 obtain ⟨r,h,_,q⟩|q:=q
 ·obtain ⟨k,e,h1⟩:=Zb h;cases h1;exact ⟨k,MV.s_inv e,q⟩
 ·exact q.elim
theorem Zb0 {sc:Scope} {o:PySem.Expr} {m:Str} {ap pos:Pos} {args:List PySem.Expr} {c:CE} (ih:∀e c,Zc N n sc e=some c→SE w h₀ os₀ d A T sc e c) (hline:(ap.endLine==pos.line)=true)
  (h:Z5d (Zc N n sc) o m args=some c):SE w h₀ os₀ d A T sc (.Call (.Attribute o m ap) args [] pos) c:=by
 refine (?_:∀c,Z5d (Zc N n sc) o m args=some c→SE w h₀ os₀ d A T sc (.Call (.Attribute o m ap) args [] pos) c) c h
 clear h c
 refine Z1m fun hb=>?_
 cases args with
 |nil=>
  refine Z1m fun hm=>?_
  refine Z2c fun c1 e1=>?_
  obtain rfl:=Z24 hm
  refine Z2b ?_
  intro env ρ σ s Q E he S Fr0 q
  simp only [wpE,wpEs] at q
  refine wpAny_Call_method_late (Z0L hb) (by rfl) hline rfl (Zg (ih _ _ e1 env ρ σ s _ E he S Fr0 q) fun v1 s1 x σ1 q1 r1 S1 p1=>?_)
  have q1:Pr.sem .lower [x] σ1 Q:=q1
  obtain ⟨y,rfl⟩:=Z9s q1
  have r1':=r1
  obtain ⟨_,t,rfl⟩:=r1
  exact Zaz F.slot_str_lower F.type_str_lower (Z8q (wpAny_mono (Z6y S1 r1' q1) (fun _ _ e=>e.trans p1) fun _ _ x=>x))
 |cons a r=>
 cases r with
 |nil=>
  refine Z9X (fun hm=>?_) ?_
  ·refine Z4e fun c1 c2 e1 e2=>?_
   obtain rfl:=Z24 hm
   refine Z2b ?_
   intro env ρ σ s Q E he S Fr0 q
   simp only [wpE,wpEs] at q
   have ns:=Zq e2
   refine wpAny_Call_method_late (Z0L hb) (by rw [Z0j ns];rfl) hline (Z0j ns) (Zg (ih _ _ e1 env ρ σ s _ E he S Fr0 q) fun v1 s1 x σ1 q1 r1 S1 p1=>?_)
   replace q1:=Z9H q1
   obtain ⟨b,l,rfl,el,q1⟩:=q1
   cases r1
   obtain ⟨_,vs,hc,_⟩:=S1.lists _ _ el
   refine ⟨"list","list.append",F.plainAttrs_list,F.slot_list_append,F.type_list_append,hc.isList.typeIs,(fun b e=>by cases e;obtain ⟨k,hk⟩:=hc;exact ⟨_,hk,rfl⟩),Z2J ?_⟩
   refine Zg (ih _ _ e2 env ρ σ1 s1 _ E he S1 (Fr0.pres p1 S.toStL) q1) fun v2 s2 y σ2 q2 r2 S2 p2=>?_
   exact wpAny_mono (Z2Q (a:=.lst b) S2 rfl r2 q2) (fun _ _ e=>e.trans (p1.trans p2)) fun _ _ x=>x
  have onStr:∀{id:String} {p:Pr},Slot "str" m id→typeOf (.builtin id)=pure (.type "method_descriptor")→
    (∀{σ:Z4} {s:Shared} {a b:MV} {va vb:Value} {Q:ZT} {E:Value→Shared→Prop},St w h₀ os₀ σ s→Rep w σ s.heap a va→Rep w σ s.heap b vb→p.sem [a,b] σ Q→wpAny (model P w) A (call (.builtin id) [va,vb]) (EP w h₀ os₀ σ s.heap Q) E s)→
    ∀c,b2 (strConst o) (Zc N n sc a) (fun c d=>some (CE.pr p [.cst (.str c),d]))=some c→SE w h₀ os₀ d A T sc (.Call (.Attribute o m ap) [a] [] pos) c:=by
   intro id p sl ty hs
   refine Z4e fun c1 c2 e1 e2=>?_
   refine Z2b ?_
   obtain ⟨y,k,pos',rfl,rfl,hl⟩:=Z0w e1
   intro env ρ σ s Q E he S Fr0 q
   simp only [wpE,wpEs] at q
   have ns:=Zq e2
   refine wpAny_Call_method_late (Z0L hb) (by rw [Z0j ns];rfl) hline (Z0j ns) (Z3g ?_)
   refine Zaz sl ty (Z2J ?_)
   have S1:=S.toksTo (k:=s.toks+1) (Nat.succ_pos _)
   refine Zg (ih _ _ e2 env ρ σ {s with toks:=s.toks+1} _ E he S1 Fr0 q) fun v2 s2 z σ2 q2 r2 S2 p2=>?_
   exact wpAny_mono (hs (a:=.str y.cps.toList) S2 ⟨Nat.le_trans hl (by decide),_,rfl⟩ r2 q2) (fun _ _ e=>e.trans p2) fun _ _ x=>x
  refine Z9X (fun hm=>?_) ?_
  ·obtain rfl:=Z24 hm
   exact onStr F.slot_str_join F.type_str_join (fun S ra rb q=>Z85 S ra rb q)
  refine Z9X (fun hm=>?_) ?_
  ·obtain rfl:=Z24 hm
   exact onStr F.slot_str_index F.type_str_index (fun S ra rb q=>Z6A S ra rb q)
  refine Z1m fun hm=>?_
  refine Z4e fun c1 c2 e1 e2=>?_
  obtain rfl:=Z24 hm
  refine Z2b ?_
  obtain ⟨y,k,pos',rfl,rfl,hl⟩:=Z0w e2
  intro env ρ σ s Q E he S Fr0 q
  simp only [wpE,wpEs] at q
  refine wpAny_Call_method_late (Z0L hb) (by rw [Z0j Z0l];rfl) hline (Z0j Z0l) (Zg (ih _ _ e1 env ρ σ s _ E he S Fr0 q) fun v1 s1 x σ1 q1 r1 S1 p1=>?_)
  have q1:Pr.sem .startswith [x,.str y.cps.toList] σ1 Q:=q1
  obtain ⟨z,rfl⟩:=Z82 q1
  have r1':=r1
  obtain ⟨_,t,rfl⟩:=r1
  refine Zaz F.slot_str_startswith F.type_str_startswith (Z2J (Z3g ?_))
  exact wpAny_mono (Z2Y (b:=.str y.cps.toList) (S1.toksTo (Nat.succ_pos _)) r1' ⟨Nat.le_trans hl (by decide),_,rfl⟩ q1) (fun _ _ e=>e.trans p1) fun _ _ x=>x
 |cons b r=>
 cases r with
 |cons _ _=>exact ZfW
 |nil=>
  refine Z9X (fun hm=>?_) ?_
  ·refine Z4e fun x y e2 e3=>?_
   refine Z2c fun c1 e1=>?_
   obtain rfl:=Z24 hm
   refine Z2b ?_
   obtain ⟨y2,k2,pos2,rfl,rfl,hl2⟩:=Z0w e2
   obtain ⟨y3,k3,pos3,rfl,rfl,hl3⟩:=Z0w e3
   intro env ρ σ s Q E he S Fr0 q
   simp only [wpE,wpEs] at q
   refine wpAny_Call_method_late (Z0L hb) (by rw [Z0i Z0l Z0l];rfl) hline (Z0i Z0l Z0l) (Zg (ih _ _ e1 env ρ σ s _ E he S Fr0 q) fun v1 s1 x σ1 q1 r1 S1 p1=>?_)
   have q1:Pr.sem (.replace y2.cps.toList y3.cps.toList) [x] σ1 Q:=q1
   obtain ⟨z,rfl⟩:=Z6D q1
   obtain ⟨_,t,rfl⟩:=r1
   refine Zaz F.slot_str_replace F.type_str_replace (Z8p (Z3g (Z3g ?_)))
   have ht:s1.toks≠0:=Nat.ne_of_gt S1.toks
   exact wpAny_mono (Z4P (S1.toksTo (Nat.succ_pos _)) ht (Nat.succ_ne_zero s1.toks) (Nat.succ_ne_self s1.toks).symm q1) (fun _ _ e=>e.trans p1) fun _ _ x=>x
  ·refine Z1m fun hm=>?_
   refine Z4e fun c2 c3 e2 e3=>?_
   refine Z2c fun c1 e1=>?_
   obtain rfl:=Z24 hm
   refine Z2b ?_
   intro env ρ σ s Q E he S Fr0 q
   simp only [wpE,wpEs] at q
   have ns2:=Zq e2
   have ns3:=Zq e3
   refine wpAny_Call_method_late (Z0L hb) (by rw [Z0i ns2 ns3];rfl) hline (Z0i ns2 ns3) (Zg (ih _ _ e1 env ρ σ s _ E he S Fr0 q) fun v1 s1 x σ1 q1 r1 S1 p1=>?_)
   ·replace q1:=Z6T q1
    obtain ⟨kvs,rfl,q1⟩:=q1
    have r1':=r1
    obtain ⟨dd,f,rfl,hd,hm,_⟩:=r1
    refine ⟨"dict","dict.get",F.plainAttrs_dict,F.slot_dict_get,F.type_dict_get,hm.typeIs,(fun b e=>by cases e;obtain ⟨o,es,ep,ho,hx,_⟩:=hm;exact ⟨o,ho,hx.2.1⟩),?_⟩
    refine wpAny_dict_get2 (knd:=strKind P w) (beq_eq_false_iff_ne.mpr hd) ?_
    have F1:=Fr0.pres p1 S.toStL
    refine Zg (ih _ _ e2 env ρ σ1 s1 _ E he S1 F1 q1) fun v2 s2 y σ2 q2 r2 S2 p2=>?_
    refine Zg (ih _ _ e3 env ρ σ2 s2 _ E he S2 (F1.pres p2 S1.toStL) q2) fun v3 s3 z σ3 q3 r3 S3 p3=>?_
    have r1'':=Rep.pres (p2.trans p3) S1.toStL noX _ r1'
    obtain ⟨dd',f',e',_,hm',_,hno,hp⟩:=r1''
    cases e'
    ·obtain ⟨k,rfl,q4⟩:=Zbh q3
     have r2':=Rep.pres p3 S2.toStL noX _ r2
     obtain ⟨_,t,rfl⟩:=r2'
     refine ⟨_,f',strKind_is P w _ t,hm',?_⟩
     have S4:=S3.toksTo (k:=s3.toks+1) (Nat.succ_pos _)
     cases el:Zz k kvs with
     |none=>
      rw [hno _ el]
      rw [el] at q4
      exact ⟨_,σ3,q4,r3,S4,p1.trans (p2.trans p3)⟩
     |some mv=>
      obtain ⟨u,hu,ru⟩:=hp.at el
      rw [hu]
      rw [el] at q4
      exact ⟨_,σ3,q4,ru,S4,p1.trans (p2.trans p3)⟩
end
end Mine
namespace Mine
section
variable {w:World} {h₀:Heap} {os₀:OsState} {d:Nat} {A:Around} {T:List Str} {N:Names} {n:Nat}
theorem Z8u:∀t∈(["len","ord","isinstance","repr","max","str","tuple","range","bool"]:List String),Str.ofString t≠dbg:=by decide+kernel
theorem Z6S {mg mb:Str→Option Value} (B:Base w h₀ mg mb) {sc:Scope} {env:Env} {ρ:Loc} (he:EnvOk sc env) {t:PySem.Expr} {p:Pr} (hp:Z55 sc t=some p) {σ:Z4} {s:Shared} {x:MV} {vx:Value} {Q:ZT} {E:Value→Shared→Prop}
  (S:St w h₀ os₀ σ s) (rx:Rep w σ s.heap x vx) (q:p.sem [x] σ Q):
  wpAny (model P w) A (eval t env) (fun c s1=>wpAny (model P w) A (call (.builtin "isinstance") [vx,c]) (EP w h₀ os₀ σ s.heap Q) E s1) E s:=by
 have nam:∀{x:Str×Pos} {t:PySem.Expr},Z3O (vw t)=some x→t=.Name x.1 x.2:=fun h=>Z0P h
 replace hp:=Z7G hp
 rcases hp with ⟨⟨y,py⟩,hy,hp⟩|⟨_,hp⟩
 ·obtain rfl:=nam hy
  replace hp:=ZC hp
  obtain ⟨hg,hp⟩:=hp
  replace hp:=ZbV hp
  rcases hp with ⟨hm,hp⟩|hp
  ·cases hp
   obtain rfl:=Z24 hm
   exact Z0V B he S (B.ty "bool" (by decide)) hg (Z8u _ (by decide)) (Z5B S rx q)
  ·replace hp:=ZC hp
   obtain ⟨hm,hp⟩:=hp
   cases hp
   obtain rfl:=Z24 hm
   exact Z0V B he S (B.ty "str" (by decide)) hg (Z8u _ (by decide)) (Z6z S rx q)
 ·replace hp:=Zb hp
  obtain ⟨l,hl,hp⟩:=hp
  obtain ⟨k,pos,rfl⟩:=Z2r hl
  replace hp:=Zb hp
  obtain ⟨⟨a,b⟩,h2,hp⟩:=hp
  obtain rfl:=Z41 h2
  replace hp:=Z2W hp
  obtain ⟨⟨y,py⟩,⟨z,pz⟩,ha,hb,hp⟩:=hp
  obtain rfl:=nam ha
  obtain rfl:=nam hb
  replace hp:=ZC hp
  obtain ⟨hc,hp⟩:=hp
  cases hp
  obtain ⟨hc,hm2⟩:=Bool.and_eq_true_iff.1 hc
  obtain ⟨hc,hm1⟩:=Bool.and_eq_true_iff.1 hc
  obtain ⟨hg1,hg2⟩:=Bool.and_eq_true_iff.1 hc
  obtain rfl:=Z24 hm1
  obtain rfl:=Z24 hm2
  refine Tuple_ ?_
  show wpAny _ _ (spliced [(false,eval (.Name (Str.ofString "bool") py) env),(false,eval (.Name (Str.ofString "str") pz) env)]) _ _ _
  refine Calls.spliced_cons (Z0V B he S (B.ty "bool" (by decide)) hg1 (Z8u _ (by decide)) ?_)
  refine Calls.spliced_cons (Z0V B he S (B.ty "str" (by decide)) hg2 (Z8u _ (by decide)) ?_)
  refine Calls.spliced_nil (wpAny_newObj_type ?_ (by show 2≤sizeLine;rw [sizeLine_eq];decide))
  have g:=Zr s.heap {cls:=.type "tuple",data:=.seq #[.type "bool",.type "str"]}
  have pg:Pres (fun _=>False) σ s.heap σ (s.heap.push {cls:=.type "tuple",data:=.seq #[.type "bool",.type "str"]}):=Pres.of_keeps g
  have S1:=S.grow (k:=s.toks) S.toks g
  exact wpAny_mono (Z3B S1 (Rep.pres pg S.toStL noX _ rx) (Heap.get?_push_size _ rfl) q) (fun _ _ e=>e.trans pg) fun _ _ x=>x
theorem Z4i {sc:Scope} {t:PySem.Expr} {p:Pr} (hp:Z55 sc t=some p):∀x p,t≠ .Starred x p:=by
 rintro x p rfl
 cases hp
theorem Zbp {mg mb:Str→Option Value} (B:Base w h₀ mg mb) (R:Room d A) (HC:Z79 w h₀ os₀ d A) {sc:Scope} {x:Str} {p pos:Pos} {args:List PySem.Expr} {c:CE} (ih:∀e c,Zc ⟨T,Z14⟩ n sc e=some c→SE w h₀ os₀ d A T sc e c)
  (h:Z5e sc ⟨T,Z14⟩ (Zc ⟨T,Z14⟩ n sc) x args=some c):SE w h₀ os₀ d A T sc (.Call (.Name x p) args [] pos) c:=by
 refine (?_:∀c,Z5e sc ⟨T,Z14⟩ (Zc ⟨T,Z14⟩ n sc) x args=some c→SE w h₀ os₀ d A T sc (.Call (.Name x p) args [] pos) c) c h
 clear h c
 refine Z1m fun hg=>?_
 refine Zdo (fun i hi=>?_) ?_
 ·refine Z2c fun cs e=>?_
  exact Z2b (Zcz B HC ih hg hi e)
 have blt:∀{t:String} {pr:Pr},t∈(["len","ord","isinstance","repr","max"]:List String)→Str.ofString t≠dbg→Z3N t x=true→Z77 w h₀ os₀ A pr (fun v=>call (.builtin t) [v])→∀c,one (Zc ⟨T,Z14⟩ n sc) pr args=some c→
   SE w h₀ os₀ d A T sc (.Call (.Name x p) args [] pos) c:=by
  intro t pr ht hd hx hop
  refine Z2c fun a e1=>Z2c fun c1 e=>Z2b ?_
  cases Z0o e1
  cases Z24 hx
  exact ZcA B ht hd (ih _ _ e) (Zq e) hg hop
 have ty:∀{t:String} {pr:Pr},t∈(["str","tuple","range","bool"]:List String)→Str.ofString t≠dbg→Z3N t x=true→Z77 w h₀ os₀ A pr (fun v=>call (.type t) [v])→∀c,one (Zc ⟨T,Z14⟩ n sc) pr args=some c→
   SE w h₀ os₀ d A T sc (.Call (.Name x p) args [] pos) c:=by
  intro t pr ht hd hx hop
  refine Z2c fun a e1=>Z2c fun c1 e=>Z2b ?_
  cases Z0o e1
  cases Z24 hx
  exact Ze7 B ht hd (ih _ _ e) (Zq e) hg hop
 refine Z9X (fun hm=>?_) ?_
 ·exact blt (t:= "len") (pr:=.len) (by decide) (Z8u _ (by decide)) hm (fun σ s x vx Q E S rx q=>Z8R S rx q)
 refine Z9X (fun hm=>?_) ?_
 ·exact blt (t:= "ord") (pr:=.ord) (by decide) (Z8u _ (by decide)) hm (fun σ s x vx Q E S rx q=>Z8M S rx q)
 refine Z9X (fun hm=>?_) ?_
 ·exact ty (t:= "str") (pr:=.strOf) (by decide) (Z8u _ (by decide)) hm (fun σ s x vx Q E S rx q=>Z8L S rx q)
 refine Z9X (fun hm=>?_) ?_
 ·exact blt (t:= "repr") (pr:=.repr) (by decide) (Z8u _ (by decide)) hm (fun σ s x vx Q E S rx q=>Z83 S R.guards (by have:=R.units;lia) rx q)
 refine Z9X (fun hm=>?_) ?_
 ·exact ty (t:= "tuple") (pr:=.tuple) (by decide) (Z8u _ (by decide)) hm (fun σ s x vx Q E S rx q=>Z6v S rx q)
 refine Z9X (fun hm=>?_) ?_
 ·exact ty (t:= "range") (pr:=.range) (by decide) (Z8u _ (by decide)) hm (fun σ s x vx Q E S rx q=>Z6w S rx q)
 refine Z2c ?_
 rintro ⟨a,b⟩ h2
 obtain rfl:=Z41 h2
 refine Z9X (fun hm=>?_) ?_
 ·refine Z4e fun c1 c2 e1 e2=>?_
  obtain rfl:=Z24 hm
  refine Z2b ?_
  intro env ρ σ s Q E he S F q
  refine Call_Name (Z0i (Zq e1) (Zq e2)) (Z0V B he S (B.bi "max" (by decide)) hg (Z8u _ (by decide)) ?_)
  exact Za7 (Z36 (p:=.max) (op:=fun a b=>call (.builtin "max") [a,b]) (fun σ s x y vx vy Q E S rx ry q=>Z8Q S R.handled rx ry q) (ih _ _ e1) (ih _ _ e2) he S F q)
 ·refine Z1m fun hm=>?_
  refine Z4e fun c1 pr e1 e2=>?_
  obtain rfl:=Z24 hm
  refine Z2b ?_
  intro env ρ σ s Q E he S F q
  refine Call_Name (Z0i (Zq e1) (Z4i e2)) (Z0V B he S (B.bi "isinstance" (by decide)) hg (Z8u _ (by decide)) ?_)
  simp only [wpE,wpEs] at q
  refine Za7 (Zg (ih _ _ e1 env ρ σ s _ E he S F q) fun v1 s1 x σ1 q1 r1 S1 p1=>?_)
  exact wpAny_mono (Z6S (ρ:=ρ) B he e2 S1 r1 q1) (fun c s2 z=>wpAny_mono z (fun _ _ e=>e.trans p1) fun _ _ x=>x) fun _ _ x=>x
end
end Mine
namespace Mine
section
variable {w:World} {h₀:Heap} {os₀:OsState} {d:Nat} {A:Around} {T:List Str} {N:Names} {n:Nat}
theorem Z2Z {h:Heap} {a:Addr} (x:h.DictOf (strKind P w) a []):ZU w h a:=by
 obtain ⟨o,es,ep,ho,hc,hd,hk,hp,hn⟩:=x
 have hes:es= #[]:=by have:=hp.length;simpa using this
 subst hes
 refine ⟨fun vs y=>?_,fun vs y=>?_,fun n t u x y=>?_,fun f y k hk₀=>?_⟩
 ·obtain ⟨o',ho',hc',_⟩:=y
  rw [ho] at ho';cases ho';have:=hc.1;rw [hc'] at this;exact absurd this (by decide)
 ·obtain ⟨o',ho',hc',_⟩:=y
  rw [ho] at ho';cases ho';have:=hc.1;rw [hc'] at this;exact absurd this (by decide)
 ·unfold IsRange at y
  rw [ho] at y;cases y;exact absurd (show Value.type "range" =Value.type "dict" from hc.1) (by decide)
 ·obtain ⟨o',es',ep',ho',hc',hd',hk',hf'⟩:=y
  cases ddt ho ho' hd hd'
  rw [←hf' (lstr k)]
  simp [findBy]
theorem St.changed {σ:Z4} {s:Shared} (S:St w h₀ os₀ σ s) {D:Addr} {h':Heap} {k:Nat} (hk:0<k) (h0:σ D=none) (hf:h₀.get? D=none) (hn:ZU w s.heap D) (hs:Heap.SameBut D s.heap h'):
  St w h₀ os₀ σ {s with heap:=h',toks:=k}∧(∀m v,Rep w σ s.heap m v→Rep w σ h' m v):=by
 have p:Pres (fun b=>b=D) σ s.heap σ h':=fun b o e e' nx=>⟨(hs.2 b nx).trans e,e'⟩
 have hX:∀b,b=D→ZU w s.heap b:=fun b e=>e▸hn
 refine ⟨⟨⟨fun a l e=>?_⟩,fun b o e=>?_,S.sep,S.gens,S.os,hk⟩,fun m v r=>Rep.pres p S.toStL hX m r⟩
 ·have ha:a≠D:=fun q=>by rw [q,h0] at e;cases e
  obtain ⟨hl,vs,x,y⟩:=S.lists a l e
  exact ⟨hl,vs,x.at fun o ho=>(hs.2 a ha).trans ho,ZA.pres p S.toStL hX l y⟩
 ·have hb:b≠D:=fun q=>by rw [q,hf] at e;cases e
  exact (hs.2 b hb).trans (S.keep b o e)
theorem Z5h {mg mb:Str→Option Value} (B:Base w h₀ mg mb) {σ:Z4} {s:Shared} (S:St w h₀ os₀ σ s):s.heap.objs.size≠sysModules:=by
 obtain ⟨_,hn,_⟩:=B.nolimit
 obtain ⟨o,_,_,ho,_⟩:=hn
 have:=Heap.lt_size (S.keep _ _ ho)
 intro e
 rw [e] at this
 exact absurd this (by decide)
theorem Z59 {σ:Z4} {s:Shared} (S:St w h₀ os₀ σ s):h₀.get? s.heap.objs.size=none:=by
 cases e:h₀.get? s.heap.objs.size with
 |none=>rfl
 |some o=>exact absurd (Heap.lt_size (S.keep _ _ e)) (Nat.lt_irrefl _)
theorem Z1d {k:Option PySem.Expr} {ks:List (Option PySem.Expr)} {l:List (List Nat)} (h:Z0I (k::ks)=some l):
  ∃x i p r,k=some (.Constant (.str x) i p)∧x.length≤1000∧Z0I ks=some r∧l=x.cps.toList::r:=by
 replace h:=Z2W h
 obtain ⟨s,r,h1,h2,h⟩:=h
 replace h1:=Zb h1
 obtain ⟨e,he,h1⟩:=h1
 obtain ⟨y,i,p,e1,e2,hl⟩:=Z0w h1
 cases h
 exact ⟨y,i,p,r,he.trans (congrArg some e1),hl,h2,congrArg (· ::r) e2⟩
theorem Z4x {sc:Scope} {env:Env} {ρ:Loc} {pos:Pos} (he:EnvOk sc env) (ih:∀e c,Zc N n sc e=some c→SE w h₀ os₀ d A T sc e c):
  ∀(ks:List (Option PySem.Expr)) (vs:List PySem.Expr) (k:List (List Nat)) (cs:List CE) (σ:Z4) (s:Shared) (Q:List MV→Z4→Prop) (E:Value→Shared→Prop),
   Z0I ks=some k→Z0S (Zc N n sc) vs=some cs→ks.length=vs.length→St w h₀ os₀ σ s→Zu w T env ρ σ s.heap→wpEs (Z3 FT d) cs ρ σ Q→
   wpAny (model P w) A (evalPairs (pairTrees ks vs env pos)) (fun kvs s'=>allStrKeys kvs=true∧(strPairs kvs).map (·.1)=k.map lstr∧
    ∃ms σ',ms.length=vs.length∧Q ms σ'∧ZA w σ' s'.heap ms ((strPairs kvs).map (·.2))∧St w h₀ os₀ σ' s'∧Pres (fun _=>False) σ s.heap σ' s'.heap) E s
 |[],[],k,cs,σ,s,Q,E,hk,hc,_,S,F,q=>by
  cases hk;cases hc
  simp only [wpEs] at q
  exact pairTrees_nil_walk ⟨rfl,rfl,[],σ,rfl,q,rfl,S,Pres.refl⟩
 |[],_::_,_,_,_,_,_,_,_,_,hl,_,_,_=>by simp at hl
 |_::_,[],_,_,_,_,_,_,_,_,hl,_,_,_=>by simp at hl
 |ko::ks,v::vs,k,cs,σ,s,Q,E,hk,hc,hl,S,F,q=>by
  obtain ⟨x,i,p,r,rfl,hx,hk',rfl⟩:=Z1d hk
  obtain ⟨c,cr,h1,h2,rfl⟩:=ZH hc
  simp only [wpEs] at q
  refine pairTrees_cons_walk (Calls.Constant_str ?_)
  have S0:St w h₀ os₀ σ {s with toks:=s.toks+1}:=S.toksTo (Nat.succ_pos _)
  refine Zg (ih v c h1 env ρ σ {s with toks:=s.toks+1} _ E he S0 F q) fun v1 s1 m σ1 q1 r1 S1 p1=>?_
  refine wpAny_mono (Z4x he ih ks vs r cr σ1 s1 _ E hk' h2 (by simpa using hl) S1 (F.pres p1 S.toStL) q1) (fun kvs s2 z=>?_) fun _ _ e=>e
  obtain ⟨ha,hkeys,ms,σ2,hms,q2,rm,S2,p2⟩:=z
  refine ⟨ha,?_,m::ms,σ2,by simp [hms],q2,⟨v1,_,rfl,Rep.pres p2 S1.toStL noX _ r1,rm⟩,S2,p1.trans p2⟩
  show x::(strPairs kvs).map (·.1)=lstr x.cps.toList::r.map lstr
  rw [hkeys,Z3Q]
theorem Zah {σ:Z4} {h:Heap} {f:Str→Option Value}:∀(l:List (List Nat×MV)),(∀k m,(k,m)∈l→∃u,f (lstr k)=some u∧Rep w σ h m u)→Z6n w σ h l f
 |[],_=>trivial
 |(k,m)::r,hh=>⟨hh k m List.mem_cons_self,Zah r fun k' m' hm=>hh k' m' (List.mem_cons_of_mem _ hm)⟩
set_option tactic.hygienic true in
theorem Z2V:∀{l:List (List Nat×MV)} {k:List Nat},Zz k l=none→k∉l.map (·.1)
 |[],_,_=>by simp
 |(a,v)::r,k,h=>by
  unfold Zz at h
  split at h
  ·cases h
  ·next hne=>
   have hne':k≠a:=by simpa using hne
   simp only [List.map_cons,List.mem_cons,not_or]
   exact ⟨hne',Z2V h⟩
theorem Z5r {l:List (Str×Value)} {k:Str} (h:k∉l.map (·.1)):valueAt l k=none:=by
 unfold valueAt
 rw [Option.map_eq_none_iff,List.find?_eq_none]
 intro x hx
 have:x.1≠k:=fun e=>h (e▸List.mem_map_of_mem hx)
 simpa using this
theorem Z2B {k:List (List Nat)} (h:k.Nodup):(k.map lstr).Nodup:=by
 unfold List.Nodup at h ⊢
 rw [List.pairwise_map]
 exact h.imp fun hne e=>hne (Z18.mp e)
theorem Z7I {σ:Z4} {h:Heap} {D:Addr} {k:List (List Nat)} {ms:List MV} {kvs:List (Str×Value)} (hD:D≠sysModules) (hd:h.DictOf (strKind P w) D kvs) (hkeys:kvs.map (·.1)=k.map lstr)
  (hnd:k.Nodup) (h2:k.any dictMarks.contains=true) (hlen:ms.length=k.length) (rm:ZA w σ h ms (kvs.map (·.2))):Rep w σ h (.dict (k.zip ms)) (.ref D):=by
 have hkn:(kvs.map (·.1)).Nodup:=by
  rw [hkeys]
  exact Z2B hnd
 have hl:kvs.length=k.length:=by have:=congrArg List.length hkeys;simpa using this
 have at_:∀i (hi:i<k.length),∃u,valueAt kvs (lstr k[i])=some u∧∃m,ms[i]? =some m∧Rep w σ h m u:=by
  intro i hi
  have e1:ms[i]? =some (ms[i]'(by lia)):=List.getElem?_eq_getElem _
  obtain ⟨u,hu,ru⟩:=rm.at e1
  rw [List.getElem?_map] at hu
  cases e3:kvs[i]? with
  |none=>rw [e3] at hu;cases hu
  |some kv=>
   rw [e3] at hu
   have hk1:kv.1=lstr k[i]:=by
    have:=congrArg (fun l=>l[i]?) hkeys
    simp only [List.getElem?_map,e3,Option.map_some,List.getElem?_eq_getElem hi] at this
    exact Option.some.inj this
   refine ⟨u,?_,_,e1,ru⟩
   obtain ⟨k1,v1⟩:=kv
   simp at hu hk1
   subst hu;subst hk1
   exact valueAt_of_get hkn e3
 obtain ⟨km,hkm,hmark⟩:=List.any_eq_true.mp h2
 refine ⟨D,_,rfl,hD,hd.mapOf,⟨km,by simpa using hmark,?_⟩,?_,?_⟩
 ·obtain ⟨i,hi,e⟩:=List.mem_iff_getElem.mp hkm
  obtain ⟨u,hu,_⟩:=at_ i hi
  rw [←e,hu];rfl
 ·intro x hx
  refine Z5r ?_
  rw [hkeys]
  have:=Z2V hx
  rw [List.map_fst_zip (by lia)] at this
  intro hm
  obtain ⟨y,hy,e⟩:=List.mem_map.mp hm
  rw [Z18] at e
  exact this (e▸hy)
 ·refine Zah _ fun x m hm=>?_
  obtain ⟨i,hi,e⟩:=List.mem_iff_getElem.mp hm
  rw [List.getElem_zip] at e
  have hi':i<k.length:=by rw [List.length_zip] at hi;lia
  obtain ⟨u,hu,m',hm',ru⟩:=at_ i hi'
  rw [List.getElem?_eq_getElem (by lia)] at hm'
  cases e
  cases hm'
  exact ⟨u,hu,ru⟩
theorem Z1B:∀{ks:List (Option PySem.Expr)} {k:List (List Nat)},Z0I ks=some k→ks.all (·.isSome)=true∧k.length=ks.length
 |[],_,h=>by cases h;exact ⟨rfl,rfl⟩
 |a::ks,k,h=>by
  obtain ⟨x,i,p,r,rfl,_,hk',rfl⟩:=Z1d h
  obtain ⟨h1,h2⟩:=Z1B hk'
  exact ⟨by simpa using h1,by simp [h2]⟩
theorem Z7p {k:List (List Nat)} {ms:List MV} {σ:Z4} {Q:ZT} (q:Pr.sem (.mkDict k) ms σ Q):Q (.dict (k.zip ms)) σ:=by
 obtain ⟨r,h,_,q⟩|q:=q
 ·cases h;exact q
 ·exact q.elim
theorem Zcw {mg mb:Str→Option Value} (B:Base w h₀ mg mb) {sc:Scope} {ks:List (Option PySem.Expr)} {vs:List PySem.Expr} {pos:Pos} {k:List (List Nat)} {cs:List CE} (ih:∀e c,Zc N n sc e=some c→SE w h₀ os₀ d A T sc e c)
  (hk:Z0I ks=some k) (hc:Z0S (Zc N n sc) vs=some cs) (hl:k.length=vs.length) (h2:2≤k.length) (hnd:k.Nodup) (hmk:k.any dictMarks.contains=true) (h15:k.length≤15):
  SE w h₀ os₀ d A T sc (.Dict ks vs pos) (.pr (.mkDict k) cs):=by
 intro env ρ σ s Q E he S F q
 simp only [wpE] at q
 obtain ⟨hall,hkl⟩:=Z1B hk
 have g:=Zr s.heap {cls:=.type "dict",data:=.dict #[]}
 have S0:=S.grow (k:=s.toks) S.toks g
 have p0:Pres (fun _=>False) σ s.heap σ (s.heap.push {cls:=.type "dict",data:=.dict #[]}):=Pres.of_keeps g
 have h0k:ks≠[]:=by
  intro e
  have:ks.length=0:=by rw [e];rfl
  lia
 refine wpAny_Dict_walk (knd:=strKind P w) hall (by lia) h0k (by lia) ?_
 refine wpAny_mono (Z4x he ih ks vs k cs σ _ _ E hk hc (by lia) S0 (F.pres p0 S.toStL) q) (fun kvs s1 z=>?_) fun _ _ e=>e
 obtain ⟨ha,hkeys,ms,σ1,hms,q1,rm,S1,p1⟩:=z
 have hnd':((strPairs kvs).map (·.1)).Nodup:=by
  rw [hkeys]
  exact Z2B hnd
 obtain ⟨oD,hoD,hdD⟩:=Heap.dictOf_iff.mp (Heap.DictOf.new (knd:=strKind P w) s.heap)
 have hσD:σ s.heap.objs.size=none:=S.untracked_new (Heap.get?_size _)
 have pD:=p1 _ oD hoD hσD id
 have hDn:s1.heap.DictOf (strKind P w) s.heap.objs.size []:=Heap.dictOf_iff.mpr ⟨oD,pD.1,hdD⟩
 refine display_done_str ha hnd' hDn fun h' hm hs=>?_
 obtain ⟨S2,up⟩:=S1.changed (k:=s1.toks+kvs.length) (h':=h') (Nat.lt_of_lt_of_le S1.toks (Nat.le_add_right _ _)) pD.2 (Z59 S) (Z2Z hDn) hs
 refine ⟨.dict (k.zip ms),σ1,Z7p q1,Z7I (Z5h B S) hm hkeys hnd hmk (by lia) ?_,S2,?_⟩
 ·have:∀(l:List MV) (us:List Value),ZA w σ1 s1.heap l us→ZA w σ1 h' l us:=by
   intro l
   induction l with
   |nil=>intro us r;cases r;exact rfl
   |cons m ms ih=>intro us r;obtain ⟨v,rest,e,x,y⟩:=r;exact ⟨v,rest,e,up _ _ x,ih _ y⟩
  exact this _ _ rm
 ·intro b o e e' nx
  have z:=(p0.trans p1) b o e e' nx
  exact ⟨(hs.2 b (Nat.ne_of_lt (Heap.lt_size e))).trans z.1,z.2⟩
end
end Mine
namespace Mine
theorem Z1b {mo:Option Addr} (f:(Option (Sem Value)×Sem Value)→(Option Addr×List (Sem Value×Sem Value))→Sem (ForInStep (Option Addr×List (Sem Value×Sem Value))))
  (hf:∀(p:Sem Value×Sem Value) (run:List (Sem Value×Sem Value)),run.length+1<17→f (some p.1,p.2) (mo,run)=pure (.yield (mo,run++[p]))):
  ∀(items run:List (Sem Value×Sem Value)) (rest:List (Option (Sem Value)×Sem Value)),run.length+items.length<17→forIn (items.map (fun p=>(some p.1,p.2))++rest) (mo,run) f=forIn rest (mo,run++items) f
 |[],run,rest,_=>by simp
 |p::items,run,rest,h=>by
  rw [List.map_cons,List.cons_append,List.forIn_cons,hf p run (by simp at h;lia),pure_bind]
  have:=Z1b f hf items (run++[p]) rest (by simp at h ⊢;lia)
  simpa using this
section
variable {w:World} {A:Around} {E:Value→Shared→Prop} {s:Shared} {K:Type} [DecidableEq K] {knd:KeyKind P w K}
theorem Z30 {as bs:List (Sem Value×Sem Value)} {p:Sem Value×Sem Value} {Q:Value→Shared→Prop} (ha:as.length=16) (hb0:bs≠[]) (hb:bs.length<17)
  (h:wpAny (model P w) A (subDict (as++[p])) (fun d s1=>wpAny (model P w) A (subDict bs) (fun sub s2=>wpAny (model P w) A (mergeMapping d (.ref sub) false) (fun _ s3=>Q (.ref d) s3) (fun _ _=>False) s2) E s1) E s):
  wpAny (model P w) A (dictDisplay ((as++[p]++bs).map fun p=>(some p.1,p.2))) Q E s:=by
 unfold dictDisplay
 dsimp only
 rw [List.map_append,List.map_append,List.append_assoc]
 rw [Z1b (mo:=none) _ (fun p run h=>by
  have hne:((run++[(p.1,p.2)]).length==17)=false:=by simp;lia
  simp only [hne,Bool.false_eq_true,if_false]) as [] _ (by simp [ha])]
 rw [List.map_cons,List.map_nil,List.cons_append,List.nil_append,List.forIn_cons]
 have h17:(([]++as++[(p.1,p.2)]).length==17)=true:=by simp [ha]
 simp only [h17,if_true]
 have hemp:(([]++as++[(p.1,p.2)]).isEmpty)=false:=by simp
 simp only [List.nil_append]
 have hemp':((as++[(p.1,p.2)]).isEmpty)=false:=by simp
 refine wpAny_bind (wpAny_bind (wpAny_bind ?_))
 rw [hemp']
 simp only [Bool.false_eq_true,if_false]
 refine wpAny_bind (wpAny_mono h (fun d s1 h1=>?_) fun _ _ e=>e)
 refine wpAny_pure (wpAny_pure ?_)
 dsimp only
 rw [←List.append_nil (List.map _ bs),Z1b (mo:=some d) _ (fun p run h=>by
  have hne:((run++[(p.1,p.2)]).length==17)=false:=by simp;lia
  simp only [hne,Bool.false_eq_true,if_false]) bs [] [] (by simpa using hb)]
 rw [List.forIn_nil]
 refine wpAny_pure ?_
 have hb':([]++bs).isEmpty=false:=by simpa using hb0
 dsimp only
 rw [hb']
 simp only [Bool.false_eq_true,if_false,List.nil_append]
 refine wpAny_bind (wpAny_bind (wpAny_holding (wpAny_mono h1 (fun sub s2 h2=>?_) fun _ _ e=>e)))
 refine wpAny_bind (wpAny_onRaise (wpAny_holding (wpAny_mono h2 (fun _ s3 h3=>?_) fun _ _ e=>e.elim)))
 exact wpAny_pure (wpAny_pure h3)
theorem Z1W {d:Addr} {kvs:List (K×Value)} {k:K} {key v:Value} {Q:Unit→Shared→Prop} (hkey:knd.is k key=true) (hm:s.heap.DictOf knd d kvs) (hnot:k∉kvs.map (·.1))
  (hQ:∀h',h'.DictOf knd d (kvs++[(k,v)])→Heap.SameBut d s.heap h'→Q () {s with heap:=h'})
  (hsz:kvs.length≤sizeLine):
  wpAny (model P w) A (dictPut d (knd.hash k) key v) Q E s:=by
 obtain ⟨o,es,ep,ho,hc,hd,hk,hp,hn⟩:=hm
 have hes:es.size≤sizeLine:=by rw [←Array.length_toList,hp.length];exact hsz
 unfold dictPut
 refine wpAny_bind (wpAny_dictFind_of hkey ho hd hk ?_)
 have hidx:(es.findIdx? fun e=>knd.is k e.key)=kvs.findIdx? fun kv=>decide (kv.1=k):=by
  rw [←hp.findIdx k];obtain ⟨l⟩:=es;simp
 have hi:(es.findIdx? fun e=>knd.is k e.key)=none:=by
  rw [hidx,List.findIdx?_eq_none_iff]
  intro x hx
  have:x.1≠k:=fun e=>hnot (e▸List.mem_map_of_mem hx)
  simpa using this
 rw [hi]
 refine wpAny_updateDictKeys (hz:=hes) ho hd (hQ _ ⟨_,_,ep+1,Heap.get?_update_self _ ho (Obj.isFreed_of_dict (Obj.data_mapDictKeys hd _)),
   hc.mapDictKeys _,Obj.data_mapDictKeys hd _,hk.push hkey _,?_,?_⟩ (Heap.SameBut.update ..))
 ·have:=hp.append hkey (knd.hash k) v
  obtain ⟨l⟩:=es
  simpa using this
 ·rw [List.map_append,List.nodup_append]
  refine ⟨hn,by simp,?_⟩
  intro a ha b hb
  simp only [List.map_cons,List.map_nil,List.mem_singleton] at hb
  subst hb
  exact fun e=>hnot (e▸ha)
theorem bc {p:Prop} (h:¬p→False):p:=Classical.byContradiction h
theorem Z2d {d o:Addr} {kvs more:List (K×Value)} {Q:Unit→Shared→Prop} (hdo:d≠o) (hoS:(o==sysModules)=false)
  (hd:s.heap.DictOf knd d kvs) (ho:s.heap.DictOf knd o more) (hne:kvs≠[]) (hnd:((kvs++more).map (·.1)).Nodup)
  (hQ:∀h',h'.DictOf knd d (kvs++more)→Heap.SameBut d s.heap h'→Q () {s with heap:=h'})
  (hsz:kvs.length+more.length≤sizeLine):
  wpAny (model P w) A (mergeMapping d (.ref o) false) Q E s:=by
 obtain ⟨od,esd,epd,hod,hcd,hdd,hkd,hpd,hnd'⟩:=id hd
 obtain ⟨oo,eso,epo,hoo,hco,hdo',hko,hpo,hno⟩:=id ho
 have hlen:more.length=eso.size:=by rw [←hpo.length];simp
 have hemp:esd.isEmpty=false:=by
  have h0:=hpd.length
  cases he:esd.isEmpty with
  |false=>rfl
  |true=>
   have h1:esd= #[]:=Array.isEmpty_iff.mp he
   rw [h1] at h0
   exact absurd (List.length_eq_zero_iff.mp (by simpa using h0.symm)) hne
 unfold mergeMapping
 refine wpAny_bind (wpAny_isInstance ho.typeIs isSubtype_dict_dict ?_)
 dsimp only
 simp only [if_true]
 refine wpAny_bind (wpAny_specialOf ho.typeIs F.slot_dict_iter.lookup (wpAny_bind (wpAny_pure ?_)))
 simp only [beq_self_eq_true,hoS,Bool.false_eq_true,if_false]
 refine wpAny_bind (wpAny_dictEntries hod hdd ?_)
 simp only [hemp,Bool.false_eq_true,if_false]
 refine wpAny_bind (wpAny_dictEntries hoo hdo' ?_)
 refine wpAny_bind (wpAny_dictEpoch hoo hdo' ?_)
 refine wpAny_bind ?_
 rw [List.range_eq_range']
 refine wpAny_forIn_list _
   (fun rest _ s'=>∃h' i,s'={s with heap:=h'}∧rest=List.range' i (eso.size-i)∧i≤eso.size∧h'.DictOf knd d (kvs++more.take i)∧h'.get? o=some oo∧Heap.SameBut d s.heap h')
   _ ?_ ?_ _ _ ⟨s.heap,0,rfl,by simp,Nat.zero_le _,by simpa using hd,hoo,Heap.SameBut.refl _ _⟩
 ·intro x rest b s' hI
  refine bc fun hn=>?_
  obtain ⟨h',i,es',hr,hi,hd',hoo',hs'⟩:=hI
  have hlt:i<eso.size:=by
   rcases Nat.lt_or_ge i eso.size with h|h
   ·exact h
   ·rw [Nat.sub_eq_zero_of_le h] at hr;cases hr
  rw [(Nat.succ_pred_eq_of_pos (Nat.sub_pos_of_lt hlt)).symm,List.range'_succ] at hr
  injection hr with h1 hrest
  cases h1
  have hx:x<more.length:=hlen▸hlt
  have hkv:=List.getElem?_eq_getElem hx
  generalize more[x]=kv at hkv
  obtain ⟨k,v⟩:=kv
  obtain ⟨hkey,hval⟩:=hpo.get? (e:=eso[x]) (by simp [hlt]) hkv
  obtain ⟨k',hkey',hhash⟩:=hko eso[x] (Array.getElem_mem hlt)
  have hk':=knd.inj _ _ _ hkey' hkey
  have htk:more.take (x+1)=more.take x++[(k,v)]:=by rw [List.take_add_one,hkv];rfl
  have hnot:k∉(kvs++more.take x).map (·.1):=fun hm=>by
   have h2:=List.Nodup.sublist (List.Sublist.map Prod.fst (List.Sublist.append (List.Sublist.refl kvs) (List.take_sublist (x+1) more))) hnd
   rw [htk,←List.append_assoc,List.map_append,List.nodup_append] at h2
   exact h2.2.2 _ hm k (List.mem_singleton_self _) rfl
  have hmx:(kvs++more.take x).length≤sizeLine:=by
   rw [List.length_append,List.length_take];exact Nat.le_trans (Nat.add_le_add_left (Nat.min_le_right _ _) _) hsz
  refine hn ?_
  rw [es']
  refine wpAny_bind (wpAny_dictEntries hoo' hdo' ?_)
  rw [Array.getElem?_eq_getElem hlt]
  dsimp only
  rw [hhash,hval,hk']
  refine wpAny_bind (wpAny_holding (Z1W hkey hd' hnot (fun h'' hd'' hs''=>?_) hmx))
  have hoo'':h''.get? o=some oo:=(hs''.2 o (Ne.symm hdo)).trans hoo'
  refine wpAny_bind (wpAny_dictEpoch hoo'' hdo' ?_)
  rw [if_neg (by simp)]
  exact wpAny_pure ⟨h'',x+1,rfl,hrest,hlt,by rw [htk,←List.append_assoc];exact hd'',hoo'',hs'.trans hs''⟩
 ·rintro b s' ⟨h',i,rfl,hr,hi,hd',hoo',hs'⟩
  have hin:eso.size≤i:=by
   rcases Nat.lt_or_ge i eso.size with h|h
   ·rw [(Nat.succ_pred_eq_of_pos (Nat.sub_pos_of_lt h)).symm,List.range'_succ] at hr;exact nomatch hr
   ·exact h
  refine wpAny_pure (hQ h' ?_ hs')
  rw [List.take_of_length_le (hlen▸hin)] at hd';exact hd'
inductive Lits (w:World) (A:Around):List (Sem Value×Sem Value)→List (Str×Int)→Prop
 |nil:Lits w A [] []
 |cons {a b r x i l} (h1:∀s Q E,(∀t k,0<k→Q (.str x t) {s with toks:=k})→wpAny (model P w) A a Q E s)
   (h2:∀s Q E,(∀t k,0<k→Q (.int i t) {s with toks:=k})→wpAny (model P w) A b Q E s) (h3:Lits w A r l):Lits w A ((a,b)::r) ((x,i)::l)
inductive KvOk:List (Str×Int)→List (Str×Value)→Prop
 |nil:KvOk [] []
 |cons {x i t l r} (h:KvOk l r):KvOk ((x,i)::l) ((x,.int i t)::r)
theorem KvOk.fst {l:List (Str×Int)} {r:List (Str×Value)} (h:KvOk l r):r.map (·.1)=l.map (·.1):=by
 induction h with
 |nil=>rfl
 | @cons x _ _ _ _ _ ih=>exact congrArg (x:: ·) ih
theorem KvOk.append {l l':List (Str×Int)} {r r':List (Str×Value)} (h:KvOk l r) (h':KvOk l' r'):KvOk (l++l') (r++r'):=by
 induction h with
 |nil=>exact h'
 |cons _ ih=>exact .cons ih
theorem Lits.length {p:List (Sem Value×Sem Value)} {l:List (Str×Int)} (h:Lits w A p l):p.length=l.length:=by
 induction h with
 |nil=>rfl
 |cons _ _ _ ih=>exact congrArg Nat.succ ih
theorem Lits.split {p':List (Sem Value×Sem Value)}:∀{p:List (Sem Value×Sem Value)} {l:List (Str×Int)},Lits w A (p++p') l→Lits w A p (l.take p.length)∧Lits w A p' (l.drop p.length)
 |[],_,h=>⟨.nil,h⟩
 |(a,b)::r,_,.cons h1 h2 h3=>⟨.cons h1 h2 (Lits.split h3).1,(Lits.split h3).2⟩
theorem Z9z {p:List (Sem Value×Sem Value)} {l:List (Str×Int)} (hl:Lits w A p l):∀(s:Shared) (Q:List (Value×Value)→Shared→Prop) (E:Value→Shared→Prop),0<s.toks→
  (∀kvs k,0<k→allStrKeys kvs=true→KvOk l (strPairs kvs)→Q kvs {s with toks:=k})→wpAny (model P w) A (evalPairs p) Q E s:=by
 induction hl with
 |nil=>exact fun s Q E hk h=>evalPairs_nil (h [] s.toks hk rfl .nil)
 |cons h1 h2 _ ih=>
  exact fun s Q E hk h=>evalPairs_cons (h1 _ _ _ fun t k hk1=>h2 _ _ _ fun t' k' hk2=>ih _ _ _ hk2 fun kvs k3 hk3 ha hv=>h _ k3 hk3 ha (.cons hv))
theorem Z5y {p:List (Sem Value×Sem Value)} {l:List (Str×Int)} {Q:Addr→Shared→Prop} (hl:Lits w A p l) (h15:p.length≤15) (hnd:(l.map (·.1)).Nodup) (hk:0<s.toks)
  (h:∀h' k kvs,0<k→KvOk l kvs→h'.DictOf (strKind P w) s.heap.objs.size kvs→(∀b o,s.heap.get? b=some o→h'.get? b=some o)→Q s.heap.objs.size {s with heap:=h',toks:=k}):
  wpAny (model P w) A (subDict p) Q E s:=by
 refine wpAny_subDict (knd:=strKind P w) h15 (Z9z hl _ _ _ hk fun vs k hk' ha hv=>?_)
 refine display_done_str ha (by rw [hv.fst];exact hnd) (Heap.DictOf.new _) fun h' hm hs=>?_
 exact h h' _ _ (Nat.lt_of_lt_of_le hk' (Nat.le_add_right _ _)) hv hm fun b o e=>(hs.2 b (Nat.ne_of_lt (Heap.lt_size e))).trans (Heap.get?_push_of_some _ e)
theorem Z8f {D:Addr} {p:List (Sem Value×Sem Value)} {l:List (Str×Int)} (hl:Lits w A p l):∀(acc:List (Str×Value)) (s:Shared) (Q:PUnit→Shared→Prop) (E:Value→Shared→Prop),0<s.toks→
  ((acc.map (·.1))++l.map (·.1)).Nodup→acc.length+l.length≤sizeLine→s.heap.DictOf (strKind P w) D acc→
  (∀h' k kvs,0<k→KvOk l kvs→h'.DictOf (strKind P w) D (acc++kvs)→Heap.SameBut D s.heap h'→Q PUnit.unit {s with heap:=h',toks:=k})→
  wpAny (model P w) A (forIn p PUnit.unit fun (x:Sem Value×Sem Value) (_:PUnit)=>(do
    let kv ←x.1
    let vv ←holding [kv] x.2
    holding [kv,vv] (dictSet D kv vv)
    pure (ForInStep.yield PUnit.unit):Sem (ForInStep PUnit))) Q E s:=by
 induction hl with
 |nil=>
  intro acc s Q E hk hnd hsz hd h
  rw [List.forIn_nil]
  exact wpAny_pure (h s.heap s.toks [] hk .nil (by rwa [List.append_nil]) (Heap.SameBut.refl _ _))
 | @cons a b r x i l h1 h2 _ ih=>
  intro acc s Q E hk hnd hsz hd h
  rw [List.length_cons] at hsz
  rw [List.forIn_cons]
  refine wpAny_bind (wpAny_bind (h1 _ _ _ fun t k hk1=>wpAny_bind (wpAny_holding (h2 _ _ _ fun t' k' hk2=>?_))))
  have hx:x∉acc.map (·.1):=by
   intro hm
   rw [List.nodup_append] at hnd
   exact hnd.2.2 x hm x (by simp) rfl
  have hst:∀v,stored acc x v=acc++[(x,v)]:=by
   intro v
   unfold stored
   rw [if_neg]
   rw [List.any_eq_true]
   rintro ⟨kv,hkv,he⟩
   exact hx (List.mem_map.mpr ⟨kv,hkv,of_decide_eq_true he⟩)
  refine wpAny_bind (wpAny_holding (wpAny_dictSet_pairs (knd:=strKind P w) (k:=x) (kvs:=acc) (strKind_is P w x t) hd (fun h₁ hm₁ hs₁=>?_) (by lia)))
  refine wpAny_pure ?_
  rw [hst] at hm₁
  refine ih (acc++[(x,.int i t')]) _ Q E (Nat.succ_pos _) ?_ (by rw [List.length_append];simp;lia) hm₁ fun h' k3 kvs hk3 hv hm hs=>?_
  ·rw [List.map_append,List.append_assoc];exact hnd
  ·exact h h' k3 ((x,.int i t')::kvs) hk3 (.cons hv) (by simpa using hm) (hs₁.trans hs)
theorem Z6s {p:List (Sem Value×Sem Value)} {l:List (Str×Int)} {Q:Addr→Shared→Prop} (hl:Lits w A p l) (h15:15<p.length) (hsz:p.length≤100) (hnd:(l.map (·.1)).Nodup) (hk:0<s.toks)
  (h:∀h' k kvs,0<k→KvOk l kvs→h'.DictOf (strKind P w) s.heap.objs.size kvs→(∀b o,s.heap.get? b=some o→h'.get? b=some o)→Q s.heap.objs.size {s with heap:=h',toks:=k}):
  wpAny (model P w) A (subDict p) Q E s:=by
 unfold subDict
 refine wpAny_bind (wpAny_alloc ?_)
 refine wpAny_bind (wpAny_holding ?_)
 rw [if_neg (by lia)]
 refine wpAny_bind (wpAny_rule (wpAny_bind ?_))
 refine Z8f hl [] _ _ _ hk (by simpa using hnd) (by rw [List.length_nil,←hl.length,sizeLine_eq];lia) (Heap.DictOf.new _) fun h' k kvs hk' hv hm hs=>?_
 exact wpAny_pure (wpAny_pure (h h' k kvs hk' hv (by simpa using hm) fun b o e=>(hs.2 b (Nat.ne_of_lt (Heap.lt_size e))).trans (Heap.get?_push_of_some _ e)))
end
section
variable {w:World} {h₀:Heap} {os₀:OsState} {d:Nat} {A:Around} {T:List Str} {N:Names} {n:Nat}
theorem Z6h {v:PySem.Expr} {vs:List PySem.Expr} (h:Z28 (v::vs)=true):∃i k p,v=.Constant (.int i) k p∧Z28 vs=true:=by
 obtain ⟨h1,h2⟩:=Bool.and_eq_true_iff.1 h
 obtain ⟨i,hi⟩:=Option.isSome_iff_exists.1 h1
 obtain ⟨k,p,e⟩:=Z3f hi
 exact ⟨i,k,p,e,h2⟩
theorem Z9y {sc:Scope} {env:Env} {pos:Pos}:∀(ks:List (Option PySem.Expr)) (vs:List PySem.Expr) (k:List (List Nat)) (cs:List CE),Z0I ks=some k→Z28 vs=true→ks.length=vs.length→Z0S (Zc N n sc) vs=some cs→
  ∃l,Lits w A (pairTrees ks vs env pos) l∧l.map (·.1)=k.map lstr∧cs=l.map (fun p=>.cst (.int p.2))
 |[],[],k,cs,hk,_,_,hc=>by cases hk;cases hc;exact ⟨[],.nil,rfl,rfl⟩
 |[],_::_,_,_,_,_,hl,_=>by simp at hl
 |_::_,[],_,_,_,_,hl,_=>by simp at hl
 |ko::ks,v::vs,k,cs,hk,hi,hl,hc=>by
  obtain ⟨x,i,p,r,rfl,hx,hk',rfl⟩:=Z1d hk
  obtain ⟨c,cr,h1,h2,rfl⟩:=ZH hc
  obtain ⟨j,kk,pp,rfl,hi'⟩:=Z6h hi
  obtain ⟨l,hL,hkeys,rfl⟩:=Z9y (sc:=sc) (env:=env) (pos:=pos) ks vs r cr hk' hi' (by simpa using hl) h2
  have hcc:c=.cst (.int j):=by
   cases n with
   |zero=>cases h1
   |succ n=>cases h1;rfl
  refine ⟨(x,j)::l,.cons (fun s Q E h=>Calls.Constant_str (h _ _ (Nat.succ_pos _))) (fun s Q E h=>wpAny_bind (wpAny_Constant_int (wpAny_bind (wpAny_standAt (wpAny_pure (h _ _ (Nat.succ_pos _))))))) hL,?_,?_⟩
  ·simp [hkeys,Z3Q]
  ·simp [hcc]
theorem Z5p {C:Zv} {ρ:Loc} {σ:Z4} {Q:List MV→Z4→Prop}:∀(l:List (Str×Int)),wpEs C (l.map fun p=>.cst (.int p.2)) ρ σ Q→Q (l.map fun p=>.int p.2) σ
 |[],h=>by simpa [wpEs] using h
 |p::r,h=>by
  simp only [List.map_cons,wpEs,wpE] at h
  exact Z5p (Q:=fun vs σ=>Q (.int p.2::vs) σ) r h
theorem Zd4 {σ:Z4} {h:Heap} {l:List (Str×Int)} {kvs:List (Str×Value)} (hh:KvOk l kvs):ZA w σ h (l.map fun p=>.int p.2) (kvs.map (·.2)):=by
 induction hh with
 |nil=>rfl
 |cons _ ih=>exact ⟨_,_,rfl,⟨_,rfl⟩,ih⟩
theorem Z5C {mg mb:Str→Option Value} (B:Base w h₀ mg mb) {sc:Scope} {ks:List (Option PySem.Expr)} {vs:List PySem.Expr} {pos:Pos} {k:List (List Nat)} {cs:List CE}
  (hk:Z0I ks=some k) (hc:Z0S (Zc N n sc) vs=some cs) (hl:k.length=vs.length) (hnd:k.Nodup) (hmk:k.any dictMarks.contains=true) (h17:17<k.length) (h32:k.length≤32) (hi:Z28 vs=true):
  SE w h₀ os₀ d A T sc (.Dict ks vs pos) (.pr (.mkDict k) cs):=by
 intro env ρ σ s Q E he S F q
 simp only [wpE] at q
 obtain ⟨hall,hkl⟩:=Z1B hk
 have hlp:=pairTrees_length ks vs env pos hall (by lia)
 obtain ⟨l,hL,hkeys,rfl⟩:=Z9y (w:=w) (A:=A) (sc:=sc) (env:=env) (pos:=pos) ks vs k cs hk hi (by lia) hc
 have q:=Z5p l q
 rw [arm_eval_Dict,zip_pairTrees ks vs env pos hall (by lia)]
 obtain ⟨as,p,bs,hsplit,ha,hb⟩:∃as p bs,pairTrees ks vs env pos=as++[p]++bs∧as.length=16∧bs.length+17=k.length:=by
  refine ⟨(pairTrees ks vs env pos).take 16,(pairTrees ks vs env pos)[16]'(by lia),(pairTrees ks vs env pos).drop 17,?_,by rw [List.length_take];lia,by rw [List.length_drop];lia⟩
  rw [List.take_append_getElem,List.take_append_drop]
 rw [hsplit] at hL ⊢
 obtain ⟨hL1,hL2⟩:=hL.split
 have hl17:(as++[p]).length=17:=by simp [ha]
 rw [hl17] at hL1 hL2
 have hndl:(l.map (·.1)).Nodup:=by rw [hkeys];exact Z2B hnd
 have hnd12:((l.take 17).map (·.1)++(l.drop 17).map (·.1)).Nodup:=by rw [←List.map_append,List.take_append_drop];exact hndl
 have hnd1:((l.take 17).map (·.1)).Nodup:=(List.nodup_append.mp hnd12).1
 have hnd2:((l.drop 17).map (·.1)).Nodup:=(List.nodup_append.mp hnd12).2.1
 refine wpAny_bind (wpAny_standAt (Z30 ha (fun e=>by rw [e] at hb;simp at hb;lia) (by lia) ?_))
 refine Z6s hL1 (by lia) (by lia) hnd1 S.toks fun h1 k1 kvs1 hk1 hv1 hm1 g1=>?_
 refine Z5y hL2 (by lia) hnd2 hk1 fun h2 k2 kvs2 hk2 hv2 hm2 g2=>?_
 have hlt:s.heap.objs.size<h1.objs.size:=by obtain ⟨o,_,_,ho,_⟩:=hm1;exact Heap.lt_size ho
 have hm1':h2.DictOf (strKind P w) s.heap.objs.size kvs1:=by
  obtain ⟨o,es,ep,ho,r⟩:=hm1
  exact ⟨o,es,ep,g2 _ _ ho,r⟩
 have hS1:=S.grow (k:=k1) hk1 g1
 have hkl1:kvs1.length=17:=by
  have:=congrArg List.length hv1.fst
  simp only [List.length_map,List.length_take] at this
  have:=hL1.length;have:=hL2.length
  simp only [List.length_take,List.length_drop] at*
  lia
 have hkl2:kvs2.length≤15:=by
  have:=congrArg List.length hv2.fst
  simp only [List.length_map,List.length_drop] at this
  have:=hL1.length;have:=hL2.length
  simp only [List.length_take,List.length_drop] at*
  lia
 have hv:=hv1.append hv2
 rw [List.take_append_drop] at hv
 refine Z2d (knd:=strKind P w) (Nat.ne_of_lt hlt) ?_ hm1' hm2 (fun e=>by rw [e] at hkl1;simp at hkl1) (by rw [hv.fst];exact hndl) (fun h3 hm3 hs3=>?_) (by rw [sizeLine_eq];lia)
 ·have:=Z5h B hS1
  exact beq_eq_false_iff_ne.mpr this
 have g3:∀b o,s.heap.get? b=some o→h3.get? b=some o:=fun b o e=>(hs3.2 b (Nat.ne_of_lt (Heap.lt_size e))).trans (g2 _ _ (g1 _ _ e))
 refine ⟨.dict (k.zip (l.map fun (p:Str×Int)=>MV.int p.2)),σ,Z7p q,Z7I (Z5h B S) hm3 (by rw [hv.fst,hkeys]) hnd hmk ?_ (Zd4 hv),S.grow (k:=k2) hk2 g3,Pres.of_keeps g3⟩
 have:=congrArg List.length hkeys
 simpa using this
end
end Mine
namespace Mine
noncomputable def Z9G:List String:=["list_iterator","tuple_iterator","range_iterator","str_ascii_iterator","str_iterator"]
noncomputable def Z1V (h:Heap) (I:Addr):Prop:=∃o k fs,h.get? I=some o∧k∈Z9G∧o.cls=.type k∧o.data=.fields fs
theorem Z1V.notVal {w:World} {h:Heap} {I:Addr} (x:Z1V h I):ZU w h I:=by
 obtain ⟨o,k,fs,ho,hk,hc,hd⟩:=x
 refine ⟨fun vs y=>?_,fun vs y=>?_,fun n t u z y=>?_,fun f y _ _=>?_⟩
 ·obtain ⟨o',ho',_,n,hd'⟩:=y
  exact Data.noConfusion (ddt ho ho' hd hd')
 ·obtain ⟨o',ho',_,n,hd'⟩:=y
  exact Data.noConfusion (ddt ho ho' hd hd')
 ·unfold IsRange at y
  rw [ho] at y;cases y
  have:Value.type k=Value.type "range" :=hc.symm
  cases this
  exact absurd hk (by decide)
 ·obtain ⟨o',es,ep,ho',_,hd',_⟩:=y
  exact Data.noConfusion (ddt ho ho' hd hd')
theorem Z1V.go {w:World} {A:Around} {I T:Addr} {s:Shared} {elts:List PySem.Expr} {k:Nat} {pos:Pos} {Q:Unit→Shared→Prop} {E:Value→Shared→Prop} (x:Z1V s.heap I) (h:Q () s):
  wpAny (model P w) A (letOwnedTupleGo (.Tuple elts k pos) (.ref I) (.ref T)) Q E s:=by
 obtain ⟨o,k,fs,ho,hk,hc,hd⟩:=x
 unfold letOwnedTupleGo
 refine wpAny_bind (wpAny_load ho ?_)
 rw [hc,hd]
 dsimp only
 rw [if_neg]
 ·exact wpAny_pure h
 ·simp only [Z9G,List.mem_cons,List.not_mem_nil,or_false] at hk
  rcases hk with rfl|rfl|rfl|rfl|rfl<;>simp
section
variable {w:World} {h₀:Heap} {os₀:OsState} {A:Around} {σ:Z4} {s:Shared}
structure ItOk (w:World) (A:Around) (I:Addr) (m:MV) (v:Value) (items:List MV) (Pf:Nat→Value→Prop) (Stt:Nat→Heap→Prop):Prop where
 item:∀i (s:Shared) (Q:Option Value→Shared→Prop) (E:Value→Shared→Prop),i<items.length→Stt i s.heap→0<s.toks→
  (∀u h' k,0<k→Pf i u→Stt (i+1) h'→(∀b o,b≠I→s.heap.get? b=some o→h'.get? b=some o)→Q (some u) {s with heap:=h',toks:=k})→wpAny (model P w) A (pyNext (.ref I)) Q E s
 done:∀(s:Shared) (Q:Option Value→Shared→Prop) (E:Value→Shared→Prop),Stt items.length s.heap→0<s.toks→
  (∀h' k,0<k→(∀b o,b≠I→s.heap.get? b=some o→h'.get? b=some o)→Q none {s with heap:=h',toks:=k})→wpAny (model P w) A (pyNext (.ref I)) Q E s
 self:∀i (s:Shared) (Q:Value→Shared→Prop) (E:Value→Shared→Prop),Stt i s.heap→Q (.ref I) s→wpAny (model P w) A (pyIter (.ref I)) Q E s
 it:∀i h,Stt i h→Z1V h I
 fr:∀i X σ h σ' h',StL w σ h→Rep w σ h m v→Stt i h→σ I=none→Pres X σ h σ' h'→(∀b,X b→ZU w h b)→¬X I→Stt i h'
 rep:∀i j u σ h,Pf i u→Stt j h→(hi:i<items.length)→Rep w σ h m v→Rep w σ h items[i] u
theorem Z3U {I:Addr} {fp:List Addr} {n:Nat} {m:MV} {v:Value} {items:List MV} {Pf:Nat→Value→Prop} {Stt:Nat→Heap→Prop} (W:Walks P w A I fp [I] n Pf Stt) (hn:n=items.length)
  (it:∀i h,Stt i h→Z1V h I)
  (fr:∀i X σ h σ' h',StL w σ h→Rep w σ h m v→Stt i h→σ I=none→Pres X σ h σ' h'→(∀b,X b→ZU w h b)→¬X I→Stt i h')
  (rep:∀i j u σ h,Pf i u→Stt j h→(hi:i<items.length)→Rep w σ h m v→Rep w σ h items[i] u):ItOk w A I m v items Pf Stt where
 item:=fun i s Q E hi st hk hQ=>Z0B hk (W.item i s _ _ (hn▸hi) st fun u h' k hP hS hg=>fun hk'=>hQ u h' k hk' hP hS fun b o hb=>hg b o (by simpa using hb))
 done:=fun s Q E st hk hQ=>Z0B hk (W.done s _ _ (hn▸st) fun h' k hg=>fun hk'=>hQ h' k hk' fun b o hb=>hg b o (by simpa using hb))
 self:=W.self
 it:=it
 fr:=fr
 rep:=rep
theorem Z7u {m:MV} {v:Value} {items:List MV} {Q:Value→Shared→Prop} {E:Value→Shared→Prop} (S:St w h₀ os₀ σ s) (r:Rep w σ s.heap m v) (hi:iterOf m=some items) (hh:A.handled=none)
  (h:∀o Pf Stt,ItOk w A s.heap.objs.size m v items Pf Stt→Stt 0 (s.heap.push o)→Q (.ref s.heap.objs.size) {s with heap:=s.heap.push o}):
  wpAny (model P w) A (pyIter v) Q E s:=by
 cases m with
 |none=>cases hi
 |bool b=>cases hi
 |int i=>cases hi
 |lst a=>cases hi
 |dict kvs=>cases hi
 |tup l=>
  cases hi
  obtain ⟨hl,a,vs,rfl,hc,rl⟩:=r
  have hlt:a<s.heap.objs.size:=by obtain ⟨_,e,_⟩:=hc;exact Heap.lt_size e
  have hlen:=rl.length
  simp only [Array.length_toList] at hlen
  refine wpAny_pyIter_tuple hc (h _ _ _ (Z3U (Walks.tuple hh s.heap.objs.size a (Nat.ne_of_lt hlt) vs) hlen (fun i h st=>?_) (fun i X σ h σ' h' SL' r' st hσ p hX hI=>?_) (fun i j u σ' h' hP st hi' r'=>?_)) ⟨⟨_,Heap.get?_push_size _ rfl,rfl,rfl⟩,hc.push _⟩)
  ·obtain ⟨⟨o,ho,hcl,hd⟩,_⟩:=st
   exact ⟨o,"tuple_iterator",_,ho,by decide,hcl,hd⟩
  ·obtain ⟨⟨o,ho,hcl,hd⟩,ht⟩:=st
   exact ⟨⟨o,(p _ _ ho hσ hI).1,hcl,hd⟩,p.tuple SL' hX ht⟩
  ·obtain ⟨_,a',vs',e,hc',rl'⟩:=r'
   cases e
   have hv:vs'=vs:=by
    obtain ⟨o1,ho1,_,n1,hd1⟩:=hc'
    obtain ⟨o2,ho2,_,n2,hd2⟩:=st.2
    rw [ho1] at ho2;cases ho2;rw [hd1] at hd2;cases hd2;rfl
   subst hv
   obtain ⟨u',hu',ru⟩:=rl'.at (List.getElem?_eq_getElem hi')
   rw [Array.getElem?_toList,hP] at hu'
   cases hu';exact ru
 |fl l=>
  cases hi
  obtain ⟨hl,a,vs,rfl,hσa,hc,rl⟩:=r
  have hlt:a<s.heap.objs.size:=by obtain ⟨_,e,_⟩:=hc;exact Heap.lt_size e
  have hlen:=rl.length
  simp only [Array.length_toList] at hlen
  refine wpAny_pyIter_list hc (h _ _ _ (Z3U (Walks.list hh s.heap.objs.size a (Nat.ne_of_lt hlt) vs) hlen (fun i h st=>?_) (fun i X σ h σ' h' SL' r' st hσ p hX hI=>?_) (fun i j u σ' h' hP st hi' r'=>?_)) ⟨⟨_,Heap.get?_push_size _ rfl,rfl,rfl⟩,hc.push _⟩)
  ·obtain ⟨⟨o,ho,hcl,hd⟩,_⟩:=st
   exact ⟨o,"list_iterator",_,ho,by decide,hcl,hd⟩
  ·obtain ⟨⟨o,ho,hcl,hd⟩,ht⟩:=st
   obtain ⟨_,a',vs',e,hσa',_⟩:=r'
   cases e
   exact ⟨⟨o,(p _ _ ho hσ hI).1,hcl,hd⟩,(p.list hX hσa' ht).1⟩
  ·obtain ⟨_,a',vs',e,_,hc',rl'⟩:=r'
   cases e
   have hv:vs'=vs:=by
    obtain ⟨o1,ho1,_,n1,hd1⟩:=hc'
    obtain ⟨o2,ho2,_,n2,hd2⟩:=st.2
    rw [ho1] at ho2;cases ho2;rw [hd1] at hd2;cases hd2;rfl
   subst hv
   obtain ⟨u',hu',ru⟩:=rl'.at (List.getElem?_eq_getElem hi')
   rw [Array.getElem?_toList,hP] at hu'
   cases hu';exact ru
 |str x=>
  cases hi
  obtain ⟨hl,t,rfl⟩:=r
  have hn:(lstr x).cps.size=(x.map fun c=>MV.str [c]).length:=by simp [lstr]
  have hrep:∀(i j:Nat) (u:Value) (σ:Z4) (h:Heap),SignAt (lstr x) i u→(hi:i<(x.map fun c=>MV.str [c]).length)→Rep w σ h (x.map fun c=>MV.str [c])[i] u:=by
   intro i j u σ' h' ⟨c,t',hc,hu⟩ hi'
   rw [List.getElem_map]
   have:x[i]'(by simpa using hi')=c:=by
    simp only [lstr,List.getElem?_toArray] at hc
    rw [List.getElem?_eq_getElem (by simpa using hi')] at hc
    exact Option.some.inj hc
   rw [this]
   exact ⟨by unfold SL;simp,t',hu⟩
  refine wpAny_pyIter_strU ?_
  by_cases ha:(lstr x).cps.all (· <128)=true
  ·have hk:strIterType (lstr x)= "str_ascii_iterator" :=by unfold strIterType;rw [if_pos ha]
   rw [hk]
   refine h _ _ _ (Z3U (Walks.strAscii hh s.heap.objs.size (lstr x) t) hn (fun i h st=>?_) (fun i X σ h σ' h' SL' r' st hσ p hX hI=>?_) (fun i j u σ' h' hP st hi' r'=>hrep i j u σ' h' hP hi')) ⟨_,Heap.get?_push_size _ rfl,rfl,rfl⟩
   ·obtain ⟨o,ho,hcl,hd⟩:=st
    exact ⟨o,_,_,ho,by decide,hcl,hd⟩
   ·obtain ⟨o,ho,hcl,hd⟩:=st
    exact ⟨o,(p _ _ ho hσ hI).1,hcl,hd⟩
  ·have hk:strIterType (lstr x)= "str_iterator" :=by unfold strIterType;rw [if_neg ha]
   rw [hk]
   refine h _ _ _ (Z3U (Walks.strWide hh s.heap.objs.size (lstr x) t) hn (fun i h st=>?_) (fun i X σ h σ' h' SL' r' st hσ p hX hI=>?_) (fun i j u σ' h' hP st hi' r'=>hrep i j u σ' h' hP hi')) ⟨_,Heap.get?_push_size _ rfl,rfl,rfl⟩
   ·obtain ⟨o,ho,hcl,hd⟩:=st
    exact ⟨o,_,_,ho,by decide,hcl,hd⟩
   ·obtain ⟨o,ho,hcl,hd⟩:=st
    exact ⟨o,(p _ _ ho hσ hI).1,hcl,hd⟩
 |rng n=>
  cases hi
  obtain ⟨hb,a,t,u,x,rfl,hr⟩:=r
  have hsm:Builtin.Range.small 0 n 1=true:=small_one (by omega) (by omega) (by omega) (by omega)
  have hsz:Builtin.Range.rangeSize 0 n 1=(n.toNat:Int):=by rw [rangeSize_one];split<;>omega
  refine wpAny_pyIter_range hr hsm ?_
  rw [hsz]
  refine h _ _ _ (Z3U (Walks.range hh s.heap.objs.size 0 1 n.toNat) (by simp) (fun i h st=>?_) (fun i X σ h σ' h' SL' r' st hσ p hX hI=>?_) (fun i j u σ' h' hP st hi' r'=>?_)) ?_
  ·exact ⟨_,"range_iterator",_,st,by decide,rfl,rfl⟩
  ·exact (p _ _ st hσ hI).1
  ·obtain ⟨t',rfl⟩:=hP
   rw [List.getElem_map,List.getElem_range]
   exact ⟨t',by simp⟩
  ·show IsRangeIter _ _ (0+((0:Nat):Int)*1) ((n.toNat:Int)-((0:Nat):Int)) 1
   simp only [Int.natCast_zero,Int.zero_mul,Int.sub_zero,Int.add_zero]
   exact Heap.get?_push_size _ rfl
end
end Mine
namespace Mine
section
variable {w:World} {h₀:Heap} {os₀:OsState} {d:Nat} {A:Around} {T:List Str} {N:Names} {n:Nat}
theorem St.moved {σ:Z4} {s:Shared} (S:St w h₀ os₀ σ s) {D:Addr} {h':Heap} {k:Nat} (hk:0<k) (h0:σ D=none) (hf:h₀.get? D=none) (hs:∀b o,b≠D→s.heap.get? b=some o→h'.get? b=some o)
  (hn:ZU w s.heap D):St w h₀ os₀ σ {s with heap:=h',toks:=k}∧Pres (fun b=>b=D) σ s.heap σ h':=by
 have p:Pres (fun b=>b=D) σ s.heap σ h':=fun b o e e' nx=>⟨hs b o nx e,e'⟩
 have hX:∀b,b=D→ZU w s.heap b:=fun b e=>e▸hn
 refine ⟨⟨⟨fun a l e=>?_⟩,fun b o e=>?_,S.sep,S.gens,S.os,hk⟩,p⟩
 ·have ha:a≠D:=fun q=>by rw [q,h0] at e;cases e
  obtain ⟨hl,vs,x,y⟩:=S.lists a l e
  exact ⟨hl,vs,x.at fun o ho=>hs a o ha ho,ZA.pres p S.toStL hX l y⟩
 ·have hb:b≠D:=fun q=>by rw [q,hf] at e;cases e
  exact hs b o hb (S.keep b o e)
theorem Zu.presX {X:Addr→Prop} {σ σ':Z4} {h h':Heap} {env:Env} {ρ:Loc} (F:Zu w T env ρ σ h) (p:Pres X σ h σ' h') (S:StL w σ h) (hX:∀b,X b→ZU w h b)
  (hL:∀m,h.Ns env.locals m→¬X env.locals) (hC:∀c v,h.IsCell c v→¬X c):Zu w T env ρ σ' h':=by
 obtain ⟨m,cm,hn,hc,hv⟩:=F
 refine ⟨m,cm,p.ns S (hL m hn) hn,fun n c e=>p.cell S (hC c _ (hc n c e)) (hc n c e),fun i x v e1 e2=>?_⟩
 obtain ⟨a,b⟩:=hv i x v e1 e2
 exact ⟨fun k=>let ⟨u,e,r⟩:=a k;⟨u,e,Rep.pres p S hX _ r⟩,fun k=>let ⟨c,u,e,e',r⟩:=b k;⟨c,u,e,e',Rep.pres p S hX _ r⟩⟩
theorem Zu.presY {C:Addr} {σ σ':Z4} {h h':Heap} {env:Env} {ρ:Loc} (F:Zu w T env ρ σ h) (p:Pres (fun b=>b=C) σ h σ' h') (S:StL w σ h) (hX:∀b,b=C→ZU w h b)
  (hL:env.locals≠C) (hC:∀n c,env.cells.lookup n=some c→c≠C):Zu w T env ρ σ' h':=by
 obtain ⟨m,cm,hn,hc,hv⟩:=F
 refine ⟨m,cm,p.ns S hL hn,fun n c e=>p.cell S (hC n c e) (hc n c e),fun i x v e1 e2=>?_⟩
 obtain ⟨a,b⟩:=hv i x v e1 e2
 exact ⟨fun k=>let ⟨u,e,r⟩:=a k;⟨u,e,Rep.pres p S hX _ r⟩,fun k=>let ⟨c,u,e,e',r⟩:=b k;⟨c,u,e,e',Rep.pres p S hX _ r⟩⟩
theorem Z0q {x:Str} {k:NameKind}:∀{l:List (Str×NameKind)},l.lookup x=some k→(x,k)∈l
 |[],h=>by cases h
 |(y,j)::r,h=>by
  simp only [List.lookup_cons] at h
  cases hx:x==y with
  |true=>rw [hx] at h;cases h;rw [beq_iff_eq] at hx;subst hx;exact List.mem_cons_self
  |false=>rw [hx] at h;exact List.mem_cons_of_mem _ (Z0q h)
theorem Z0u {env:Env}:∀{names:List (Str×NameKind)} {x:Str},
  (names.map fun (n,k)=>if (k==NameKind.free&&env.scope.kind== .function&&env.kindOf n==some .cell) then (n,NameKind.cell) else (n,k)).lookup x=
   (names.lookup x).map fun k=>if (k==NameKind.free&&env.scope.kind== .function&&env.kindOf x==some .cell) then NameKind.cell else k
 |[],_=>rfl
 |(n,k)::r,x=>by
  have ih:= @Z0u env r x
  show List.lookup x ((if (k==NameKind.free&&env.scope.kind== .function&&env.kindOf n==some .cell)=true then (n,NameKind.cell) else (n,k))::_)=_
  cases hx:x==n with
  |true=>
   rw [beq_iff_eq] at hx;subst hx
   by_cases hc:(k==NameKind.free&&env.scope.kind== .function&&env.kindOf x==some .cell)=true
   ·rw [if_pos hc];simp only [List.lookup_cons,beq_self_eq_true,Option.map_some,if_pos hc]
   ·rw [if_neg hc];simp only [List.lookup_cons,beq_self_eq_true,Option.map_some,if_neg hc]
  |false=>
   by_cases hc:(k==NameKind.free&&env.scope.kind== .function&&env.kindOf n==some .cell)=true
   ·rw [if_pos hc];simp only [List.lookup_cons,hx];exact ih
   ·rw [if_neg hc];simp only [List.lookup_cons,hx];exact ih
theorem Z2I {env:Env}:∀(names:List (Str×NameKind)) (acc:List (Str×Addr)),(∀p∈names,p.2=.free→∃c,env.cells.lookup p.1=some c)→
  (∀n c,acc.lookup n=some c→env.cells.lookup n=some c)→
  ∃cl,(forIn names acc fun (x:Str×NameKind) (cs:List (Str×Addr))=>(if (x.2==NameKind.free)=true then (do let a ←cellOf env x.1;pure (ForInStep.yield ((x.1,a)::cs))) else pure (ForInStep.yield cs):Sem (ForInStep (List (Str×Addr)))))=pure cl∧
   (∀n c,cl.lookup n=some c→env.cells.lookup n=some c)∧(∀n,(n,NameKind.free)∈names→∃c,cl.lookup n=some c)∧(∀n c,acc.lookup n=some c→∃c',cl.lookup n=some c')
 |[],acc,_,ha=>⟨acc,rfl,ha,fun _ h=>by simp at h,fun n c h=>⟨c,h⟩⟩
 |(y,k)::r,acc,hn,ha=>by
  rw [List.forIn_cons]
  by_cases hk:k=.free
  ·subst hk
   obtain ⟨c,hc⟩:=hn (y,.free) List.mem_cons_self rfl
   obtain ⟨cl,h1,h2,h3,h4⟩:=Z2I r ((y,c)::acc) (fun p hp=>hn p (List.mem_cons_of_mem _ hp)) (fun n c' h=>by
    simp only [List.lookup_cons] at h
    cases hx:n==y with
    |true=>rw [hx] at h;cases h;rw [beq_iff_eq] at hx;subst hx;exact hc
    |false=>rw [hx] at h;exact ha n c' h)
   refine ⟨cl,?_,h2,fun n hm=>?_,fun n c' h=>?_⟩
   ·simp only [beq_self_eq_true,if_true,cellOf,hc,pure_bind]
    exact h1
   ·rcases List.mem_cons.mp hm with e|hm
    ·cases e;exact h4 y c (by simp)
    ·exact h3 n hm
   ·cases hx:n==y with
    |true=>exact h4 n c (by simp [List.lookup_cons,hx])
    |false=>exact h4 n c' (by simp [List.lookup_cons,hx,h])
  ·have hk':(k==NameKind.free)=false:=by simpa using hk
   obtain ⟨cl,h1,h2,h3,h4⟩:=Z2I r acc (fun p hp=>hn p (List.mem_cons_of_mem _ hp)) ha
   refine ⟨cl,?_,h2,fun n hm=>?_,h4⟩
   ·simp only [hk',Bool.false_eq_true,if_false,pure_bind]
    exact h1
   ·rcases List.mem_cons.mp hm with e|hm
    ·cases e;exact absurd rfl hk
    ·exact h3 n hm
theorem Z8n {scope:Scope} {env:Env} (hn:∀p∈scope.names,p.2=.free→∃c,env.cells.lookup p.1=some c):
  ∃cl,closureFor scope env=pure cl∧(∀n c,cl.lookup n=some c→env.cells.lookup n=some c)∧(∀n,(n,NameKind.free)∈scope.names→∃c,cl.lookup n=some c):=by
 obtain ⟨cl,h1,h2,h3,_⟩:=Z2I scope.names [] hn (fun n c h=>by cases h)
 refine ⟨cl,?_,h2,h3⟩
 simp only [closureFor]
 simp only [h1,pure_bind]
structure CompScope (T:List Str) (sc:Scope) (x:Str) (sc':Scope):Prop where
 kind:sc'.kind=.function
 var:sc'.names.lookup x=some .local
 nodup:T.Nodup
 no0:Zfp∉T
 marks:T.all ZY=true
 names:∀p∈sc'.names,(p.2=.local∧(p.1=x∨p.1=Zfp)∧sc'.names.lookup p.1=some .local)∨p.2=.globalImplicit∨(p.2=.free∧sc.names.lookup p.1=some .cell)
theorem Z6a {sc sc':Scope} {x:Str} (h:Z7M T sc x sc'=true):CompScope T sc x sc':=by
 unfold Z7M at h
 simp only [Bool.and_eq_true,beq_iff_eq,decide_eq_true_eq,Bool.not_eq_true',List.all_eq_true,Bool.or_eq_true] at h
 obtain ⟨⟨⟨⟨⟨h1,h2⟩,h3⟩,h4⟩,h0⟩,h5⟩:=h
 refine ⟨h1,h2,h3,by simpa using h4,List.all_eq_true.mpr h0,fun p hp=>?_⟩
 have:=h5 p hp
 rcases this with (⟨⟨h6,h7⟩,h8⟩|h6)|⟨h6,h7⟩
 ·exact .inl ⟨h6,h7,h8⟩
 ·exact .inr (.inl h6)
 ·exact .inr (.inr ⟨h6,h7⟩)
theorem Zbl {sc sc':Scope} {x:Str} {env:Env} {cl:List (Str×Addr)} {C:Addr} (K:CompScope T sc x sc') (he:EnvOk sc env):EnvOk sc' (compEnvC sc' cl C env) where
 kind:=K.kind
 glob:=he.glob
 blt:=he.blt
 loc:=fun y hy=>lookup_relabel_local hy
 cel:=fun y hy=>by
  rcases K.names _ (Z0q hy) with h|h|h
  ·cases h.1
  ·cases h
  ·cases h.1
 fre:=fun y hy=>by
  show (relabel sc' env).names.lookup y=_∨(relabel sc' env).names.lookup y=_
  unfold relabel
  rw [Z0u,hy]
  simp only [Option.map_some]
  split
  ·exact .inr rfl
  ·exact .inl rfl
 glb:=fun y hy=>by
  show (relabel sc' env).names.lookup y=_
  unfold relabel
  rw [Z0u,hy]
  rfl
 cls:=fun y hy=>by
  rcases K.names _ (Z0q hy) with h|h|h
  ·cases h.1
  ·cases h
  ·cases h.1
theorem Z8m {sc sc':Scope} {x:Str} {env:Env} {cl:List (Str×Addr)} {C:Addr} {ρ:Loc} {σ:Z4} {h:Heap} {k:Nat} {m:Str→Option Value} {u:Value} {mv:MV} (K:CompScope T sc x sc') (he:EnvOk sc env) (F:Zu w T env ρ σ h)
  (hk:Z6R x T=some k) (hcl:∀n c,cl.lookup n=some c→env.cells.lookup n=some c) (hcl':∀n,(n,NameKind.free)∈sc'.names→∃c,cl.lookup n=some c) (hn:h.Ns C m) (hm:m x=some u) (r:Rep w σ h mv u):
  Zu w T (compEnvC sc' cl C env) (ρ.set k (some mv)) σ h:=by
 obtain ⟨mf,cm,hnf,hcf,hv⟩:=F
 refine ⟨m,cm,hn,fun n c e=>hcf n c (hcl n c e),fun i y v e1 e2=>?_⟩
 have hTk:=Z1a hk
 have hkind:(compEnvC sc' cl C env).kindOf y=(sc'.names.lookup y).map fun k=>if (k==NameKind.free&&env.scope.kind== .function&&env.kindOf y==some .cell) then NameKind.cell else k:=by
  show (relabel sc' env).names.lookup y=_
  unfold relabel
  rw [Z0u]
 by_cases hik:i=k
 ·subst hik
  rw [hTk] at e1;cases e1
  have hlt:i<ρ.length:=by
   rcases Nat.lt_or_ge i ρ.length with h|h
   ·exact h
   ·rw [List.getElem?_eq_none (by simpa using h)] at e2;cases e2
  rw [List.getElem?_set_self hlt] at e2
  cases e2
  refine ⟨fun _=>⟨u,hm,r⟩,fun hk'=>?_⟩
  rw [hkind,K.var] at hk'
  rcases hk' with h|h<;>cases h
 ·rw [List.getElem?_set_ne (Ne.symm hik)] at e2
  have hyx:y≠x:=by
   rintro rfl
   exact hik ((List.getElem?_inj (List.getElem?_eq_some_iff.mp e1).1 K.nodup).mp (e1.trans hTk.symm))
  have hy0:y≠Zfp:=by
   rintro rfl
   exact K.no0 (List.mem_of_getElem? e1)
  obtain ⟨a,b⟩:=hv i y v e1 e2
  cases hly:sc'.names.lookup y with
  |none=>
   rw [hkind,hly]
   exact ⟨fun h=>(by cases h),fun h=>(by rcases h with h|h<;>cases h)⟩
  |some kk=>
   rcases K.names _ (Z0q hly) with h|h|h
   ·rcases h.2.1 with h|h
    ·exact absurd h hyx
    ·exact absurd h hy0
   ·rw [hkind,hly]
    simp only at h
    subst h
    exact ⟨fun h=>(by cases h),fun h=>(by rcases h with h|h<;>cases h)⟩
   ·simp only at h
    obtain ⟨h,hc⟩:=h
    subst h
    refine ⟨fun h=>?_,fun _=>?_⟩
    ·rw [hkind,hly] at h
     simp only [Option.map_some,Option.some.injEq] at h
     split at h<;>cases h
    ·obtain ⟨c,u',e,e',r'⟩:=b (.inl (he.cel y hc))
     obtain ⟨c',hc'⟩:=hcl' y (Z0q hly)
     have:=hcl y c' hc'
     rw [e] at this;cases this
     exact ⟨c,u',hc',e',r'⟩
theorem Z3L {h:Heap} {C:Addr} {m:Str→Option Value} (hn:h.Ns C m) (hm:∀k∈dictMarks,m (lstr k)=none):ZU w h C:=by
 obtain ⟨o,es,ep,ho,hd,hk,hf⟩:=hn
 refine ⟨fun vs y=>?_,fun vs y=>?_,fun n t u z y=>?_,fun f y k hkm=>?_⟩
 ·obtain ⟨o',ho',_,n,hd'⟩:=y
  exact Data.noConfusion (ddt ho ho' hd hd')
 ·obtain ⟨o',ho',_,n,hd'⟩:=y
  exact Data.noConfusion (ddt ho ho' hd hd')
 ·unfold IsRange at y
  rw [ho] at y;cases y;cases hd
 ·obtain ⟨o',es',ep',ho',hc',hd',hk',hf'⟩:=y
  cases ddt ho ho' hd hd'
  have hP:((strKind P w).is)=fun (n:Str) (v:Value)=>v.isStr n:=by
   funext k v
   cases v<;>rfl
  have key:∀k,f k=m k:=fun k=>by rw [←hf',←hf,hP];rfl
  rw [key];exact hm k hkm
theorem Z3d {x:Str} (hx:ZY x=true):∀k∈dictMarks,lstr k≠x:=by
 rintro k hk rfl
 simp [ZY] at hx
 exact hx hk
theorem Z4Z {h:Heap} {a:Addr} {m:Str→Option Value} (hn:h.Ns a m) (x:Z1V h a):False:=by
 obtain ⟨o,es,ep,ho,hd,_⟩:=hn
 obtain ⟨o',k,fs,ho',_,_,hd'⟩:=x
 exact Data.noConfusion (ddt ho ho' hd hd')
theorem Z4a {h:Heap} {a:Addr} {v:Option Value} (hn:h.IsCell a v) (x:Z1V h a):False:=by
 obtain ⟨o,ho,hd⟩:=hn
 obtain ⟨o',k,fs,ho',_,_,hd'⟩:=x
 exact Data.noConfusion (ddt ho ho' hd hd')
theorem Z5Y {sc:Scope} {e:PySem.Expr} {c:CE} (h:Zc N n sc e=some c) (env:Env) (x:Value):foldedSetIterable e env x=pure x:=by
 cases e<;>first|rfl|(cases n<;>exact nn h)
theorem ZaT {σ:Z4} {a:Addr}:rem σ a a=none:=if_pos rfl
theorem Z6E {σ:Z4} {a:Addr}:ZG (rem σ a) σ:=fun b l e=>by
 unfold rem at e
 split at e
 ·cases e
 ·exact e
set_option maxHeartbeats 2000000 in
set_option tactic.hygienic true in
theorem Zcx {sc sc':Scope} {x:Str} {px pos:Pos} {elt iter:PySem.Expr} {k:Nat} {c dd:CE} (hk:Z6R x T=some k) (hO:Z7M T sc x sc'=true) (hh:A.handled=none)
  (h1:SE w h₀ os₀ d A T sc' elt c) (h2:SE w h₀ os₀ d A T sc iter dd) (hs:∀env x,foldedSetIterable iter env x=pure x):
  SE w h₀ os₀ d A T sc (.ListComp elt [⟨.Name x px,iter,[],0⟩] sc' pos) (.comp k c dd):=by
 intro env ρ σ s Q E he S F q
 simp only [wpE] at q
 have K:=Z6a hO
 have hxm:ZY x=true:=List.all_eq_true.mp K.marks x (List.mem_of_getElem? (Z1a hk))
 obtain ⟨cl,hclos,hcl,hcl'⟩:=Z8n (scope:=sc') (env:=env) (fun p hp hf=>by
  rcases K.names p hp with h|h|h
  ·rw [hf] at h;cases h.1
  ·rw [hf] at h;cases h
  ·exact he.cls _ h.2)
 rw [eval_ListComp]
 refine wpAny_comprehension_free (use:=none) rfl (hs env) hclos K.kind (fun y hy hl=>by
  rcases K.names y hy with h|h|h
  ·exact h.2.2
  ·rw [hl] at h;cases h
  ·rw [hl] at h;cases h.1) (Zg (h2 env ρ σ s _ E he S F q) fun v1 s1 m σ1 q1 r1 S1 p1=>?_)
 split at q1
 ·next items hit=>
  obtain ⟨hlen,q1⟩:=q1
  refine Z7u S1 r1 hit hh fun o Pf Stt W st0=>?_
  generalize hI:s1.heap.objs.size=I at W st0 ⊢
  have g2:=Zr s1.heap o
  have S2:St w h₀ os₀ σ1 {s1 with heap:=s1.heap.push o}:=S1.grow (k:=s1.toks) S1.toks g2
  have p2:Pres (fun _=>False) σ1 s1.heap σ1 (s1.heap.push o):=Pres.of_keeps g2
  have hσI:σ1 I=none:=hI▸S1.untracked_new (Heap.get?_size _)
  have hI0:h₀.get? I=none:=hI▸Z59 S1
  have r2:=Rep.pres p2 S1.toStL noX _ r1
  refine Zg (Z2P (Q:=fun m σ'=>∃a,σ1 a=none∧m=.lst a∧σ'=upd σ1 a []) S2 (l:=[]) (vs:=[]) rfl (by simp) (fun a ha=>⟨a,ha,rfl,rfl⟩)) fun v3 s3 m3 σ3 q3 r3 S3 p3=>?_
  obtain ⟨D,hσD,rfl,rfl⟩:=q3
  cases r3
  have hD0:h₀.get? D=none:=by
   cases e:h₀.get? D with
   |none=>rfl
   |some o'=>have:=S3.sep _ _ e;rw [Z9] at this;cases this
  have st3:Stt 0 s3.heap:=W.fr 0 _ σ1 _ _ _ S2.toStL r2 st0 hσI p3 noX id
  have r3:Rep w (upd σ1 D []) s3.heap m v1:=Rep.pres p3 S2.toStL noX _ r2
  have hI3:(upd σ1 D []) I=none:=by
   obtain ⟨o',k',fs,ho',_⟩:=W.it _ _ st0
   exact (p3 I o' ho' hσI id).2
  refine wpAny_newFunctionEnv (fun y hy e=>?_) (fun y hy=>by cases hy) (fun h4 hn4 hsb4=>?_) K.kind
  ·rcases K.names y hy with h|h|h
   ·rw [e] at h;cases h.1
   ·rw [e] at h;cases h
   ·rw [e] at h;cases h.1
  generalize hC:s3.heap.objs.size=C at hn4 hsb4 ⊢
  have hCn:s3.heap.get? C=none:=hC▸Heap.get?_size _
  have g4:∀b o',s3.heap.get? b=some o'→h4.get? b=some o':=fun b o' e=>(hsb4.2 b (fun q=>by rw [q,hCn] at e;cases e)).trans (Heap.get?_push_of_some _ e)
  have hC0:h₀.get? C=none:=by
   cases e:h₀.get? C with
   |none=>rfl
   |some o'=>rw [S3.keep _ _ e] at hCn;cases hCn
  have hσC:(upd σ1 D []) C=none:=S3.untracked_new hCn
  have hCD:C≠D:=fun q=>by rw [q,Z9] at hσC;cases hσC
  have hID:I≠D:=fun q=>by rw [q,Z9] at hI3;cases hI3
  have hCI:C≠I:=fun q=>by
   obtain ⟨o',k',fs,ho',_⟩:=W.it _ _ st3
   rw [q] at hCn;rw [hCn] at ho';cases ho'
  have p4:Pres (fun _=>False) (upd σ1 D []) s3.heap (upd σ1 D []) h4:=Pres.of_keeps g4
  have S4:=S3.grow (k:=s3.toks) S3.toks g4
  have st4:Stt 0 h4:=W.fr 0 _ _ _ _ _ S3.toStL r3 st3 hI3 p4 noX id
  have F1:=F.pres p1 S.toStL
  have F4:Zu w T env ρ (upd σ1 D []) h4:=((F1.pres p2 S1.toStL).pres p3 S2.toStL).pres p4 S3.toStL
  have he':EnvOk sc' (compEnvC sc' cl C env):=Zbl K he
  show codeAny (model P w) A (.compStart (.ListComp elt [⟨.Name x px,iter,[],0⟩] sc' pos) 0 (.ref I) (.ref D) (compEnvC sc' cl C env)) (compPost (model P w) A E none _ (.ref D) C) {s3 with heap:=h4,toks:=s3.toks}
  have loop:codeAny (model P w) A (.compLoop (.ListComp elt [⟨.Name x px,iter,[],0⟩] sc' pos) 0 (.ref I) (.ref D) (compEnvC sc' cl C env)) (compPost (model P w) A E none (EP w h₀ os₀ σ s.heap Q) (.ref D) C) {s3 with heap:=h4,toks:=s3.toks}:=by
   refine codeAny_compLoop_list (fun kk s'=>∃i σ' acc m',i≤items.length∧kk=items.length+1-i∧acc.length=i∧St w h₀ os₀ σ' s'∧σ' D=some acc∧
    Z2X D (fun u σ'' Q'=>wpE (Z3 FT d) c (ρ.set k (some u)) σ'' Q') (items.drop i) acc σ' (fun vs σ''=>Q (.fl vs) (rem σ'' D))∧Stt i s'.heap∧s'.heap.Ns C m'∧(∀y,y≠x→m' y=none)∧
    σ' C=none∧σ' I=none∧Rep w σ' s'.heap m v1∧Zu w T env ρ σ' s'.heap∧Pres (fun _=>False) σ1 s1.heap σ' s'.heap) ?_ (items.length+1)
    ⟨0,_,[],_,Nat.zero_le _,rfl,rfl,S4,Z9 _ _ _,q1 D hσD,st4,hn4,fun _ _=>rfl,hσC,hI3,Rep.pres p4 S3.toStL noX _ r3,F4,(p2.trans p3).trans p4⟩
   rintro kk s' ⟨i,σ',acc,m',hi,rfl,hacc,S',hD',qq,st',hn',hm',hC',hI',r',F',p'⟩
   by_cases hlt:i<items.length
   ·refine W.item i _ _ _ hlt st' S'.toks fun u h5 k5 hk5 hP st5 g5=>?_
    have nvI:=(W.it _ _ st').notVal (w:=w)
    obtain ⟨S5,p5⟩:=S'.moved hk5 hI' hI0 g5 nvI
    have hX5:∀b,b=I→ZU w s'.heap b:=fun b e=>e▸nvI
    have r5:=Rep.pres p5 S'.toStL hX5 _ r'
    have n5:h5.Ns C m':=p5.ns S'.toStL hCI hn'
    have F5:Zu w T env ρ σ' h5:=F'.presX p5 S'.toStL hX5 (fun mm hmm e=>Z4Z hmm (e▸W.it _ _ st')) (fun cc v hv e=>Z4a hv (e▸W.it _ _ st'))
    have ru:=W.rep i _ u σ' h5 hP st5 hlt r5
    refine wpAny_assign_Name (wpAny_storeName_local (lookup_relabel_local K.var) n5 (fun h6 n6 hs6=>?_) (by show (sc'.kind== .class||(sc'.kind== .module&&_))=false;rw [K.kind];rfl))
    have nvC:=Z3L (w:=w) n5 fun kk hkk=>hm' _ (Z3d hxm kk hkk)
    have hX6:∀b,b=C→ZU w h5 b:=fun b e=>e▸nvC
    have g6:∀b o',b≠C→h5.get? b=some o'→h6.get? b=some o':=fun b o' hb e=>(hs6.2 b hb).trans e
    obtain ⟨S6,p6⟩:=S5.moved (k:=k5+1) (h':=h6) (Nat.succ_pos _) hC' hC0 g6 nvC
    have r6:=Rep.pres p6 S5.toStL hX6 _ r5
    have st6:Stt (i+1) h6:=W.fr _ _ _ _ _ _ S5.toStL r5 st5 hI' p6 hX6 (Ne.symm hCI)
    have hCL:env.locals≠C:=by
     obtain ⟨_,_,hnL,_⟩:=F4
     intro e
     obtain ⟨mL,cmL,hnL3,_⟩:=(F1.pres p2 S1.toStL).pres p3 S2.toStL
     obtain ⟨oL,_,_,hoL,_⟩:=hnL3
     rw [e,hCn] at hoL;cases hoL
    have hCc:∀n cc,env.cells.lookup n=some cc→cc≠C:=by
     intro n cc hcc e
     obtain ⟨mL,cmL,_,hcL3,_⟩:=(F1.pres p2 S1.toStL).pres p3 S2.toStL
     obtain ⟨oL,hoL,_⟩:=hcL3 n cc hcc
     rw [e,hCn] at hoL;cases hoL
    have F6:Zu w T env ρ σ' h6:=F5.presY p6 S5.toStL hX6 hCL hCc
    have ru6:=Rep.pres p6 S5.toStL hX6 _ ru
    have FC:=Z8m (u:=u) K he F6 hk hcl hcl' n6 (if_pos rfl) ru6
    rw [List.drop_eq_getElem_cons hlt] at qq
    simp only [Z2X] at qq
    refine Zg (h1 (compEnvC sc' cl C env) _ σ' _ _ _ he' S6 FC qq) fun v7 s7 mx σ7 q7 r7 S7 p7=>?_
    obtain ⟨hD7,q7⟩:=q7
    have r7v:=Rep.pres p7 S6.toStL noX _ r6
    have st7:Stt (i+1) s7.heap:=W.fr _ _ _ _ _ _ S6.toStL r6 st6 hI' p7 noX id
    have hI7:σ7 I=none:=by
     obtain ⟨o',k',fs,ho',_⟩:=W.it _ _ st6
     exact (p7 I o' ho' hI' id).2
    have hC7:σ7 C=none:=by
     obtain ⟨o',_,_,ho',_⟩:=n6
     exact (p7 C o' ho' hC' id).2
    have n7:=p7.ns S6.toStL id n6
    refine Zg (Z2Q (Q:=fun _ σ8=>σ8=upd σ7 D (acc++[mx])) S7 (a:=.lst D) (b:=mx) rfl r7 (.inr ⟨D,acc,mx,rfl,hD7,by lia,rfl⟩)) fun v8 s8 m8 σ8 q8 r8 S8 p8=>?_
    subst q8
    have F8:Zu w T env ρ (upd σ7 D (acc++[mx])) s8.heap:=(F6.pres p7 S6.toStL).pres p8 S7.toStL
    have hID':∀b,σ7 b=none→upd σ7 D (acc++[mx]) b=none:=fun b hb=>by rw [Zp (fun q=>by rw [q,hD7] at hb;cases hb)];exact hb
    refine ⟨items.length+1-(i+1),by lia,i+1,_,acc++[mx],_,hlt,rfl,by simp [hacc],S8,Z9 _ _ _,q7,W.fr _ _ _ _ _ _ S7.toStL r7v st7 hI7 p8 noX id,p8.ns S7.toStL id n7,fun y hy=>by rw [if_neg hy];exact hm' y hy,
     hID' _ hC7,hID' _ hI7,Rep.pres p8 S7.toStL noX _ r7v,F8,?_⟩
    intro b o' e e' nx
    have hbI:b≠I:=fun q=>by rw [←hI] at q;rw [q,Heap.get?_size] at e;cases e
    have z:=p' b o' e e' nx
    have hbC:b≠C:=fun q=>by
     have z3:=(p2.trans p3) b o' e e' nx
     rw [q,hCn] at z3;cases z3.1
    exact ((p7.trans p8) b o' (g6 b o' hbC (g5 b o' hbI z.1)) z.2 id)
   ·obtain rfl:i=items.length:=Nat.le_antisymm hi (Nat.not_lt.mp hlt)
    refine W.done _ _ _ st' S'.toks fun h5 k5 hk5 g5=>?_
    have nvI:=(W.it _ _ st').notVal (w:=w)
    obtain ⟨S5,p5⟩:=S'.moved hk5 hI' hI0 g5 nvI
    have n5:h5.Ns C m':=p5.ns S'.toStL hCI hn'
    refine ⟨m',n5,fun h6 hs6=>?_⟩
    have nvC:=Z3L (w:=w) n5 fun kk hkk=>hm' _ (Z3d hxm kk hkk)
    obtain ⟨S6,p6⟩:=S5.moved (k:=k5) (h':=h6) hk5 hC' hC0 (fun b o' hb e=>(hs6.2 b hb).trans e) nvC
    rw [List.drop_length] at qq
    simp only [Z2X] at qq
    obtain ⟨hl6,vs6,hc6,rl6⟩:=S6.lists D acc hD'
    refine ⟨.fl acc,rem σ' D,qq,⟨by lia,D,vs6,rfl,ZaT,hc6.isList,ZA.sub Z6E _ rl6⟩,S6.sub Z6E,?_⟩
    refine p1.trans ?_
    intro b o' e e' nx
    have hbI:b≠I:=fun q=>by rw [←hI] at q;rw [q,Heap.get?_size] at e;cases e
    have z:=p' b o' e e' nx
    have hbC:b≠C:=fun q=>by
     have z3:=(p2.trans p3) b o' e e' nx
     rw [q,hCn] at z3;cases z3.1
    exact ⟨(hs6.2 b hbC).trans (g5 b o' hbI z.1),Z6E.none z.2⟩
  exact codeAny_compStart_list loop (W.self 0 _ _ _ st4 loop)
 ·exact q1.elim
end
end Mine
namespace Mine
section
variable {w:World} {h₀:Heap} {os₀:OsState} {d:Nat} {A:Around} {T:List Str} {n:Nat}
theorem Z64 {k:List (List Nat)} {vs:List PySem.Expr} (h:ZbW k vs=true):k.length=vs.length∧2≤k.length∧k.Nodup∧k.any dictMarks.contains=true∧(k.length≤15∨(17<k.length∧k.length≤32∧Z28 vs=true)):=by
 obtain ⟨h,h4⟩:=Bool.and_eq_true_iff.1 h
 obtain ⟨h,h0⟩:=Bool.and_eq_true_iff.1 h
 obtain ⟨h,h3⟩:=Bool.and_eq_true_iff.1 h
 obtain ⟨h1,h2⟩:=Bool.and_eq_true_iff.1 h
 refine ⟨eq_of_beq h1,of_decide_eq_true h2,of_decide_eq_true h3,h0,?_⟩
 rcases Bool.or_eq_true_iff.1 h4 with h|h
 ·exact .inl (of_decide_eq_true h)
 ·obtain ⟨h,h7⟩:=Bool.and_eq_true_iff.1 h
  obtain ⟨h5,h6⟩:=Bool.and_eq_true_iff.1 h
  exact .inr ⟨of_decide_eq_true h5,of_decide_eq_true h6,h7⟩
theorem Z4I {sc:Scope} {x:Str} {c:CE} (h:Z7N T sc x=some c):∃k i,sc.names.lookup x=some k∧(k=.local∨k=.cell∨k=.free)∧(x==dbg||x==Zc3)=false∧Z6R x T=some i∧c=.var i:=by
 replace h:=Zb h
 obtain ⟨k,hl,h⟩:=h
 replace h:=ZC h
 obtain ⟨hk,h⟩:=h
 replace h:=Zb h
 obtain ⟨i,hi,h⟩:=h
 obtain ⟨hk,hx⟩:=Bool.and_eq_true_iff.mp hk
 cases h
 refine ⟨k,i,hl,?_,nt hx,hi,rfl⟩
 cases k<;>first|exact .inl rfl|exact .inr (.inl rfl)|exact .inr (.inr rfl)|cases hk
theorem Z6Q {g:List Comprehension} {x:Str} {p:Pos} {it:PySem.Expr} (h:Z9B g=some (x,p,it)):g=[⟨.Name x p,it,[],0⟩]:=by
 replace h:=Zb h
 obtain ⟨⟨t,i,f,a⟩,hc,h⟩:=h
 replace h:=Zb h
 obtain ⟨y,hy,h⟩:=h
 replace h:=ZC h
 obtain ⟨hk,h⟩:=h
 obtain ⟨h1,h2⟩:=Bool.and_eq_true_iff.mp hk
 cases h
 cases Z0o hc
 cases Z0P hy
 cases eq_of_beq h2
 cases f with
 |nil=>rfl
 |cons _ _=>cases h1
set_option maxHeartbeats 2000000 in
theorem Z3j {mg mb:Str→Option Value} (B:Base w h₀ mg mb) (R:Room d A) (HC:Z79 w h₀ os₀ d A):∀(n:Nat) (sc:Scope) (e:PySem.Expr) (c:CE),Zc ⟨T,Z14⟩ n sc e=some c→
  SE w h₀ os₀ d A T sc e c∧SB w h₀ os₀ d A T sc e c
 |0,sc,e,c,h=>nn h
 |n+1,sc,e,c,h=>by
  revert c
  have ihs:∀sc e c,Zc ⟨T,Z14⟩ n sc e=some c→SE w h₀ os₀ d A T sc e c:=fun sc e c h=>(Z3j B R HC n sc e c h).1
  have ihb:∀sc e c,Zc ⟨T,Z14⟩ n sc e=some c→SB w h₀ os₀ d A T sc e c:=fun sc e c h=>(Z3j B R HC n sc e c h).2
  have ih:=ihs sc
  have ib:=ihb sc
  cases e with
  |Constant cc k pos=>
   refine Z2c fun m hm=>?_
   refine Z2b ?_
   have:=ZaQ (w:=w) (h₀:=h₀) (os₀:=os₀) (d:=d) (A:=A) (T:=T) (sc:=sc) (k:=k) (pos:=pos) hm
   exact ⟨this,Z0b this fun _ _=>rfl⟩
  |Name x pos=>
   intro c h
   obtain ⟨k,i,h1,h2,h3,h4,rfl⟩:=Z4I (show Z7N T sc x=some c from h)
   have:=Ze6 (w:=w) (h₀:=h₀) (os₀:=os₀) (d:=d) (A:=A) (T:=T) (sc:=sc) (pos:=pos) h1 h2 h3 h4
   exact ⟨this,Z0b this fun _ _=>rfl⟩
  |BoolOp op vs pos=>
   refine Z2c fun cs hc=>?_
   refine fun c h=>⟨fun env ρ σ s Q E he S F q=>?_,fun env ρ σ s R E he S F q=>?_⟩
   ·rw [arm_eval_BoolOp]
    exact Z6B he ih op pos vs cs c σ s Q E hc h S F q
   ·exact wpAny_isTrue_BoolOp (Z6C he ib op vs cs c σ s R E hc h S F q)
  |BinOp l op r pos=>
   refine Z2c fun p h1=>?_
   refine Z4e fun c1 c2 h2 h3=>?_
   refine Z2b ?_
   have:=ZaR (pos:=pos) h1 (ih _ _ h2) (Z4s ih h3)
   exact ⟨this,Z0b this fun _ _=>rfl⟩
  |UnaryOp op x pos=>
   show ∀c,ZbX (Zc ⟨T,Z14⟩ n sc) op x=some c→_
   cases op with
   |Not=>
    refine Z2c fun c1 hx=>?_
    refine Z2b ?_
    exact ⟨Ze8 (ih _ _ hx),Zea (ib _ _ hx)⟩
   |USub=>
    intro c h
    have:=Ze9 (w:=w) (h₀:=h₀) (os₀:=os₀) (d:=d) (A:=A) (T:=T) (sc:=sc) (pos:=pos) (show Z70 x=some c from h)
    exact ⟨this,Z0b this fun _ _=>rfl⟩
   |_=>exact ZfW
  |IfExp t a b pos=>
   refine Z2c fun x h1=>?_
   refine Z4e fun y z h2 h3=>?_
   exact Z2b (⟨ZaP (ib _ _ h1) (ih _ _ h2) (ih _ _ h3),ZaS (ib _ _ h1) (ib _ _ h2) (ib _ _ h3)⟩)
  |Compare l ops rs pos=>
   show ∀c,ZbZ (Zc ⟨T,Z14⟩ n sc) l ops rs=some c→_
   refine Zdo (fun op h1=>?_) ?_
   ·refine Z2c fun r h2=>?_
    cases Z0o h1
    cases Z0o h2
    exact fun c h=>Zdr R ih h
   ·refine Z4e ?_
    rintro ⟨o1,o2⟩ ⟨m,r⟩ h1 h2
    cases Z41 h1
    cases Z41 h2
    refine Z4e fun p q h1 h2=>?_
    refine Z4e fun x y h3 h4=>?_
    refine Z2c fun z h5=>?_
    refine Z2b ?_
    exact Za5 h1 h2 (ih _ _ h3) (ih _ _ h4) (ih _ _ h5) (Z2C _ h5)
  |Call fn args kws p=>
   show ∀c,Zc0 ⟨T,Z14⟩ sc (Zc ⟨T,Z14⟩ n sc) fn args kws.isEmpty p.line=some c→_
   refine Z1m fun hk=>?_
   cases List.isEmpty_iff.mp hk
   refine Zdo ?_ ?_
   ·rintro ⟨x,px⟩ h1 c h
    cases Z0P h1
    have:=Zbp (p:=px) (pos:=p) B R HC ih h
    exact ⟨this,Z0b this fun _ _=>rfl⟩
   ·refine Z2c ?_
    rintro ⟨o,m,ap⟩ h1
    cases Za9 h1
    refine Z1m fun hl c h=>?_
    have:=Zb0 (pos:=p) (m:=m) (ap:=ap) ih hl h
    exact ⟨this,Z0b this fun _ _=>rfl⟩
  |Subscript v i pos=>
   show ∀c,Za0 (Zc ⟨T,Z14⟩ n sc) v i=some c→_
   refine Zdo ?_ ?_
   ·rintro ⟨lo,hi⟩ hp
    obtain ⟨p,rfl⟩:=Z88 hp
    refine Z2c fun x h1=>?_
    refine Z4e fun y z h2 h3=>?_
    refine Z2b ?_
    have:=ZaO (p:=p) (pos:=pos) ih (ih _ _ h1) h2 h3
    exact ⟨this,Z0b this fun _ _=>rfl⟩
   ·refine Z4e fun x y h1 h2=>?_
    refine Z2b ?_
    have:=Z89 (pos:=pos) (Z4s ih h1) (ih _ _ h2) (Z8E h2)
    exact ⟨this,Z0b this fun _ _=>rfl⟩
  |Tuple elts k pos=>
   intro c h
   obtain ⟨hl,cs,hc,rfl⟩:=Z6P h
   have:=ZaN (k:=k) (pos:=pos) ih hc hl
   exact ⟨this,Z0b this fun _ _=>rfl⟩
  |List elts pos=>
   intro c h
   obtain ⟨hl,cs,hc,rfl⟩:=Z6P h
   have:=Zcv (pos:=pos) ih hc hl
   exact ⟨this,Z0b this fun _ _=>rfl⟩
  |Dict ks vs pos=>
   refine Z4e fun k cs h1 h2=>?_
   refine Z1m fun hok=>?_
   refine Z2b ?_
   obtain ⟨e1,e2,e3,em,e4⟩:=Z64 hok
   have:SE w h₀ os₀ d A T sc (.Dict ks vs pos) (.pr (.mkDict k) cs):=by
    rcases e4 with e4|⟨e4,e5,e6⟩
    ·exact Zcw B ih h1 h2 e1 e2 e3 em e4
    ·exact Z5C B h1 h2 e1 e3 em e4 e5 e6
   exact ⟨this,Z0b this fun _ _=>rfl⟩
  |ListComp elt gens sc' pos=>
   show ∀c,ZbY T (Zc ⟨T,Z14⟩ n sc) (Zc ⟨T,Z14⟩ n sc') sc sc' elt gens=some c→_
   refine Z2c ?_
   rintro ⟨x,px,iter⟩ hp
   obtain rfl:=Z6Q hp
   refine Z2c fun k h1=>?_
   refine Z4e fun c1 c2 h2 h3=>?_
   refine Z1m fun hok=>?_
   refine Z2b ?_
   have:=Zcx (px:=px) (pos:=pos) h1 hok R.handled (ihs _ _ _ h2) (ih _ _ h3) (Z5Y h3)
   exact ⟨this,Z0b this fun _ _=>rfl⟩
  |_=>exact ZfW
end
end Mine
namespace Mine
noncomputable def XE (env:Env) (b:Addr):Prop:=b=env.locals∨∃n,env.cells.lookup n=some b
structure EnvSt (h₀:Heap) (env:Env):Prop where
 l0:h₀.get? env.locals=none
 c0:∀n c,env.cells.lookup n=some c→h₀.get? c=none
 inj:∀n n' c,env.cells.lookup n=some c→env.cells.lookup n'=some c→n=n'
noncomputable def NsM (env:Env) (h:Heap):Prop:=∃m,h.Ns env.locals m∧∀k∈dictMarks,m (lstr k)=none
section
variable (w:World) (h₀:Heap) (os₀:OsState) (T:List Str)
structure FrS (env:Env) (ρ:Loc) (σ:Z4) (s:Shared):Prop where
 st:St w h₀ os₀ σ s
 fr:Zu w T env ρ σ s.heap
 ns:NsM env s.heap
end
section
variable {w:World} {h₀:Heap} {os₀:OsState} {d:Nat} {A:Around} {T:List Str} {N:Names} {n:Nat} {env:Env} {ρ:Loc} {σ σ':Z4} {s s':Shared}
theorem Z72 {h:Heap} {c:Addr} {v:Option Value} (x:h.IsCell c v):ZU w h c:=by
 obtain ⟨o,ho,hd⟩:=x
 refine ⟨fun vs y=>?_,fun vs y=>?_,fun n t u z y=>?_,fun f y k hkm=>?_⟩
 ·obtain ⟨o',ho',_,n,hd'⟩:=y
  exact Data.noConfusion (ddt ho ho' hd hd')
 ·obtain ⟨o',ho',_,n,hd'⟩:=y
  exact Data.noConfusion (ddt ho ho' hd hd')
 ·unfold IsRange at y
  rw [ho] at y;cases y;cases hd
 ·obtain ⟨o',es',ep',ho',hc',hd',_⟩:=y
  exact Data.noConfusion (ddt ho ho' hd hd')
theorem FrS.notVal (F:FrS w h₀ os₀ T env ρ σ s):∀b,XE env b→ZU w s.heap b:=by
 rintro b (rfl|⟨n,hn⟩)
 ·obtain ⟨m,hm,hk⟩:=F.ns
  exact Z3L hm hk
 ·obtain ⟨m,cm,_,hc,_⟩:=F.fr
  exact Z72 (hc n b hn)
theorem FrS.eval (F:FrS w h₀ os₀ T env ρ σ s) (S:St w h₀ os₀ σ' s') (p:Pres (fun _=>False) σ s.heap σ' s'.heap):FrS w h₀ os₀ T env ρ σ' s':=
 ⟨S,F.fr.pres p F.st.toStL,let ⟨m,hm,hk⟩:=F.ns;⟨m,p.ns F.st.toStL id hm,hk⟩⟩
theorem Pres.toX {X:Addr→Prop} {h h':Heap} (p:Pres (fun _=>False) σ h σ' h'):Pres X σ h σ' h':=p.weak fun _ x=>x.elim
theorem Z0k {sc:Scope} {x:Str} {pos:Pos} {k:Nat} (he:EnvOk sc env) (h:Z11 sc ⟨T,Z14⟩ (.Name x pos)=some k):(env.kindOf x=some .local∨(env.kindOf x=some .cell∧∃c,env.cells.lookup x=some c))∧Z6R x T=some k:=by
 obtain ⟨kd,hl,h⟩:=Zb (show b0 (sc.names.lookup x) _=_ from h)
 obtain ⟨hk,h⟩:=ZC h
 cases kd with
 | «local» =>exact ⟨.inl (he.loc _ hl),h⟩
 |cell=>exact ⟨.inr ⟨he.cel _ hl,he.cls _ hl⟩,h⟩
 |_=>cases hk
noncomputable def StP (w:World) (h₀:Heap) (os₀:OsState) (T:List Str) (env:Env) (ρ:Loc) (σ:Z4) (h:Heap) (s':Shared):Prop:=
 FrS w h₀ os₀ T env ρ σ s'∧Pres (XE env) σ h σ s'.heap
theorem Z1p {x:Str} {k:Nat} {mv:MV} {u:Value} {Q:Unit→Shared→Prop} {E:Value→Shared→Prop} (hf:env.scope.kind=.function) (es:EnvSt h₀ env) (hT:T.Nodup) (hM:T.all ZY=true)
  (hx:(env.kindOf x=some .local∨(env.kindOf x=some .cell∧∃c,env.cells.lookup x=some c))∧Z6R x T=some k) (F:FrS w h₀ os₀ T env ρ σ s) (r:Rep w σ s.heap mv u)
  (h:∀s',StP w h₀ os₀ T env (ρ.set k (some mv)) σ s.heap s'→Q () s'):wpAny (model P w) A (storeName env x u) Q E s:=by
 obtain ⟨hx,hk⟩:=hx
 have hTk:=Z1a hk
 have hXM:=F.notVal
 have other:∀{i:Nat} {y:Str} {v:MV},i≠k→T[i]? =some y→y≠x:=by
  rintro i y v hik e rfl
  exact hik ((List.getElem?_inj (List.getElem?_eq_some_iff.mp e).1 hT).mp (e.trans hTk.symm))
 have at_k:∀{v:MV},(ρ.set k (some mv))[k]? =some (some v)→v=mv:=by
  intro v e
  have hlt:k<ρ.length:=by
   rcases Nat.lt_or_ge k ρ.length with h|h
   ·exact h
   ·rw [List.getElem?_eq_none (by simpa using h)] at e;cases e
  rw [List.getElem?_set_self hlt] at e
  cases e;rfl
 obtain ⟨mN,hmN,hmk⟩:=F.ns
 obtain ⟨m,cm,hn,hc,hv⟩:=F.fr
 have hσL:σ env.locals=none:=by
  obtain ⟨o,es',ep,ho,hd,_⟩:=hn
  exact Z0t F.st.toStL ho (by rw [hd];intro _ _ x;cases x)
 rcases hx with hx|⟨hx,c,hcx⟩
 ·refine wpAny_storeName_local hx hn (fun h' hn' hs'=>h _ ?_) (by rw [hf];rfl)
  have g:∀b o,b≠env.locals→s.heap.get? b=some o→h'.get? b=some o:=fun b o hb e=>(hs'.2 b hb).trans e
  obtain ⟨S',p⟩:=F.st.moved (k:=s.toks+1) (Nat.succ_pos _) hσL es.l0 g (hXM _ (.inl rfl))
  have hX':∀b,b=env.locals→ZU w s.heap b:=fun b e=>hXM b (.inl e)
  have hm0:∀kk∈dictMarks,m (lstr kk)=none:=by
   intro kk hkk
   obtain ⟨o,es1,ep1,ho,hd,_,hf1⟩:=hn
   obtain ⟨o',es2,ep2,ho',hd',_,hf2⟩:=hmN
   cases ddt ho ho' hd hd'
   rw [←hf1,hf2];exact hmk kk hkk
  refine ⟨⟨S',⟨_,cm,hn',fun n c e=>p.cell F.st.toStL (fun q=>?_) (hc n c e),fun i y v e1 e2=>?_⟩,_,hn',fun kk hkk=>?_⟩,p.weak fun b e=>.inl e⟩
  ·obtain ⟨o,_,_,ho,hd,_⟩:=hn
   obtain ⟨o',ho',hd'⟩:=hc n c e
   rw [q,ho] at ho';cases ho';rw [hd] at hd';cases hd'
  ·by_cases hik:i=k
   ·subst hik
    rw [hTk] at e1;cases e1
    cases at_k e2
    exact ⟨fun _=>⟨u,if_pos rfl,Rep.pres p F.st.toStL hX' _ r⟩,fun hk'=>by rw [hx] at hk';rcases hk' with h|h<;>cases h⟩
   ·rw [List.getElem?_set_ne (Ne.symm hik)] at e2
    obtain ⟨a,b⟩:=hv i y v e1 e2
    exact ⟨fun k'=>let ⟨u',e',r'⟩:=a k';⟨u',(if_neg (other (v:=v) hik e1)).trans e',Rep.pres p F.st.toStL hX' _ r'⟩,fun k'=>let ⟨c',u',e',e'',r'⟩:=b k';⟨c',u',e',e'',Rep.pres p F.st.toStL hX' _ r'⟩⟩
  ·have:lstr kk≠x:=Z3d (List.all_eq_true.mp hM x (List.mem_of_getElem? hTk)) kk hkk
   rw [if_neg this];exact hm0 kk hkk
 ·refine wpAny_storeName_cell hf hx hcx (hc x c hcx) (fun h' hc' hs'=>h _ ?_)
  have g:∀b o,b≠c→s.heap.get? b=some o→h'.get? b=some o:=fun b o hb e=>(hs'.2 b hb).trans e
  have hσc:σ c=none:=by
   obtain ⟨o,ho,hd⟩:=hc x c hcx
   exact Z0t F.st.toStL ho (by rw [hd];intro _ _ x;cases x)
  obtain ⟨S',p⟩:=F.st.moved (k:=s.toks) F.st.toks hσc (es.c0 x c hcx) g (hXM _ (.inr ⟨x,hcx⟩))
  have hX':∀b,b=c→ZU w s.heap b:=fun b e=>hXM b (.inr ⟨x,e▸hcx⟩)
  have hLc:env.locals≠c:=by
   intro q
   obtain ⟨o,_,_,ho,hd,_⟩:=hn
   obtain ⟨o',ho',hd'⟩:=hc x c hcx
   rw [←q,ho] at ho';cases ho';rw [hd] at hd';cases hd'
  refine ⟨⟨S',⟨m,fun z=>if z=x then some u else cm z,p.ns F.st.toStL hLc hn,fun n' c' e=>?_,fun i y v e1 e2=>?_⟩,mN,p.ns F.st.toStL hLc hmN,hmk⟩,p.weak fun b e=>.inr ⟨x,e▸hcx⟩⟩
  ·by_cases hnx:n'=x
   ·subst hnx;rw [hcx] at e;cases e;simp only [if_true];exact hc'
   ·show h'.IsCell c' (if n'=x then some u else cm n')
    rw [if_neg hnx]
    exact p.cell F.st.toStL (fun q=>hnx (es.inj n' x c (q▸e) hcx)) (hc n' c' e)
  ·by_cases hik:i=k
   ·subst hik
    rw [hTk] at e1;cases e1
    cases at_k e2
    exact ⟨fun hk'=>(by rw [hx] at hk';cases hk'),fun _=>⟨c,u,hcx,if_pos rfl,Rep.pres p F.st.toStL hX' _ r⟩⟩
   ·rw [List.getElem?_set_ne (Ne.symm hik)] at e2
    obtain ⟨a,b⟩:=hv i y v e1 e2
    exact ⟨fun k'=>let ⟨u',e',r'⟩:=a k';⟨u',e',Rep.pres p F.st.toStL hX' _ r'⟩,fun k'=>let ⟨c',u',e',e'',r'⟩:=b k';⟨c',u',e',(if_neg (other (v:=v) hik e1)).trans e'',Rep.pres p F.st.toStL hX' _ r'⟩⟩
end
end Mine
namespace Mine
noncomputable def Zjh (w:World) (o:Out) (fl:Flow) (σ:Z4) (h:Heap):Prop:=
 match o with
 | .next=>fl=.next
 | .ret m=>∃v,fl=.ret v∧Rep w σ h m v
section
variable (w:World) (h₀:Heap) (os₀:OsState) (d:Nat) (A:Around) (T:List Str)
noncomputable def SP (env:Env) (σ:Z4) (h:Heap) (Q:Zn):Flow→Shared→Prop:=
 fun fl s'=>∃o ρ' σ',Q o ρ' σ'∧Zjh w o fl σ' s'.heap∧FrS w h₀ os₀ T env ρ' σ' s'∧Pres (XE env) σ h σ' s'.heap
noncomputable def SS (sc:Scope) (st:Stmt) (c:CS):Prop:=
 ∀(env:Env) (ρ:Loc) (σ:Z4) (s:Shared) (Q:Zn) (E:Value→Shared→Prop),EnvOk sc env→EnvSt h₀ env→FrS w h₀ os₀ T env ρ σ s→wpS (Z3 FT d) c ρ σ Q→
  wpAny (model P w) A (exec st env) (SP w h₀ os₀ T env σ s.heap Q) E s
noncomputable def SSs (sc:Scope) (st:List Stmt) (c:List CS):Prop:=
 ∀(env:Env) (ρ:Loc) (σ:Z4) (s:Shared) (Q:Zn) (E:Value→Shared→Prop),EnvOk sc env→EnvSt h₀ env→FrS w h₀ os₀ T env ρ σ s→wpSs (Z3 FT d) c ρ σ Q→
  wpAny (model P w) A (execs st env) (SP w h₀ os₀ T env σ s.heap Q) E s
end
section
variable {w:World} {h₀:Heap} {os₀:OsState} {d:Nat} {A:Around} {T:List Str} {n:Nat}
theorem SP.trans {env:Env} {σ σ':Z4} {h h':Heap} {Q:Zn} {fl:Flow} {s':Shared} (p:Pres (XE env) σ h σ' h') (e:SP w h₀ os₀ T env σ' h' Q fl s'):SP w h₀ os₀ T env σ h Q fl s':=by
 obtain ⟨o,ρ',σ'',q,r,F,p'⟩:=e
 exact ⟨o,ρ',σ'',q,r,F,p.trans p'⟩
theorem Z1c {sc:Scope} {env:Env} {ρ:Loc} {σ:Z4} {s:Shared} {Q:ZT} {U:Value→Shared→Prop} {E:Value→Shared→Prop} {e:PySem.Expr} {c:CE} (h1:SE w h₀ os₀ d A T sc e c) (he:EnvOk sc env) (F:FrS w h₀ os₀ T env ρ σ s) (q:wpE (Z3 FT d) c ρ σ Q)
  (k:∀v s' x σ',Q x σ'→Rep w σ' s'.heap x v→FrS w h₀ os₀ T env ρ σ' s'→Pres (fun _=>False) σ s.heap σ' s'.heap→U v s'):wpAny (model P w) A (eval e env) U E s:=
 Zg (h1 env ρ σ s Q E he F.st F.fr q) fun v s' x σ' q' r S p=>k v s' x σ' q' r (F.eval S p) p
theorem Z17 {e:PySem.Expr} {t:Option PySem.Expr} {l:Nat} {env:Env} (h:Zd7 e=false):swapsWith e t l env=pure false:=by
 cases e<;>first|rfl|exact ff h.symm
theorem Z3M {env:Env} (h:env.scope.kind=.function):interactive env=false:=by
 unfold interactive;rw [h];rfl
theorem Z38 {sc:Scope} {N:Names} (ih:∀st c,Z47 N sc n st=some c→SS w h₀ os₀ d A T sc st c):∀(b:List Stmt),SSs w h₀ os₀ d A T sc b (b.map fun s=>(Z47 N sc n s).getD .bad)
 |[]=>by
  intro env ρ σ s Q E he es F q
  simp only [List.map_nil,wpSs] at q
  exact wpAny_execs_nil ⟨.next,ρ,σ,q,rfl,F,Pres.refl⟩
 |st::r=>by
  intro env ρ σ s Q E he es F q
  simp only [List.map_cons,wpSs] at q
  cases hc:Z47 N sc n st with
  |none=>rw [hc] at q;simp only [Option.getD_none,wpS] at q
  |some c=>
   rw [hc] at q
   simp only [Option.getD_some] at q
   refine wpAny_execs_cons (wpAny_mono (ih st c hc env ρ σ s _ E he es F q) (fun fl s1 z=>?_) fun _ _ e=>e)
   obtain ⟨o,ρ1,σ1,q1,r1,F1,p1⟩:=z
   cases o with
   |next=>
    cases r1
    exact wpAny_mono (Z38 ih r env ρ1 σ1 s1 Q E he es F1 q1) (fun _ _ e=>e.trans p1) fun _ _ e=>e
   |ret m=>
    obtain ⟨v,rfl,rv⟩:=r1
    exact ⟨.ret m,ρ1,σ1,q1,⟨v,rfl,rv⟩,F1,p1⟩
theorem Zcs {sc:Scope} {e:PySem.Expr} {pos:Pos} {c:CE} (h1:SE w h₀ os₀ d A T sc e c) (hl:Zd7 e=false):SS w h₀ os₀ d A T sc (.Expr e pos) (.expr c):=by
 intro env ρ σ s Q E he es F q
 simp only [wpS] at q
 exact wpAny_Expr_any (Z1c h1 he F q fun v s' x σ' q' r F' p=>⟨.next,ρ,σ',q'.2,rfl,F',p.toX⟩) (Z3M he.kind) (Z17 hl)
theorem Z8I {sc:Scope} {e:PySem.Expr} {x:Str} {pos px p0:Pos} {c:CE} {k:Nat} (hT:T.Nodup) (hM:T.all ZY=true) (h1:SE w h₀ os₀ d A T sc e c) (hl:Zd7 e=false) (hk:Z11 sc ⟨T,Z14⟩ (.Name x p0)=some k):
  SS w h₀ os₀ d A T sc (.Assign [.Name x px] e pos) (.assign k c):=by
 intro env ρ σ s Q E he es F q
 simp only [wpS] at q
 refine wpAny_Assign_Name (Z1c h1 he F q fun v s' m σ' q' r F' p=>?_) (Z17 hl)
 exact Z1p he.kind es hT hM (Z0k he hk) F' r fun s2 z=>⟨.next,_,σ',q',rfl,z.1,(p.toX).trans z.2⟩
set_option tactic.hygienic true in
theorem ZeT {sc:Scope} {env:Env} {ρ:Loc} {σ:Z4} {s:Shared} {Q:ZT} {E:Value→Shared→Prop} {x:Str} {i:Nat} {k:NameKind} (hk:sc.names.lookup x=some k) (hk':k=.local∨k=.cell∨k=.free) (hx:(x==dbg||x==Zc3)=false) (hi:Z6R x T=some i)
  (he:EnvOk sc env) (S:St w h₀ os₀ σ s) (F:Zu w T env ρ σ s.heap) (q:match (ρ[i]?).join with|some v=>Q v σ|Option.none=>False):
  wpAny (model P w) A (loadName env x) (EP w h₀ os₀ σ s.heap Q) E s:=by
 obtain ⟨m,cm,hn,hc,hv⟩:=F
 split at q
 ·next v e=>
  have hρ:ρ[i]? =some (some v):=by
   cases e':ρ[i]? with
   |none=>rw [e'] at e;cases e
   |some o=>rw [e'] at e;simp at e;rw [e]
  obtain ⟨a,b⟩:=hv i x v (Z1a hi) hρ
  obtain ⟨hx,hx'⟩:=Bool.or_eq_false_iff.mp hx
  rcases hk' with rfl|rfl|rfl
  ·obtain ⟨u,e,r⟩:=a (he.loc x hk)
   exact wpAny_loadName_local he.kind (he.loc x hk) hn e (EP.here S q r)
  ·obtain ⟨c,u,e,e',r⟩:=b (.inl (he.cel x hk))
   exact wpAny_loadName_cell he.kind (he.cel x hk) e (e'▸hc x c e) (EP.here S q r)
  ·rcases he.fre x hk with hf|hf
   ·obtain ⟨c,u,e,e',r⟩:=b (.inr hf)
    exact wpAny_loadName_free he.kind hf e (e'▸hc x c e) (EP.here S q r) hx'
   ·obtain ⟨c,u,e,e',r⟩:=b (.inl hf)
    exact wpAny_loadName_cell he.kind hf e (e'▸hc x c e) (EP.here S q r)
 ·exact q.elim
theorem Z86 {σ:Z4} {s:Shared} {Q:ZT} {E:Value→Shared→Prop} {a b va vb} (S:St w h₀ os₀ σ s) (ra:Rep w σ s.heap a va) (rb:Rep w σ s.heap b vb) (q:Pr.sem .iadd [a,b] σ Q):
  wpAny (model P w) A (inplaceOp .Add va vb) (EP w h₀ os₀ σ s.heap Q) E s:=by
 obtain ⟨r,h,hlen,q⟩|q:=q
 ·rcases Z02 h with h|h
  ·obtain ⟨i,j,rfl,rfl,h⟩:=Z5D h
   cases h;obtain ⟨_,t,rfl⟩:=ra;obtain ⟨_,u,rfl⟩:=rb
   have hlen:(i++j).length≤SL:=hlen
   rw [List.length_append] at hlen
   refine Z0B S.toks (PySem.SB.iadd (fun t' tk hk=>EP.flat S q ⟨by simpa using hlen,t',?_⟩ hk) (by rw [←Z1D];simpa using hlen))
   show Value.str (Str.mk (_++_)) t'=_
   simp [lstr]
  ·obtain ⟨i,j,rfl,rfl,h⟩:=Z4D h
   cases h;obtain ⟨t,rfl⟩:=ra;obtain ⟨u,rfl⟩:=rb;exact wpAny_iadd_int (EP.int S q (Nat.succ_pos _))
 ·exact q.elim
theorem Ze4 {sc:Scope} {e:PySem.Expr} {x:Str} {pos px p0:Pos} {c:CE} {k:Nat} (hT:T.Nodup) (hM:T.all ZY=true) (h1:SE w h₀ os₀ d A T sc e c) (hx:(x==dbg||x==Zc3)=false) (hk:Z11 sc ⟨T,Z14⟩ (.Name x p0)=some k):
  SS w h₀ os₀ d A T sc (.AugAssign (.Name x px) .Add e pos) (.assign k (.pr .iadd [.var k,c])):=by
 intro env ρ σ s Q E he es F q
 simp only [wpS,wpE,wpEs] at q
 have hv:∃kd,sc.names.lookup x=some kd∧(kd=.local∨kd=.cell∨kd=.free):=by
  obtain ⟨kd,hl,hk⟩:=Zb (show b0 (sc.names.lookup x) _=_ from hk)
  obtain ⟨hk,_⟩:=ZC hk
  cases kd with
  | «local» =>exact ⟨_,hl,.inl rfl⟩
  |cell=>exact ⟨_,hl,.inr (.inl rfl)⟩
  |_=>cases hk
 obtain ⟨kd,hkd,hkd'⟩:=hv
 have hi:=(Z0k he hk).2
 refine wpAny_AugAssign_Name (Zg (ZeT (Q:=fun m σ'=>wpE (Z3 FT d) c ρ σ' fun v σ''=>Pr.sem .iadd [m,v] σ'' fun v σ'=>Q .next (ρ.set k (some v)) σ') hkd hkd' hx hi he F.st F.fr q) fun v1 s1 m1 σ1 q1 r1 S1 p1=>?_)
 have F1:=F.eval S1 p1
 refine Z1c h1 he F1 q1 fun v2 s2 m2 σ2 q2 r2 F2 p2=>?_
 refine Zg (Z86 F2.st (Rep.pres p2 F1.st.toStL noX _ r1) r2 q2) fun v3 s3 m3 σ3 q3 r3 S3 p3=>?_
 have F3:=F2.eval S3 p3
 exact Z1p he.kind es hT hM (Z0k he hk) F3 r3 fun s4 z=>⟨.next,_,σ3,q3,rfl,z.1,(((p1.trans p2).trans p3).toX).trans z.2⟩
theorem Z8H {sc:Scope} {e:PySem.Expr} {pos:Pos} {c:CE} (h1:SE w h₀ os₀ d A T sc e c):SS w h₀ os₀ d A T sc (.Return (some e) pos) (.ret c):=by
 intro env ρ σ s Q E he es F q
 simp only [wpS] at q
 exact wpAny_Return_some (Z1c h1 he F q fun v s' m σ' q' r F' p=>⟨.ret m,ρ,σ',q',⟨v,rfl,r⟩,F',p.toX⟩)
set_option tactic.hygienic true in
theorem Z8G {sc:Scope} {o i e:PySem.Expr} {pos p2:Pos} {a b c:CE} (h1:SE w h₀ os₀ d A T sc o a) (h2:SE w h₀ os₀ d A T sc i b) (h3:SE w h₀ os₀ d A T sc e c) (hl:Zd7 e=false):
  SS w h₀ os₀ d A T sc (.Assign [.Subscript o i p2] e pos) (.setidx a b c):=by
 intro env ρ σ s Q E he es F q
 simp only [wpS] at q
 refine wpAny_Assign_Subscript (Z1c h3 he F q fun v1 s1 m1 σ1 q1 r1 F1 p1=>?_) (Z17 hl)
 refine Z1c h1 he F1 q1 fun v2 s2 m2 σ2 q2 r2 F2 p2=>?_
 refine Z1c h2 he F2 q2 fun v3 s3 m3 σ3 q3 r3 F3 p3=>?_
 split at q3
 ·obtain ⟨h0,items,e',q3⟩:=q3
  split at q3
  ·next j hj=>
   obtain ⟨t,rfl⟩:=r3
   cases Rep.pres p3 F2.st.toStL noX _ r2
   refine Z4O F3.st e' (Rep.pres p3 F2.st.toStL noX _ (Rep.pres p2 F1.st.toStL noX _ r1)) h0 hj fun s4 S4 p4=>?_
   exact ⟨.next,ρ,_,q3,rfl,F3.eval S4 p4,(((p1.trans p2).trans p3).trans p4).toX⟩
  ·exact q3.elim
 ·exact q3.elim
theorem Zgr {sc:Scope} {t:PySem.Expr} {a b:List Stmt} {pos:Pos} {ct:CE} {ca cb:List CS} (ht:SB w h₀ os₀ d A T sc t ct) (ha:SSs w h₀ os₀ d A T sc a ca) (hb:SSs w h₀ os₀ d A T sc b cb):
  SS w h₀ os₀ d A T sc (.If t a b pos) (.ite ct ca cb):=by
 intro env ρ σ s Q E he es F q
 simp only [wpS] at q
 refine wpAny_If (wpAny_mono (ht env ρ σ s (fun b' σ'=>if b' then wpSs (Z3 FT d) ca ρ σ' Q else wpSs (Z3 FT d) cb ρ σ' Q) E he F.st F.fr (Z0K q (fun _ z=>by simpa using z) (fun _ z=>by simpa using z))) (fun b' s1 z=>?_) fun _ _ x=>x)
 obtain ⟨σ1,q1,S1,p1⟩:=z
 have F1:=F.eval S1 p1
 cases b' with
 |true=>exact wpAny_mono (ha env ρ σ1 s1 Q E he es F1 q1) (fun _ _ e=>e.trans p1.toX) fun _ _ x=>x
 |false=>exact wpAny_mono (hb env ρ σ1 s1 Q E he es F1 q1) (fun _ _ e=>e.trans p1.toX) fun _ _ x=>x
set_option tactic.hygienic true in
theorem ZaD {sc:Scope} {t:PySem.Expr} {a:List Stmt} {pos:Pos} {ct:CE} {ca:List CS} (ht:SB w h₀ os₀ d A T sc t ct) (ha:SSs w h₀ os₀ d A T sc a ca):
  SS w h₀ os₀ d A T sc (.While t a [] pos) (.while ct ca):=by
 intro env ρ σ s Q E he es F q
 simp only [wpS] at q
 obtain ⟨I,⟨n0,hI0⟩,step⟩:=q
 refine wpAny_While (codeAny_whileLoop (fun n s'=>∃ρ' σ',I n ρ' σ'∧FrS w h₀ os₀ T env ρ' σ' s'∧Pres (XE env) σ s.heap σ' s'.heap) ?_ n0 ⟨ρ,σ,hI0,F,Pres.refl⟩)
 rintro n s' ⟨ρ',σ',hI,F',p'⟩
 have q:=step n ρ' σ' hI
 refine wpAny_mono (ht env ρ' σ' s' (fun b' σ''=>if b' then wpSs (Z3 FT d) ca ρ' σ'' (fun o ρ'' σ3=>match o with| .next=>∃m,m<n∧I m ρ'' σ3| .ret x=>Q (.ret x) ρ'' σ3) else Q .next ρ' σ'') _ he F'.st F'.fr (Z0K q (fun _ z=>by rw [if_pos rfl];exact z) (fun _ z=>by rw [if_neg Bool.false_ne_true];exact z))) (fun b' s1 z=>?_) fun _ _ x=>x
 obtain ⟨σ1,q1,S1,p1⟩:=z
 have F1:=F'.eval S1 p1
 cases b' with
 |true=>
  simp only [if_true] at q1 ⊢
  refine wpAny_mono (ha env ρ' σ1 s1 _ _ he es F1 q1) (fun fl s2 z=>?_) fun _ _ x=>x
  obtain ⟨o,ρ2,σ2,q2,r2,F2,p2⟩:=z
  have pp:=(p'.trans p1.toX).trans p2
  cases o with
  |next=>
   cases r2
   obtain ⟨m,hm,hIm⟩:=q2
   exact ⟨m,hm,ρ2,σ2,hIm,F2,pp⟩
  |ret m=>
   obtain ⟨v,rfl,rv⟩:=r2
   exact ⟨.ret m,ρ2,σ2,q2,⟨v,rfl,rv⟩,F2,pp⟩
 |false=>
  simp only [Bool.false_eq_true,if_false] at q1 ⊢
  exact wpAny_execs_nil ⟨.next,ρ',σ1,q1,rfl,F1,p'.trans p1.toX⟩
end
end Mine
namespace Mine
theorem Z3D {k:Nat} {m:Option MV}:∀{ks:List Nat} {ms:List MV} {ρ:Loc},k∉ks→(setMany ρ ks ms).set k m=setMany (ρ.set k m) ks ms
 |[],_,_,_=>by simp [setMany]
 |j::ks,[],_,_=>by simp [setMany]
 |j::ks,x::ms,ρ,h=>by
  simp only [List.mem_cons,not_or] at h
  simp only [setMany]
  rw [Z3D h.2,List.set_comm _ _ (Ne.symm h.1)]
theorem Z2S {k:Nat} {m:MV}:∀{ks:List Nat} {ms:List MV} {ρ:Loc},ks.length=ms.length→setMany ρ (ks++[k]) (ms++[m])=(setMany ρ ks ms).set k (some m)
 |[],[],_,_=>rfl
 |j::ks,x::ms,ρ,h=>by
  simp only [List.cons_append,setMany]
  exact Z2S (by simpa using h)
 |[],_::_,_,h=>by simp at h
 |_::_,[],_,h=>by simp at h
theorem Z3E:∀{ks:List Nat} {ms:List MV} {ρ:Loc},ks.length=ms.length→ks.Nodup→setMany ρ ks.reverse ms.reverse=setMany ρ ks ms
 |[],[],_,_,_=>rfl
 |j::ks,x::ms,ρ,h,hn=>by
  rw [List.nodup_cons] at hn
  rw [List.reverse_cons,List.reverse_cons,Z2S (by simpa using h),Z3E (by simpa using h) hn.2,Z3D hn.1]
  rfl
 |[],_::_,_,h,_=>by simp at h
 |_::_,[],_,h,_=>by simp at h
section
variable {w:World} {h₀:Heap} {os₀:OsState} {d:Nat} {A:Around} {T:List Str} {n:Nat} {env:Env}
noncomputable def Z7Y (T:List Str) (env:Env) (p:Str×Nat):Prop:=(env.kindOf p.1=some .local∨(env.kindOf p.1=some .cell∧∃c,env.cells.lookup p.1=some c))∧Z6R p.1 T=some p.2
noncomputable def Zg9 (w:World) (A:Around) (T:List Str) (env:Env):List (Value→Sem Unit)→List (Str×Nat)→Prop
 |[],[]=>True
 |t::ts,p::l=>(∀u Q E s,wpAny (model P w) A (storeName env p.1 u) Q E s→wpAny (model P w) A (t u) Q E s)∧Z7Y T env p∧Zg9 w A T env ts l
 |_,_=>False
theorem Z2u (hf:env.scope.kind=.function) (es:EnvSt h₀ env) (hT:T.Nodup) (hM:T.all ZY=true):∀(ts:List (Value→Sem Unit)) (l:List (Str×Nat)) (vs:List Value) (ms:List MV) (ρ:Loc) (σ:Z4) (s:Shared) (Q:Unit→Shared→Prop) (E:Value→Shared→Prop),
  Zg9 w A T env ts l→l.length=ms.length→ZA w σ s.heap ms vs→FrS w h₀ os₀ T env ρ σ s→(∀s',StP w h₀ os₀ T env (setMany ρ (l.map (·.2)) ms) σ s.heap s'→Q () s')→
  wpAny (model P w) A (assignInOrder ts vs) Q E s
 |[],[],vs,ms,ρ,σ,s,Q,E,_,hl,r,F,h=>by
  have:ms=[]:=List.length_eq_zero_iff.mp hl.symm
  subst this
  cases r
  exact wpAny_assignInOrder_none (h s ⟨F,Pres.refl⟩)
 |t::ts,p::l,vs,ms,ρ,σ,s,Q,E,ht,hl,r,F,h=>by
  obtain ⟨h1,h2,h3⟩:=ht
  cases ms with
  |nil=>simp at hl
  |cons m ms=>
   obtain ⟨v,rest,rfl,rv,rr⟩:=r
   refine wpAny_assignInOrder_more (h1 _ _ _ _ (Z1p hf es hT hM h2 F rv fun s1 z=>?_))
   refine Z2u hf es hT hM ts l rest ms _ σ s1 Q E h3 (by simpa using hl) (ZA.pres z.2 F.st.toStL F.notVal _ rr) z.1 fun s2 z2=>h s2 ⟨z2.1,z.2.trans z2.2⟩
 |[],_::_,_,_,_,_,_,_,_,ht,_,_,_,_=>ht.elim
 |_::_,[],_,_,_,_,_,_,_,ht,_,_,_,_=>ht.elim
noncomputable def Nm (l:List (Str×Pos×Nat)):List PySem.Expr:=l.map fun q=>.Name q.1 q.2.1
noncomputable def snk (l:List (Str×Pos×Nat)):List (Str×Nat):=l.map fun q=>(q.1,q.2.2)
theorem Z3S {sc:Scope} (he:EnvOk sc env):∀{es:List PySem.Expr} {ks:List Nat},Z19 sc ⟨T,Z14⟩ es=some ks→∃l,es=Nm l∧ks=(snk l).map (·.2)∧∀p∈snk l,Z7Y T env p:=by
 intro es
 induction es with
 |nil=>intro ks h;cases h;exact ⟨[],rfl,rfl,fun _ h=>by cases h⟩
 |cons e r ih=>
  intro ks h
  obtain ⟨a,b,h1,h2,h⟩:=Z2W h
  obtain ⟨l,rfl,rfl,hl⟩:=ih h2
  obtain ⟨⟨x,p⟩,hx,_⟩:=Zb h1
  cases h
  cases Z0P hx
  refine ⟨(x,p,a)::l,rfl,rfl,fun q hq=>?_⟩
  rcases List.mem_cons.mp hq with rfl|hq
  ·exact Z0k he h1
  ·exact hl q hq
theorem Zfo {x:Str} {p:Pos} {r:List PySem.Expr}:assignEach (.Name x p::r) env=(false,assign (.Name x p) env)::assignEach r env:=rfl
theorem Z6Y:∀l:List (Str×Pos×Nat),assignEach (Nm l) env=l.map fun q=>(false,assign (.Name q.1 q.2.1) env):=by
 intro l
 induction l with
 |nil=>rfl
 |cons q l ih=>exact congrArg (_:: ·) ih
theorem Zcl:∀l:List (Str×Pos×Nat),(∀p∈snk l,Z7Y T env p)→Zg9 w A T env (l.map fun q=>assign (.Name q.1 q.2.1) env) (snk l):=by
 intro l
 induction l with
 |nil=>exact fun _=>trivial
 |cons q l ih=>exact fun h=>⟨fun u Q E s hh=>wpAny_assign_Name hh,h _ List.mem_cons_self,ih fun p hp=>h p (List.mem_cons_of_mem _ hp)⟩
theorem ZaZ (f:Str→Pos→Option Str) (hf:∀x p y,f x p=some y→y=x):∀l:List (Str×Pos×Nat),(l.filterMap fun q=>f q.1 q.2.1).length=l.length→(l.filterMap fun q=>f q.1 q.2.1)=(snk l).map (·.1):=by
 intro l
 induction l with
 |nil=>exact fun _=>rfl
 |cons q l ih=>
  intro hl
  cases hq:f q.1 q.2.1 with
  |none=>
   rw [List.filterMap_cons_none (f:=fun q:Str×Pos×Nat=>f q.1 q.2.1) hq] at hl
   exact absurd (hl▸List.length_filterMap_le _ l) (Nat.not_succ_le_self _)
  |some y=>
   rw [List.filterMap_cons_some (f:=fun q:Str×Pos×Nat=>f q.1 q.2.1) hq] at hl ⊢
   rw [ih (Nat.succ.inj hl),hf _ _ _ hq];rfl
theorem Z7w {α:Type} {c:Prop} [Decidable c] {a b x y:α} (h1:a=x) (h2:¬c→b=x∨b=y):ite c a b=x∨ite c a b=y:=by
 by_cases h:c
 ·rw [if_pos h];exact .inl h1
 ·rw [if_neg h];exact h2 h
theorem Z4N {l:List (Str×Pos×Nat)} {k:Nat} {p:Pos} {e:PySem.Expr} (hp:Z9f e=true):
  swappedStores [.Tuple (Nm l) k p] e env=pure none∨swappedStores [.Tuple (Nm l) k p] e env=pure (some ((snk l).map (·.1))):=by
 cases e with
 |Tuple vs k2 p2=>
  refine Z7w rfl fun h1=>Z7w rfl fun h2=>Z7w rfl fun h3=>Z7w rfl fun h4=>.inr ?_
  have hlen:(Nm l).length=l.length:=List.length_map _
  simp only [Bool.or_eq_true,not_or,Bool.not_eq_true,bne_eq_false_iff_eq,Bool.not_eq_eq_eq_not,Bool.not_true] at h1 h3
  obtain ⟨⟨h1a,h1b⟩,_⟩:=h1
  have hl:(vs.length==2||vs.length==3)=true:=by
   rw [h1b]
   cases hh:((Nm l).length==2||(Nm l).length==3) with
   |true=>rfl
   |false=>rw [hh] at h1a;exact absurd rfl h1a
  have hp:(!((vs.length==2||vs.length==3)&&vs.all (constantsAlone 8)))=true:=hp
  rw [hl,Bool.true_and,Bool.not_eq_true'] at hp
  rw [if_neg (by rw [hp];exact Bool.false_ne_true)]
  have key:=ZaZ (fun id pos=>if (env.kindOf id==some NameKind.local&&pos.line==(Option.map (fun x=>x.pos.line) (Nm l).head?).getD 0)=true then some id else none) (fun x p y h=>by
   split at h
   ·cases h;rfl
   ·cases h) l
  have e:=h3.1
  rw [hlen] at e
  unfold Nm at e
  rw [List.filterMap_map] at e
  rw [←key e]
  show pure (some (List.filterMap _ (List.map _ l)))=_
  rw [List.filterMap_map]
  rfl
 |_=>exact .inl rfl
theorem Z2N {sc:Scope} {es:List PySem.Expr} {ks:List Nat} {k:Nat} {p:Pos} {ms:List MV} {v:Value} {ρ:Loc} {σ:Z4} {s:Shared} {Q:Unit→Shared→Prop} {E:Value→Shared→Prop} (he:EnvOk sc env) (he2:EnvSt h₀ env) (hh:A.handled=none) (hT:T.Nodup) (hM:T.all ZY=true)
  (hks:Z19 sc ⟨T,Z14⟩ es=some ks) (hl:ms.length=ks.length) (r:Rep w σ s.heap (.tup ms) v) (F:FrS w h₀ os₀ T env ρ σ s)
  (h:∀s',StP w h₀ os₀ T env (setMany ρ ks ms) σ s.heap s'→Q () s'):wpAny (model P w) A (assign (.Tuple es k p) env v) Q E s:=by
 obtain ⟨l,rfl,rfl,h2⟩:=Z3S he hks
 have h3:=Zcl (w:=w) (A:=A) l h2
 obtain ⟨_,a,vs,rfl,hc,rl⟩:=r
 have hlen:=rl.length
 simp only [Array.length_toList] at hlen
 simp only [List.length_map] at hl
 refine wpAny_assign_Tuple hh hc (by rw [Z6Y,List.length_map,hlen,hl];exact (List.length_map _).symm) (by rw [Z6Y,List.findIdx?_map];exact List.findIdx?_eq_none_iff.mpr fun _ _=>rfl) fun h' hx=>?_
 rw [Z6Y,List.map_map]
 have g:∀b o,s.heap.get? b=some o→h'.get? b=some o:=fun b o e=>hx b o (Nat.ne_of_lt (Heap.lt_size e)) e
 have S':=F.st.grow (k:=s.toks) F.st.toks g
 have p0:Pres (fun _=>False) σ s.heap σ h':=Pres.of_keeps g
 exact Z2u he.kind he2 hT hM _ (snk l) _ ms ρ σ _ Q E h3 hl.symm (ZA.pres p0 F.st.toStL noX _ rl) (F.eval S' p0) fun s2 z=>h s2 ⟨z.1,p0.toX.trans z.2⟩
theorem ZA.reverse {σ:Z4} {h:Heap}:∀{l:List MV} {vs:List Value},ZA w σ h l vs→ZA w σ h l.reverse vs.reverse
 |[],_,r=>by cases r;exact rfl
 |m::ms,_,r=>by
  obtain ⟨v,rest,rfl,h1,y⟩:=r
  rw [List.reverse_cons,List.reverse_cons]
  exact (ZA.reverse y).append (ZA.one h1)
theorem Z5u:∀{l:List (Str×Nat)},(∀p∈l,Z7Y T env p)→Zg9 w A T env (l.map fun p=>bindName env p.1) l
 |[],_=>trivial
 |p::l,h=>⟨fun u Q E s hh=>wpAny_bindName hh,h p List.mem_cons_self,Z5u fun q hq=>h q (List.mem_cons_of_mem _ hq)⟩
set_option tactic.hygienic true in
theorem Z8F {sc:Scope} {es:List PySem.Expr} {ks:List Nat} {k:Nat} {tp pos:Pos} {e:PySem.Expr} {c:CE} (hh:A.handled=none) (hT:T.Nodup) (hM:T.all ZY=true) (h1:SE w h₀ os₀ d A T sc e c) (hl:Zd7 e=false) (hp:Z9f e=true)
  (hks:Z19 sc ⟨T,Z14⟩ es=some ks) (hnd:ks.Nodup):SS w h₀ os₀ d A T sc (.Assign [.Tuple es k tp] e pos) (.unpack ks c):=by
 intro env ρ σ s Q E he es' F q
 simp only [wpS] at q
 have hs:swapsWithSole [.Tuple es k tp] e pos.line env=pure false:=by
  show swapsWith e (some (.Tuple es k tp)) pos.line env=pure false
  exact Z17 hl
 rw [exec_Assign_arm]
 refine wpAny_bind (wpAny_standAt ?_)
 rw [hs]
 refine wpAny_bind (wpAny_pure ?_)
 rw [if_neg (by decide)]
 refine wpAny_bind (Z1c h1 he F q fun v s1 m σ1 q1 r1 F1 p1=>?_)
 split at q1
 ·next ms=>
  obtain ⟨hlen,q1⟩:=q1
  obtain ⟨l0,rfl,hl2,hl3⟩:=Z3S he hks
  replace hl2:=hl2.symm
  have hw:=Z4N (l:=l0) (k:=k) (p:=tp) (env:=env) hp
  generalize snk l0=l at hl2 hl3 hw
  rcases hw with hw|hw
  ·rw [hw]
   refine wpAny_bind (wpAny_pure ?_)
   show wpAny _ A (do assignAll v [assign (.Tuple (Nm l0) k tp) env];pure Flow.next) _ _ _
   refine wpAny_bind (Z2N he es' hh hT hM hks hlen r1 F1 fun s2 z=>wpAny_pure ?_)
   exact ⟨.next,_,σ1,q1,rfl,z.1,p1.toX.trans z.2⟩
  ·rw [hw]
   refine wpAny_bind (wpAny_pure ?_)
   obtain ⟨_,a,vs,rfl,hc,rl⟩:=r1
   have hvl:=rl.length
   simp only [Array.length_toList] at hvl
   have hll:l.length=ms.length:=by rw [hlen,←hl2,List.length_map]
   unfold assignStores
   dsimp only
   have hsz:(l.map (·.1)).length=vs.size:=by rw [List.length_map,hll,hvl]
   rw [hsz]
   refine wpAny_bind (wpAny_rule (wpAny_bind (wpAny_unpackItems_tuple hh hc fun h' hx=>?_)))
   have g:∀b o,s1.heap.get? b=some o→h'.get? b=some o:=fun b o e=>hx b o (Nat.ne_of_lt (Heap.lt_size e)) e
   have S':=F1.st.grow (k:=s1.toks) F1.st.toks g
   have p0:Pres (fun _=>False) σ1 s1.heap σ1 h':=Pres.of_keeps g
   have hmap:((l.map (·.1)).reverse.map fun n=>bindName env n)=l.reverse.map fun p=>bindName env p.1:=by
    rw [←List.map_reverse,List.map_map];rfl
   rw [hmap]
   refine wpAny_bind (Z2u he.kind es' hT hM _ l.reverse _ ms.reverse ρ σ1 _ _ _ (Z5u fun q hq=>hl3 q (List.mem_reverse.mp hq)) (by simp [hll]) ((ZA.pres p0 F1.st.toStL noX _ rl).reverse) (F1.eval S' p0) fun s2 z=>?_)
   refine wpAny_pure ⟨.next,_,σ1,?_,rfl,z.1,(p1.toX.trans p0.toX).trans z.2⟩
   rw [List.map_reverse,Z3E (by simp [hll]) (by rw [hl2];exact hnd),hl2]
   exact q1
 ·exact q1.elim
end
end Mine
namespace Mine
section
variable {w:World} {h₀:Heap} {os₀:OsState} {d:Nat} {A:Around} {T:List Str} {n:Nat} {env:Env}
theorem Z9F {ρ:Loc} {σ:Z4} {s:Shared} {I:Addr} (F:FrS w h₀ os₀ T env ρ σ s) (x:Z1V s.heap I):¬XE env I:=by
 rintro (rfl|⟨n,hn⟩)
 ·obtain ⟨m,hm,_⟩:=F.ns
  exact Z4Z hm x
 ·obtain ⟨m,cm,_,hc,_⟩:=F.fr
  exact Z4a (hc n I hn) x
set_option maxHeartbeats 1000000 in
set_option tactic.hygienic true in
theorem Z7C {sc:Scope} {target iter:PySem.Expr} {a:List Stmt} {pos:Pos} {ci:CE} {ca:List CS} {f:MV→Loc→Z4→Zn→Prop} {env:Env} {ρ:Loc} {σ:Z4} {s:Shared} {Q:Zn} {E:Value→Shared→Prop} (he:EnvOk sc env) (es:EnvSt h₀ env) (hh:A.handled=none)
  (h1:SE w h₀ os₀ d A T sc iter ci) (ha:SSs w h₀ os₀ d A T sc a ca) (hs:∀env x,foldedSetIterable iter env x=pure x)
  (hasg:∀(I:Addr) u mv ρ' σ' s' Q1 (U:Unit→Shared→Prop) (E:Value→Shared→Prop),FrS w h₀ os₀ T env ρ' σ' s'→Rep w σ' s'.heap mv u→Z1V s'.heap I→f mv ρ' σ' Q1→
   (∀ρ2 s2,FrS w h₀ os₀ T env ρ2 σ' s2→Pres (XE env) σ' s'.heap σ' s2.heap→wpSs (Z3 FT d) ca ρ2 σ' Q1→U () s2)→
   wpAny (model P w) A (letOwnedTupleGo target (.ref I) u) (fun _ s1'=>wpAny (model P w) A (assign target env u) U E s1') E s')
  (F:FrS w h₀ os₀ T env ρ σ s) (q:wpE (Z3 FT d) ci ρ σ fun v σ'=>match iterOf v with
   |some items=>wpFor f items ρ σ' Q
   |Option.none=>False):
  wpAny (model P w) A (exec (.For target iter a [] pos) env) (SP w h₀ os₀ T env σ s.heap Q) E s:=by
 refine wpAny_For (Z1c h1 he F q fun v1 s1 m σ1 q1 r1 F1 p1=>?_) (hs env)
 split at q1
 ·next items hit=>
  refine Z7u F1.st r1 hit hh fun o Pf Stt W st0=>?_
  generalize hI:s1.heap.objs.size=I at W st0 ⊢
  have g2:=Zr s1.heap o
  have S2:St w h₀ os₀ σ1 {s1 with heap:=s1.heap.push o}:=F1.st.grow (k:=s1.toks) F1.st.toks g2
  have p2:Pres (fun _=>False) σ1 s1.heap σ1 (s1.heap.push o):=Pres.of_keeps g2
  have F2:=F1.eval S2 p2
  have hσI:σ1 I=none:=hI▸F1.st.untracked_new (Heap.get?_size _)
  have hI0:h₀.get? I=none:=hI▸Z59 F1.st
  have r2:=Rep.pres p2 F1.st.toStL noX _ r1
  refine codeAny_forLoop_any (fun kk s'=>∃i ρ' σ',i≤items.length∧kk=items.length+1-i∧FrS w h₀ os₀ T env ρ' σ' s'∧Stt i s'.heap∧σ' I=none∧Rep w σ' s'.heap m v1∧wpFor f (items.drop i) ρ' σ' Q∧Pres (XE env) σ1 s1.heap σ' s'.heap) ?_ (items.length+1)
   ⟨0,ρ,σ1,Nat.zero_le _,rfl,F2,st0,hσI,r2,q1,p2.toX⟩
  rintro kk s' ⟨i,ρ',σ',hi,rfl,F',st',hI',r',qq,p'⟩
  have nvI:=(W.it _ _ st').notVal (w:=w)
  have hX5:∀b,b=I→ZU w s'.heap b:=fun b e=>e▸nvI
  have step:∀h5 k5,0<k5→(∀b o,b≠I→s'.heap.get? b=some o→h5.get? b=some o)→FrS w h₀ os₀ T env ρ' σ' {s' with heap:=h5,toks:=k5}∧Rep w σ' h5 m v1∧Pres (XE env) σ1 s1.heap σ' h5:=by
   intro h5 k5 hk5 g5
   obtain ⟨S5,p5⟩:=F'.st.moved hk5 hI' hI0 g5 nvI
   have F5:Zu w T env ρ' σ' h5:=F'.fr.presX p5 F'.st.toStL hX5 (fun mm hmm e=>Z4Z hmm (e▸W.it _ _ st')) (fun cc v hv e=>Z4a hv (e▸W.it _ _ st'))
   refine ⟨⟨S5,F5,?_⟩,Rep.pres p5 F'.st.toStL hX5 _ r',?_⟩
   ·obtain ⟨mN,hmN,hmk⟩:=F'.ns
    exact ⟨mN,p5.ns F'.st.toStL (fun (e:env.locals=I)=>Z4Z hmN (e▸W.it _ _ st')) hmN,hmk⟩
   ·intro b o' e e' nx
    have hbI:b≠I:=fun q=>by rw [←hI] at q;rw [q,Heap.get?_size] at e;cases e
    have z:=p' b o' e e' nx
    exact ⟨g5 b o' hbI z.1,z.2⟩
  by_cases hlt:i<items.length
  ·refine W.item i _ _ _ hlt st' F'.st.toks fun u h5 k5 hk5 hP st5 g5=>?_
   obtain ⟨F5,r5,p5⟩:=step h5 k5 hk5 g5
   have ru:=W.rep i _ u σ' h5 hP st5 hlt r5
   rw [List.drop_eq_getElem_cons hlt] at qq
   simp only [wpFor] at qq
   refine hasg I u _ ρ' σ' _ _ _ _ F5 ru (W.it _ _ st5) qq fun ρ6 s6 F6 p6 q6=>?_
   have notI:¬XE env I:=Z9F F5 (W.it _ _ st5)
   have r6:=Rep.pres p6 F5.st.toStL F5.notVal _ r5
   have st6:Stt (i+1) s6.heap:=W.fr _ _ _ _ _ _ F5.st.toStL r5 st5 hI' p6 F5.notVal notI
   refine wpAny_mono (ha env ρ6 σ' s6 _ _ he es F6 q6) (fun fl s7 z=>?_) fun _ _ x=>x
   obtain ⟨o7,ρ7,σ7,q7,r7,F7,p7⟩:=z
   have pp:=(p5.trans p6).trans p7
   have hI7:σ7 I=none:=by
    obtain ⟨o',k',fs,ho',_⟩:=W.it _ _ st6
    exact (p7 I o' ho' hI' notI).2
   cases o7 with
   |next=>
    cases r7
    exact ⟨items.length+1-(i+1),by omega,i+1,ρ7,σ7,hlt,rfl,F7,W.fr _ _ _ _ _ _ F6.st.toStL r6 st6 hI' p7 F6.notVal notI,hI7,Rep.pres p7 F6.st.toStL F6.notVal _ r6,q7,pp⟩
   |ret x=>
    obtain ⟨v,rfl,rv⟩:=r7
    exact ⟨.ret x,ρ7,σ7,q7,⟨v,rfl,rv⟩,F7,p1.toX.trans pp⟩
  ·obtain rfl:i=items.length:=Nat.le_antisymm hi (Nat.not_lt.mp hlt)
   refine W.done _ _ _ st' F'.st.toks fun h5 k5 hk5 g5=>?_
   obtain ⟨F5,r5,p5⟩:=step h5 k5 hk5 g5
   rw [List.drop_length] at qq
   simp only [wpFor] at qq
   exact wpAny_execs_nil ⟨.next,ρ',σ',qq,rfl,F5,p1.toX.trans p5⟩
 ·exact q1.elim
theorem Ze3 {sc:Scope} {x:Str} {px p0 pos:Pos} {iter:PySem.Expr} {a:List Stmt} {ci:CE} {ca:List CS} {k:Nat} (hh:A.handled=none) (hT:T.Nodup) (hM:T.all ZY=true) (h1:SE w h₀ os₀ d A T sc iter ci) (ha:SSs w h₀ os₀ d A T sc a ca) (hs:∀env x,foldedSetIterable iter env x=pure x)
  (hk:Z11 sc ⟨T,Z14⟩ (.Name x p0)=some k):SS w h₀ os₀ d A T sc (.For (.Name x px) iter a [] pos) (.for k ci ca):=by
 intro env ρ σ s Q E he es F q
 simp only [wpS] at q
 refine Z7C he es hh h1 ha hs (fun I u mv ρ' σ' s' Q1 U E F' r' _ q' hU=>?_) F q
 refine wpAny_of_eq (rfl:letOwnedTupleGo (.Name x px) (.ref I) u=pure ()) (wpAny_assign_Name ?_)
 exact Z1p he.kind es hT hM (Z0k he hk) F' r' fun s2 z=>hU _ s2 z.1 z.2 q'
set_option tactic.hygienic true in
theorem Zcr {sc:Scope} {elts:List PySem.Expr} {kk:Nat} {px pos:Pos} {iter:PySem.Expr} {a:List Stmt} {ci:CE} {ca:List CS} {ks:List Nat} (hh:A.handled=none) (hT:T.Nodup) (hM:T.all ZY=true) (h1:SE w h₀ os₀ d A T sc iter ci) (ha:SSs w h₀ os₀ d A T sc a ca) (hs:∀env x,foldedSetIterable iter env x=pure x)
  (hk:Z19 sc ⟨T,Z14⟩ elts=some ks):SS w h₀ os₀ d A T sc (.For (.Tuple elts kk px) iter a [] pos) (.forT ks ci ca):=by
 intro env ρ σ s Q E he es F q
 simp only [wpS] at q
 refine Z7C he es hh h1 ha hs (fun I u mv ρ' σ' s' Q1 U E F' r' hI q' hU=>?_) F q
 split at q'
 ·next l=>
  obtain ⟨hlen,q'⟩:=q'
  obtain ⟨hl,aa,vs,rfl,hc,rl⟩:=id r'
  refine hI.go ?_
  exact Z2N he es hh hT hM hk hlen r' F' fun s2 z=>hU _ s2 z.1 z.2 q'
 ·exact q'.elim
theorem Z4F {N:Names} {sc:Scope} {e:PySem.Expr} {c:CE} (h:frz (Zc N n sc) e=some c) (env:Env) (x:Value):foldedSetIterable e env x=pure x:=by
 replace h:=Z6W h
 rcases h with ⟨l,p,cs,rfl,_⟩|h
 ·rfl
 ·exact Z5Y h env x
theorem Z9L {op:Operator} (h:Zf2 op=true):op=.Add:=by cases op<;>first|rfl|exact ff h
set_option maxHeartbeats 1000000 in
theorem Z5m {mg mb:Str→Option Value} (B:Base w h₀ mg mb) (R:Room d A) (HC:Z79 w h₀ os₀ d A) (hT:T.Nodup) (hM:T.all ZY=true) (sc:Scope) (N:Nat):∀(n:Nat) (st:Stmt) (c:CS),Z47 ⟨T,Z14⟩ sc n st=some c→SS w h₀ os₀ d A T sc st c
 |0,st,c,h=>nn h
 |n+1,st,c,h=>by
  revert c
  have ih:=fun st c h=>Z5m B R HC hT hM sc N n st c h
  have X:=fun e c h=>(Z3j (T:=T) (os₀:=os₀) B R HC n sc e c h).1
  have XB:=fun e c h=>(Z3j (T:=T) (os₀:=os₀) B R HC n sc e c h).2
  have bl:=fun b=>Z38 (w:=w) (h₀:=h₀) (os₀:=os₀) (d:=d) (A:=A) (T:=T) (N:=⟨T,Z14⟩) ih b
  cases st with
  |Expr e pos=>
   refine Z1m fun hl=>?_
   refine Z2c fun ce hc=>?_
   refine Z2b ?_
   exact Zcs (X _ _ hc) (nt hl)
  |Assign ts e pos=>
   refine Z2c fun t ht=>?_
   refine Z1m fun hl=>?_
   replace hl:=nt hl
   cases Z0o ht
   refine Zdo ?_ ?_
   ·rintro ⟨x,px⟩ ht
    refine Z4e fun k ce h1 h2=>?_
    cases Z0P ht
    exact Z2b (Z8I hT hM (X _ _ h2) hl h1)
   refine Zdo (fun es ht=>?_) ?_
   ·refine Z1m fun hp=>?_
    refine Z4e fun ks ce h1 h2=>?_
    refine Z1m fun hnd=>?_
    obtain ⟨kk,px,e1⟩:=Z2r ht
    cases e1
    exact Z2b (Z8F R.handled hT hM (X _ _ h2) hl hp h1 (of_decide_eq_true hnd))
   ·refine Z2c ?_
    rintro ⟨o,i⟩ ht
    refine Z4e fun a b h1 h2=>?_
    refine Z2c fun ce h3=>?_
    obtain ⟨px,e1⟩:=Zay ht
    cases e1
    exact Z2b (Z8G (X _ _ h1) (X _ _ h2) (X _ _ h3) hl)
  |AugAssign t op e pos=>
   refine Z1m fun ho=>?_
   refine Z2c ?_
   rintro ⟨x,px⟩ ht
   refine Z1m fun hx=>?_
   refine Z4e fun k ce h1 h2=>?_
   cases Z9L ho
   cases Z0P ht
   exact Z2b (Ze4 hT hM (X _ _ h2) (nt hx) h1)
  |Return v pos=>
   refine Z2c fun e he=>?_
   refine Z2c fun ce hc=>?_
   cases he
   refine Z2b ?_
   exact Z8H (Z4s X hc)
  |If t a b pos=>
   refine Z2c fun ce hc=>?_
   refine Z2b ?_
   exact Zgr (XB _ _ hc) (bl _) (bl _)
  |While t a o pos=>
   refine Z1m fun ho=>?_
   refine Z2c fun ce hc=>?_
   cases List.isEmpty_iff.mp ho
   refine Z2b ?_
   exact ZaD (XB _ _ hc) (bl _)
  |For t it a o pos=>
   refine Z1m fun ho=>?_
   cases List.isEmpty_iff.mp ho
   refine Zdo ?_ ?_
   ·rintro ⟨x,px⟩ ht
    refine Z4e fun k ce h1 h2=>?_
    cases Z0P ht
    exact Z2b (Ze3 R.handled hT hM (Z4s X h2) (bl _) (Z4F h2) h1)
   ·refine Z2c fun es ht=>?_
    refine Z4e fun ks ce h1 h2=>?_
    obtain ⟨kk,px,e1⟩:=Z2r ht
    cases e1
    exact Z2b (Zcr R.handled hT hM (Z4s X h2) (bl _) (Z4F h2) h1)
  |_=>exact ZfW
end
end Mine
namespace Mine
noncomputable def Z63 (L:List (Str×Value)) (S:List (Str×Value)):List (Str×Value):=L.foldl (fun r x=>if (r.lookup x.1).isNone then r++[x] else r) S
theorem Z1u {x:Str}:∀{a b:List (Str×Value)},(a++b).lookup x=(a.lookup x).or (b.lookup x)
 |[],b=>by simp
 |(y,v)::a,b=>by
  simp only [List.cons_append,List.lookup_cons]
  cases hx:x==y with
  |true=>rfl
  |false=>exact Z1u
set_option tactic.hygienic true in
theorem Z42 {n:Str}:∀{L S:List (Str×Value)},(Z63 L S).lookup n=(S.lookup n).or (L.lookup n)
 |[],S=>by simp [Z63]
 |(y,v)::L,S=>by
  have ih:= @Z42 n L
  show (Z63 L (if (S.lookup y).isNone then S++[(y,v)] else S)).lookup n=_
  rw [ih,List.lookup_cons]
  split
  ·next h=>
   rw [Z1u,List.lookup_cons]
   cases hx:n==y with
   |true=>
    rw [beq_iff_eq] at hx;subst hx
    have:S.lookup n=none:=by simpa using h
    simp [this]
   |false=>simp
  ·next h=>
   cases hx:n==y with
   |true=>
    rw [beq_iff_eq] at hx;subst hx
    cases e:S.lookup n with
    |none=>rw [e] at h;simp at h
    |some u=>simp
   |false=>simp
set_option tactic.hygienic true in
theorem Z2E:∀(L S:List (Str×Value)),(forIn L S fun (x:Str×Value) (r:List (Str×Value))=>(if (r.lookup x.1).isNone=true then pure (ForInStep.yield (r++[(x.1,x.2)])) else pure (ForInStep.yield r):Sem (ForInStep (List (Str×Value)))))=pure (Z63 L S)
 |[],S=>by simp [Z63]
 |(y,v)::L,S=>by
  rw [List.forIn_cons]
  show _=pure (Z63 L (if (S.lookup y).isNone then S++[(y,v)] else S))
  split
  ·next h=>rw [pure_bind];exact Z2E L _
  ·next h=>rw [pure_bind];exact Z2E L _
theorem Z1F:∀{names:List Str} {vs:List Value} {i:Nat} {x:Str},names.Nodup→names[i]? =some x→(names.zip vs).lookup x=vs[i]?
 |[],_,_,_,_,h=>by simp at h
 |n::ns,[],i,x,_,h=>by simp
 |n::ns,v::vs,i,x,hn,h=>by
  rw [List.nodup_cons] at hn
  rw [List.zip_cons_cons,List.lookup_cons]
  cases i with
  |zero=>
   simp only [List.getElem?_cons_zero,Option.some.injEq] at h
   subst h
   simp
  |succ j=>
   simp only [List.getElem?_cons_succ] at h
   have hne:(x==n)=false:=beq_eq_false_iff_ne.mpr fun e=>hn.1 (e▸List.mem_of_getElem? h)
   rw [hne]
   simpa using Z1F hn.2 h
theorem Z2j {S:List (Str×Value)}:∀{names:List Str} {full:List Value},names.length=full.length→(∀(i:Nat) (x:Str),names[i]? =some x→S.lookup x=full[i]?)→names.filterMap (fun n=>(S.lookup n).map (n,·))=names.zip full
 |[],[],_,_=>rfl
 |n::ns,v::full,hl,h=>by
  have h0:=h 0 n rfl
  simp only [List.getElem?_cons_zero] at h0
  rw [List.filterMap_cons,h0,List.zip_cons_cons]
  simp only [Option.map_some]
  rw [Z2j (by simpa using hl) fun i x e=>by simpa using h (i+1) x (by simpa using e)]
 |[],_::_,hl,_=>by simp at hl
 |_::_,[],hl,_=>by simp at hl
noncomputable abbrev kp (x:Str×Value) (r:List (Str×Value)):Sem (ForInStep (List (Str×Value))):=if (r.lookup x.1).isNone=true then pure (ForInStep.yield (r++[(x.1,x.2)])) else pure (ForInStep.yield r)
noncomputable def bF (names:List Str) (vals dw:List Value) (mi:List Str) (e1 e2:Sem (List (Str×Value))):Sem (List (Str×Value)):=
 if (decide (vals.length>names.length)&&(none:Option Arg).isNone)=true then e1 else
 if (!mi.isEmpty)=true then e2 else
 forIn ((names.drop (names.length-dw.length)).zip dw) (names.zip vals) kp>>= fun S=>pure ((names++[]).filterMap fun n=>(S.lookup n).map (n,·))
noncomputable def bN (fd:FuncData) (a:List Arg) (kd:List (Option Expr)) (ds:List Expr):FuncData:={fd with params:=⟨[],a,none,[],kd,none,ds⟩}
theorem Zbr {fd:FuncData} {vals:List Value} {a kd ds}:
  ∃(e1 e2:Option (Array Value)→Sem (List (Str×Value))),bindArgs (bN fd a kd ds) ⟨vals,[]⟩=seqItems? fd.defaults>>= fun o=>bF (a.map (·.arg)) vals ((o.getD #[]).toList.drop ((o.getD #[]).toList.length-(a.map (·.arg)).length)) (((a.map (·.arg)).take ((a.map (·.arg)).length-((o.getD #[]).toList.drop ((o.getD #[]).toList.length-(a.map (·.arg)).length)).length)).filter fun n=>(((a.map (·.arg)).zip vals).lookup n).isNone) (e1 o) (e2 o):=
 ⟨_,_,rfl⟩
theorem Zhz {p:Arguments} (h1:p.posonlyargs=[]) (h2:p.kwonlyargs=[]) (h3:p.vararg=none) (h4:p.kwarg=none):p=⟨[],p.args,none,[],p.kw_defaults,none,p.defaults⟩:=by
 cases p with
 |mk a b c d e f g=>
  rw [show a=[] from h1,show c=none from h3,show d=[] from h2,show f=none from h4]
theorem n_a {v n d:Nat} (h1:v≤n) (h2:n≤v+d):n=v+(d-(d+v-n)):=by
 obtain ⟨k,rfl⟩:=Nat.exists_eq_add_of_le h1
 rw [Nat.add_comm d v,Nat.add_sub_add_left,Nat.sub_sub_self (Nat.le_of_add_le_add_left h2)]
theorem n_b {n d v i:Nat} (h:n≤v+d) (hv:v≤i) (hi:d≤n):n-d+(i-(n-d))=i:=
 Nat.add_sub_cancel' (Nat.le_trans (Nat.sub_le_of_le_add h) hv)
theorem n_c {n d v i:Nat} (h:n≤v+d) (hv:v≤i) (hi:d≤n):i-(n-d)=d+v-n+(i-v):=by
 obtain ⟨j,rfl⟩:=Nat.exists_eq_add_of_le hi
 obtain ⟨k,rfl⟩:=Nat.exists_eq_add_of_le hv
 rw [Nat.add_sub_add_left,Nat.add_sub_cancel_left,Nat.add_sub_cancel_left,Nat.sub_add_comm (Nat.le_of_add_le_add_left (Nat.add_comm v d▸h))]
theorem Zhw {names:List Str} {vals dw:List Value} {mi:List Str} {e1 e2:Sem (List (Str×Value))} (h:¬vals.length>names.length) (hm:mi=[]):bF names vals dw mi e1 e2=(pure (Z63 ((names.drop (names.length-dw.length)).zip dw) (names.zip vals))>>= fun S=>pure ((names++[]).filterMap fun n=>(S.lookup n).map (n,·))):=by
 subst hm
 unfold bF
 rw [decide_eq_false h,←Z2E]
 rfl
theorem Ziv {names:List Str} {vals:List Value} (hnd:names.Nodup) {n:Nat} (h:n≤vals.length):(List.filter (fun n=>(List.lookup n (names.zip vals)).isNone) (List.take n names))=[]:=by
 rw [List.filter_eq_nil_iff]
 intro x hx
 obtain ⟨i,hi,e⟩:=List.mem_iff_getElem.mp hx
 have hj:=Nat.lt_of_lt_of_le (Nat.lt_of_lt_of_le hi (List.length_take_le n names)) h
 rw [List.getElem_take] at e
 rw [Z1F (vs:=vals) hnd (List.getElem?_eq_some_iff.2 ⟨_,e⟩),List.getElem?_eq_getElem hj]
 exact Bool.false_ne_true
theorem ZfG {names:List Str} {vals dvs:List Value} (hnd:names.Nodup) (hle:vals.length≤names.length) (hge:names.length≤vals.length+dvs.length) (hdl:dvs.length≤names.length):names.filterMap (fun n=>((Z63 ((List.drop (names.length-dvs.length) names).zip dvs) (names.zip vals)).lookup n).map (n,·))=names.zip (vals++dvs.drop (dvs.length+vals.length-names.length)):=by
 refine Z2j (by rw [List.length_append,List.length_drop];exact n_a hle hge) fun i x e=>?_
 rw [Z42,Z1F hnd e]
 rcases Nat.lt_or_ge i vals.length with hv|hv
 ·rw [List.getElem?_append_left hv,List.getElem?_eq_getElem hv]
  rfl
 ·rw [List.getElem?_append_right hv,List.getElem?_eq_none hv]
  have e2:(List.drop (names.length-dvs.length) names)[i-(names.length-dvs.length)]? =some x:=by
   rw [List.getElem?_drop,n_b hge hv hdl,e]
  show List.lookup x _=_
  rw [Z1F (hnd.sublist (List.drop_sublist _ _)) e2,List.getElem?_drop,n_c hge hv hdl]
theorem Z4f {M:Model} {A:Around} {E:Value→Shared→Prop} {s:Shared} {fd:FuncData} {vals dvs:List Value} {names:List Str} {Q:List (Str×Value)→Shared→Prop} (h1:fd.params.posonlyargs=[]) (h2:fd.params.kwonlyargs=[]) (h3:fd.params.vararg=none) (h4:fd.params.kwarg=none)
  (hn:fd.params.args.map (·.arg)=names) (hnd:names.Nodup) (hle:vals.length≤names.length) (hge:names.length≤vals.length+dvs.length) (hdl:dvs.length≤names.length)
  (hd:∀(Q:Option (Array Value)→Shared→Prop) (E:Value→Shared→Prop),(∀o,(o.getD #[]).toList=dvs→Q o s)→wpAny M A (seqItems? fd.defaults) Q E s)
  (h:Q (names.zip (vals++dvs.drop (dvs.length+vals.length-names.length))) s):wpAny M A (bindArgs fd ⟨vals,[]⟩) Q E s:=by
 have hf:bN fd fd.params.args fd.params.kw_defaults fd.params.defaults=fd:=by
  unfold bN;rw [←Zhz h1 h2 h3 h4]
 obtain ⟨e1,e2,e⟩:=Zbr (fd:=fd) (vals:=vals) (a:=fd.params.args) (kd:=fd.params.kw_defaults) (ds:=fd.params.defaults)
 rw [hf,hn] at e
 rw [e]
 refine wpAny_bind (hd _ _ fun o ho=>?_)
 have hd0:dvs.drop (dvs.length-names.length)=dvs:=by rw [Nat.sub_eq_zero_of_le hdl];rfl
 rw [ho,hd0,Zhw (Nat.not_lt_of_le hle) (Ziv hnd (Nat.sub_le_of_le_add hge)),pure_bind,List.append_nil,ZfG hnd hle hge hdl]
 exact wpAny_pure h
end Mine
namespace Mine
noncomputable def Z9S (i:Nat) (ps:Arguments) (sc:Scope):Bool:=
 let T:List Str:=Z1Z sc++Z0r i
 let names:List Str:=ps.args.map (·.arg)
 sc.kind== .function&& !sc.isCoroutine&& !sc.isGenerator&&ps.posonlyargs.isEmpty&&ps.kwonlyargs.isEmpty&&ps.vararg.isNone&&ps.kwarg.isNone&&
 decide T.Nodup&&T.all ZY&&decide (names.Nodup)&&(T.take names.length==names)&&names.all (fun x=>sc.names.lookup x==some NameKind.local||sc.names.lookup x==some NameKind.cell)&&decide ((Z2G i).length≤names.length)
noncomputable def Zi2 (i:Nat):Bool:=match (P.main.body[i]?).bind fnD with|some q=>Z9S i q.2.1 q.2.2.2|none=>false
theorem Zbu:(fnTab.all fun x=>Zi2 x.2.2)=true:=by decide+kernel
structure FnGood (i:Nat) (ps:Arguments) (sc:Scope) (T names:List Str):Prop where
 kind:sc.kind=.function
 co:sc.isCoroutine=false
 gen:sc.isGenerator=false
 p1:ps.posonlyargs=[]
 p2:ps.kwonlyargs=[]
 p3:ps.vararg=none
 p4:ps.kwarg=none
 nodup:T.Nodup
 marks:T.all ZY=true
 nn:names.Nodup
 pre:T.take names.length=names
 knd:∀x∈names,sc.names.lookup x=some .local∨sc.names.lookup x=some .cell
 dl:(Z2G i).length≤names.length
theorem Zfl {i:Nat} {ps:Arguments} {sc:Scope} (h:Z9S i ps sc=true):FnGood i ps sc (Z1Z sc++Z0r i) (ps.args.map (·.arg)):=by
 unfold Z9S at h
 simp only [Bool.and_eq_true,Bool.not_eq_true',beq_iff_eq,List.isEmpty_iff,Option.isNone_iff_eq_none,decide_eq_true_eq] at h
 obtain ⟨⟨⟨⟨⟨⟨⟨⟨⟨⟨⟨⟨h1,h2⟩,h3⟩,h4⟩,h5⟩,h6⟩,h7⟩,h8⟩,h9⟩,h10⟩,h11⟩,h12⟩,h13⟩:=h
 refine ⟨h1,h2,h3,h4,h5,h6,h7,h8,h9,h10,h11,fun x hx=>?_,h13⟩
 have:=List.all_eq_true.mp h12 x hx
 simpa using this
set_option tactic.hygienic true in
theorem Z1L {x:Str}:∀{names:List (Str×NameKind)} {n:Nat} {acc:List (Str×Addr)},((x,NameKind.cell)∈names∨(acc.lookup x).isSome=true)→((cellsFrom n names acc).lookup x).isSome=true
 |[],n,acc,h=>by
  rcases h with h|h
  ·simp at h
  ·exact h
 |(y,k)::r,n,acc,h=>by
  unfold cellsFrom
  split
  ·next hk=>
   refine Z1L ?_
   rcases h with h|h
   ·rcases List.mem_cons.mp h with e|h
    ·cases e;right;simp
    ·exact .inl h
   ·right
    rw [List.lookup_cons]
    cases x==y with
    |true=>rfl
    |false=>exact h
  ·next hk=>
   refine Z1L ?_
   rcases h with h|h
   ·rcases List.mem_cons.mp h with e|h
    ·cases e;exact absurd rfl hk
    ·exact .inl h
   ·exact .inr h
theorem Z4b {kd:Str→Option NameKind} {y:Str}:∀{binds:List (Str×Value)} {m:Str→Option Value},y∉binds.map (·.1)→bindL kd binds m y=m y
 |[],_,_=>rfl
 |(n,v)::r,m,h=>by
  simp only [List.map_cons,List.mem_cons,not_or] at h
  unfold bindL
  rw [Z4b h.2]
  split
  ·exact if_neg h.1
  ·rfl
theorem Z7R {kd:Str→Option NameKind} {y:Str} {u:Value} (hk:kd y=some .local):∀{binds:List (Str×Value)} {m:Str→Option Value},(binds.map (·.1)).Nodup→(y,u)∈binds→bindL kd binds m y=some u
 |[],_,_,h=>by simp at h
 |(n,v)::r,m,hn,h=>by
  rw [List.map_cons,List.nodup_cons] at hn
  unfold bindL
  rcases List.mem_cons.mp h with e|h
  ·cases e
   rw [Z4b hn.1,if_pos hk,if_pos rfl]
  ·exact Z7R hk hn.2 h
theorem Z6f {kd:Str→Option NameKind} {y:Str}:∀{binds:List (Str×Value)} {m:Str→Option Value},y∉binds.map (·.1)→bindC kd binds m y=m y
 |[],_,_=>rfl
 |(n,v)::r,m,h=>by
  simp only [List.map_cons,List.mem_cons,not_or] at h
  unfold bindC
  rw [Z6f h.2]
  split
  ·rfl
  ·exact if_neg h.1
theorem Z7S {kd:Str→Option NameKind} {y:Str} {u:Value} (hk:kd y=some .cell):∀{binds:List (Str×Value)} {m:Str→Option Value},(binds.map (·.1)).Nodup→(y,u)∈binds→bindC kd binds m y=some u
 |[],_,_,h=>by simp at h
 |(n,v)::r,m,hn,h=>by
  rw [List.map_cons,List.nodup_cons] at hn
  unfold bindC
  rcases List.mem_cons.mp h with e|h
  ·cases e
   rw [Z6f hn.1,if_neg (by rw [hk];decide),if_pos rfl]
  ·exact Z7S hk hn.2 h
structure FnHeap (h:Heap) (a:Addr) (ps:Arguments) (b:List Stmt) (sc:Scope) (ds:List Value) (o:Obj) (fd:FuncData) (dvs:List Value):Prop where
 get:h.get? a=some o
 data:o.data=.func fd
 params:fd.params=ps
 body:fd.body=.stmts b
 scope:fd.scope=sc
 globals:fd.globals=mainGlobals
 closure:fd.closure=[]
 builtins:fd.builtins=builtinsNs
 code:h.CodeRec fd.code fd.qualname
 dm:dvs.map Z6K=ds
 dsem:∀(M:Model) (A:Around) (s:Shared) (Q:Option (Array Value)→Shared→Prop) (E:Value→Shared→Prop),(∀b o,h.get? b=some o→s.heap.get? b=some o)→(∀o,(o.getD #[]).toList=dvs→Q o s)→wpAny M A (seqItems? fd.defaults) Q E s
theorem Zfk {h:Heap} {a:Addr} {i:Nat} {q:Str×Arguments×List Stmt×Scope} {st:Stmt} (e:P.main.body[i]? =some st) (hst:fnD st=some q) {y:FnSum×Str} (hv:Z9R i=some y) (ha:Zbe h a=some y):
  ∃o fd dvs,FnHeap h a q.2.1 q.2.2.1 q.2.2.2 (Z2G i) o fd dvs:=by
 obtain ⟨st',e',hv⟩:=bnd hv
 rw [e] at e'
 obtain ⟨q',e'',hv⟩:=bnd hv
 rw [←sj e',hst] at e''
 rw [←sj e''] at hv
 obtain ⟨o,fd,q',ds,hg,hd,h1,h2,ha⟩:=Z5b ha
 have ha:=ha.trans (sj hv).symm
 injection ha with ha e11
 injection ha with e1 e2 e3 e4 e5 e6 e7 e8 e9 e10
 have hcode:h.CodeRec fd.code fd.qualname:=by
  obtain ⟨c,o',vs,t,hc,hgc,hdc,hvs⟩:=Zbm h1
  exact ⟨c,o',vs,t,hc,hgc,hdc,by rw [hvs,e2,←e11]⟩
 rcases Z65 h2 with ⟨hn,h3⟩|⟨t,o2,l,ht,hgt,hs,h3⟩
 ·refine ⟨o,fd,[],hg,hd,e3,e4,e5,e6,e7,e10,hcode,h3.symm.trans e8,fun M A s Q E k hq=>?_⟩
  rw [hn]
  exact wpAny_bind (wpAny_pure (wpAny_pure (hq none rfl)))
 ·refine ⟨o,fd,l.toList,hg,hd,e3,e4,e5,e6,e7,e10,hcode,h3.symm.trans e8,fun M A s Q E k hq=>?_⟩
  rw [ht]
  obtain ⟨c2,d2,da,s2⟩:=o2
  obtain ⟨n,hs⟩:=Zbi hs
  cases (hs:da=_)
  exact wpAny_bind (wpAny_load (k _ _ hgt) (wpAny_pure (hq (some l) rfl)))
end Mine
namespace Mine
theorem Z5P {v:Value} {i:Int} (h:Z6K v=.int i 0):∃t,v=.int i t:=by
 cases v with
 |int j t=>exact ⟨t,by rw [show j=i by injection h]⟩
 |_=>exact Value.noConfusion h
theorem Z8e {v:Value} (h:Z6K v=.none):v=.none:=by
 cases v with
 |none=>rfl
 |_=>exact Value.noConfusion h
noncomputable def mvD (i:Nat):List MV:=if i=45 then [.int 0,.none,.int 0] else []
theorem Z7J {w:World} {σ:Z4} {h:Heap} {i:Nat} {dvs:List Value} (hd:dvs.map Z6K=Z2G i):mvD i=[]∨ZA w σ h (mvD i) dvs:=by
 unfold mvD
 by_cases hi:i=45
 ·subst hi
  right
  rw [if_pos rfl]
  have hd:dvs.map Z6K=[.int 0 0,.none,.int 0 0]:=hd
  obtain ⟨a,r,e,h1,hd⟩:=List.map_eq_cons_iff.mp hd
  obtain ⟨b,r2,e2,h2,hd⟩:=List.map_eq_cons_iff.mp hd
  obtain ⟨c,r3,e3,h3,hd⟩:=List.map_eq_cons_iff.mp hd
  exact ⟨a,_,e,Z5P h1,b,_,e2,Z8e h2,c,_,e3,Z5P h3,List.map_eq_nil_iff.mp hd⟩
 ·left;rw [if_neg hi]
noncomputable def Z7Q (s:Stmt):List Stmt:=match fnD s with|some q=>q.2.2.1|none=>[]
theorem Z6M {names:List Str} {vs:List Value} {i:Nat} {x:Str} {u:Value} (h1:names[i]? =some x) (h2:vs[i]? =some u):(x,u)∈names.zip vs:=by
 rw [List.mem_iff_getElem?]
 exact ⟨i,by rw [List.getElem?_zip_eq_some];exact ⟨h1,h2⟩⟩
section
variable {w:World} {h₀:Heap} {os₀:OsState}
set_option maxHeartbeats 2000000 in
theorem Z7P {mg mb:Str→Option Value} (B:Base w h₀ mg mb) {d:Nat} (A:Around) (R:Room (d+1) A) {nm:Str} {a:Addr} {i:Nat} (hx:(nm,a,i)∈fnTab) {ms:List MV} {vs:List Value} {σ:Z4} {s:Shared} {Q:ZT} {E:Value→Shared→Prop}
  (S:St w h₀ os₀ σ {s with toks:=1}) (r:ZA w σ s.heap ms vs) (q:Z3 FT (d+1) i ms σ Q)
  (HB:∀(T:List Str) (sc:Scope) (env:Env) (ρ:Loc) (s':Shared) (b:List Stmt) (st:Stmt) (QQ:Zn) (E:Value→Shared→Prop),P.main.body[i]? =some st→Z7Q st=b→EnvOk sc env→EnvSt h₀ env→FrS w h₀ os₀ T env ρ σ {s' with toks:=1}→
   s.toks≤s'.toks→T.Nodup→T.all ZY=true→Room d (A.deeper env)→wpSs (Z3 FT d) (Z69 ⟨T,Z14⟩ sc 40 b) ρ σ QQ→wpAny (model P w) (A.deeper env) (execs b env) (SP w h₀ os₀ T env σ s'.heap QQ) E s'):
  wpAny (model P w) A (call (.ref a) vs) (EP w h₀ os₀ σ s.heap Q) E s:=by
 have hok:=List.all_eq_true.mp Zbu _ hx
 simp only at hok q
 obtain ⟨y,hv,ha⟩:=(B.fns _ hx).2
 simp only at hv ha
 unfold Zi2 at hok
 cases hq:(P.main.body[i]?).bind fnD with
 |none=>rw [hq] at hok;exact ff hok
 |some q0=>
 rw [hq] at hok
 obtain ⟨st,e,hd⟩:=bnd hq
 obtain ⟨n0,ps,b,sc⟩:=q0
 have G:=Zfl hok
 obtain ⟨o,fd,dvs,H⟩:=Zfk e hd hv ha
 have hf:FT i=some ⟨ps.args.length,(Z1Z sc++Z0r i).length,(if i=45 then [.int 0,.none,.int 0] else []),Z69 ⟨Z1Z sc++Z0r i,Z14⟩ sc 40 b⟩:=by
  show b0 (P.main.body[i]?) _=_
  rw [e]
  show b0 ((fnD st).map Prod.snd) _=_
  rw [hd];rfl
 replace q:match FT i with|some fn=>wpF (Z3 FT d) fn ms σ Q|none=>False:=q
 rw [hf] at q
 generalize hT:Z1Z sc++Z0r i=T at G q
 generalize hN:ps.args.map (·.arg)=names at G
 obtain ⟨q1,q2,q3⟩:=q
 simp only at q1 q2 q3
 have hnl:ps.args.length=names.length:=by rw [←hN,List.length_map]
 rw [hnl] at q1 q2 q3
 have hmd:(if i=45 then [MV.int 0,.none,.int 0] else [])=mvD i:=rfl
 rw [hmd] at q2 q3
 have hvl:=r.length
 have hdl:dvs.length=(Z2G i).length:=by rw [←H.dm,List.length_map]
 have hle2:(mvD i).length≤dvs.length:=by
  rcases Z7J (w:=w) (σ:=σ) (h:=s.heap) H.dm with e|e
  ·rw [e];simp
  ·rw [e.length];exact Nat.le_refl _
 generalize hfull:vs++dvs.drop (dvs.length+vs.length-names.length)=full
 generalize hfm:ms++(mvD i).drop ((mvD i).length+ms.length-names.length)=fm at q3
 have hrf:ZA w σ s.heap fm full:=by
  rw [←hfull,←hfm]
  refine r.append ?_
  rcases Z7J (w:=w) (σ:=σ) (h:=s.heap) H.dm with e|e
  ·have:dvs.drop (dvs.length+vs.length-names.length)=[]:=by
    rw [e] at q2
    simp at q2
    rw [List.drop_eq_nil_iff];lia
   rw [e,this]
   simp
   exact rfl
  ·rw [e.length,hvl]
   exact e.drop _
 have hflen:full.length=names.length:=by
  rw [←hfull,List.length_append,List.length_drop]
  have:=G.dl
  lia
 have hbn:((names.zip full).map (·.1))=names:=List.map_fst_zip (by lia)
 refine wpAny_call (codeAny_call_function (by have:=R.depth;show A.depth<1000;lia) (S.keep _ _ H.get) H.data (by rw [H.scope];exact G.co) (by rw [H.scope];exact G.gen) H.body (H.code.keeps S.keep) ?_)
 refine Z4f (names:=names) (dvs:=dvs) (by rw [H.params];exact G.p1) (by rw [H.params];exact G.p2) (by rw [H.params];exact G.p3) (by rw [H.params];exact G.p4) (by rw [H.params];exact hN) G.nn (by lia) (by lia) (by have:=G.dl;lia) (fun Q E hq=>H.dsem _ _ s Q E S.keep hq) ?_
 rw [hfull,H.closure]
 refine wpAny_with_toks (n:=s.toks) (Nat.le_refl _) (wpAny_newFunctionEnv_cells (by rw [H.scope];exact G.kind) (fun p hp=>?_) fun env henv s' X htk=>?_)
 ·have hp1:p.1∈names:=by rw [←hbn];exact List.mem_map_of_mem hp
  rw [H.scope]
  rcases G.knd p.1 hp1 with h|h
  ·exact .inl h
  ·exact .inr ⟨h,Z1L (.inl (Z0q h))⟩
 have hscope:env.scope=sc:=by rw [henv];exact H.scope
 have hloc:env.locals=s.heap.objs.size:=by rw [henv];rfl
 have hglob:env.globals=mainGlobals:=by rw [henv];exact H.globals
 have hblt:env.builtins=builtinsNs:=by rw [henv];exact H.builtins
 have hcells:env.cells=cellsFrom (s.heap.objs.size+1) sc.names []:=by rw [henv];show cellsFrom _ fd.scope.names []=_;rw [H.scope]
 have hkind:∀y,env.kindOf y=sc.names.lookup y:=fun y=>by unfold Env.kindOf;rw [hscope]
 obtain ⟨h1,tk1,hs'⟩:=X.toInCall.same
 have he:EnvOk sc env:=⟨by rw [hscope];exact G.kind,hglob,hblt,fun y hy=>by rw [hkind,hy],fun y hy=>by rw [hkind,hy],fun y hy=>by rw [hkind,hy];exact .inl rfl,fun y hy=>by rw [hkind,hy],
  fun y hy=>Option.isSome_iff_exists.mp (by rw [hcells];exact Z1L (.inl (Z0q hy)))⟩
 have big:∀b,s.heap.objs.size≤b→h₀.get? b=none:=fun b hb=>by
  cases e:h₀.get? b with
  |none=>rfl
  |some o=>exact absurd (Heap.lt_size (S.keep _ _ e)) (Nat.not_lt.mpr hb)
 have hXbig:∀b,XE env b→s.heap.objs.size≤b:=by
  rintro b (rfl|⟨n,hn⟩)
  ·exact X.toInCall.fresh
  ·exact Nat.le_of_lt (Nat.lt_of_le_of_lt X.toInCall.fresh (X.above n b (mem_of_lookup hn)))
 have es:EnvSt h₀ env:=⟨big _ (hXbig _ (.inl rfl)),fun n c hc=>big _ (hXbig _ (.inr ⟨n,hc⟩)),fun n n' c hc hc'=>name_of_addr X.apart (mem_of_lookup hc) (mem_of_lookup hc')⟩
 have p0:Pres (fun _=>False) σ s.heap σ s'.heap:=Pres.of_keeps X.toInCall.keep
 have S':St w h₀ os₀ σ {s' with toks:=1}:=by
  have hk:=X.toInCall.keep
  rw [hs'] at hk ⊢
  exact S.grow (k:=1) (Nat.succ_pos _) hk
 have hrf':ZA w σ s'.heap fm full:=ZA.pres p0 S.toStL noX _ hrf
 have hfml:fm.length=names.length:=by rw [←hrf.length,hflen]
 have F:FrS w h₀ os₀ T env (fm.map some++List.replicate (T.length-names.length) none) σ {s' with toks:=1}:=by
  refine ⟨S',⟨_,_,X.toInCall.ns,X.cell,fun j y v e1 e2=>?_⟩,_,X.toInCall.ns,fun k hk=>?_⟩
  ·have hj:j<fm.length:=by
    rcases Nat.lt_or_ge j fm.length with h|h
    ·exact h
    ·rw [List.getElem?_append_right (by simpa using h)] at e2
     rw [List.getElem?_replicate] at e2
     split at e2<;>cases e2
   rw [List.getElem?_append_left (by simpa using hj),List.getElem?_map,List.getElem?_eq_getElem hj] at e2
   simp only [Option.map_some,Option.some.injEq] at e2
   obtain ⟨u,hu,ru⟩:=hrf'.at (List.getElem?_eq_getElem hj)
   rw [e2] at ru
   have hny:names[j]? =some y:=by
    rw [←G.pre,List.getElem?_take_of_lt (by lia)];exact e1
   have hmem:=Z6M hny hu
   have hnd:((names.zip full).map (·.1)).Nodup:=by rw [hbn];exact G.nn
   refine ⟨fun hk=>⟨u,Z7R hk hnd hmem,ru⟩,fun hk=>?_⟩
   have hyn:y∈names:=List.mem_of_getElem? hny
   have hcell:env.kindOf y=some .cell:=by
    rcases G.knd y hyn with h|h
    ·rw [hkind,h] at hk;rcases hk with h|h<;>cases h
    ·rw [hkind,h]
   obtain ⟨c,hc⟩:=he.cls y (by rw [←hkind];exact hcell)
   exact ⟨c,u,hc,Z7S hcell hnd hmem,ru⟩
  ·rw [Z4b]
   rw [hbn]
   intro hm
   rw [←G.pre] at hm
   exact Z3d (List.all_eq_true.mp G.marks _ (List.mem_of_mem_take hm)) k hk rfl
 refine ⟨(B.nolimit.keeps S.keep).keeps X.toInCall.keep,codeAny_func ?_⟩
 have R':Room d (A.deeper env):=⟨by have:=R.depth;show A.depth+1+d≤1000;lia,by have:=R.units;show A.units+3+3*d+1100<cLine;lia,R.handled,R.guards⟩
 refine wpAny_mono (HB T sc env _ s' b _ _ _ e (by unfold Z7Q;rw [hd]) he es F htk G.nodup G.marks R' q3) (fun fl s2 z=>?_) fun _ _ e=>e
 obtain ⟨oo,ρ2,σ2,⟨σ3,hsub,q4⟩,r4,F4,p4⟩:=z
 have pf:Pres (fun _=>False) σ s.heap σ3 s2.heap:=by
  intro b ob e e' _
  have z1:=p0 b ob e e' id
  have z2:=p4 b ob z1.1 z1.2 fun hX=>Nat.lt_irrefl _ (Nat.lt_of_lt_of_le (Heap.lt_size e) (hXbig b hX))
  exact ⟨z2.1,hsub.none z2.2⟩
 cases oo with
 |next=>
  cases r4
  exact ⟨.none,σ3,q4,rfl,F4.st.sub hsub,pf⟩
 |ret m=>
  obtain ⟨v,rfl,rv⟩:=r4
  exact ⟨m,σ3,q4,Rep.sub hsub _ rv,F4.st.sub hsub,pf⟩
theorem Za6 {mg mb:Str→Option Value} (B:Base w h₀ mg mb) {d:Nat} (ih:∀A,Room d A→Z79 w h₀ os₀ d A) (A:Around) (R:Room (d+1) A):Z79 w h₀ os₀ (d+1) A:=by
 intro x hx ms vs σ s Q E S r q
 obtain ⟨nm,a,i⟩:=x
 refine Z7P B A R hx (S.toksTo (k:=1) (Nat.succ_pos _)) r q fun T sc env ρ s' b st QQ E e hb he es F htk hT hM R' q3=>?_
 have F':FrS w h₀ os₀ T env ρ σ s':=⟨F.st.toksTo (k:=s'.toks) (Nat.lt_of_lt_of_le S.toks htk),F.fr,F.ns⟩
 exact Z38 (w:=w) (h₀:=h₀) (os₀:=os₀) (d:=d) (A:=A.deeper env) (T:=T) (sc:=sc) (n:=40) (N:=⟨T,Z14⟩) (fun st c h=>Z5m B R' (ih _ R') hT hM sc 40 40 st c h) b env ρ σ s' QQ E he es F' q3
theorem Zfz {mg mb:Str→Option Value} (B:Base w h₀ mg mb):∀(d:Nat) (A:Around),Room d A→Z79 w h₀ os₀ d A
 |0,A,R=>by
  intro x hx ms vs σ s Q E S r q
  simp only [Z3] at q
 |d+1,A,R=>Za6 B (Zfz B d) A R
end
end Mine
namespace Mine
noncomputable def Z9C:Stmt:=(P.main.body[75]?).getD (.Pass ⟨0,0,0,0⟩)
theorem Zb8:∃x px y py kk pc sp vp pos rest,(y==dbg||y==Zc3)=false∧Z7Q Z9C=PySem.Stmt.Assign [.Name x px] (.Subscript (.Name y py) (.Slice none (some (.Constant (.int 63) kk pc)) none sp) vp) pos::rest:=
 ⟨_,_,_,_,_,_,_,_,_,_,by decide+kernel,rfl⟩
section
variable {w:World} {h₀:Heap} {os₀:OsState}
set_option tactic.hygienic true in
theorem ZgO {d n:Nat} {A:Around} {T:List Str} {sc:Scope} {env:Env} {ρ:Loc} {σ:Z4} {s':Shared} {Q:ZT} {E:Value→Shared→Prop} {x:Str} {p:Pos} {c0:CE} (he:EnvOk sc env) (F:FrS w h₀ os₀ T env ρ σ {s' with toks:=1}) (hx:(x==dbg||x==Zc3)=false)
  (h:Zc ⟨T,Z14⟩ (n+1) sc (.Name x p)=some c0) (q:wpE (Z3 FT d) c0 ρ σ Q):wpAny (model P w) A (eval (.Name x p) env) (fun v s1=>s1=s'∧∃m,Q m σ∧Rep w σ s'.heap m v) E s':=by
 obtain ⟨kd,k,hk,hk',_,hi,rfl⟩:=Z4I (show Z7N T sc x=some c0 from h)
 simp only [wpE] at q
 obtain ⟨m,cm,hn,hc,hv⟩:=F.fr
 split at q
 ·next v e=>
  have hρ:ρ[k]? =some (some v):=by
   cases e':ρ[k]? with
   |none=>rw [e'] at e;cases e
   |some o=>rw [e'] at e;simp at e;rw [e]
  obtain ⟨a,b⟩:=hv k x v (Z1a hi) hρ
  obtain ⟨hx,hx'⟩:=Bool.or_eq_false_iff.mp hx
  refine wpAny_Name ?_ hx
  rcases hk' with rfl|rfl|rfl
  ·obtain ⟨u,e,r⟩:=a (he.loc x hk)
   exact wpAny_loadName_local he.kind (he.loc x hk) hn e ⟨rfl,v,q,r⟩
  ·obtain ⟨c,u,e,e',r⟩:=b (.inl (he.cel x hk))
   exact wpAny_loadName_cell he.kind (he.cel x hk) e (e'▸hc x c e) ⟨rfl,v,q,r⟩
  ·rcases he.fre x hk with hf|hf
   ·obtain ⟨c,u,e,e',r⟩:=b (.inr hf)
    exact wpAny_loadName_free he.kind hf e (e'▸hc x c e) ⟨rfl,v,q,r⟩ hx'
   ·obtain ⟨c,u,e,e',r⟩:=b (.inl hf)
    exact wpAny_loadName_cell he.kind hf e (e'▸hc x c e) ⟨rfl,v,q,r⟩
 ·exact q.elim
theorem Zb6 {d:Nat} {A:Around} {T:List Str} {sc:Scope} {env:Env} {ρ:Loc} {σ:Z4} {s':Shared} {Q:Zn} {E:Value→Shared→Prop} {b:List Stmt} (i:Nat) (hi:i=75) {st:Stmt} (e:P.main.body[i]? =some st) (hb:Z7Q st=b)
  (he:EnvOk sc env) (es:EnvSt h₀ env) (hh:A.handled=none) (F:FrS w h₀ os₀ T env ρ σ {s' with toks:=1}) (hT:T.Nodup) (hM:T.all ZY=true)
  (body:∀b,SSs w h₀ os₀ d A T sc b (b.map fun s=>(Z47 ⟨T,Z14⟩ sc 40 s).getD .bad)) (q:wpSs (Z3 FT d) (Z69 ⟨T,Z14⟩ sc 40 b) ρ σ Q):
  wpAny (model P w) A (execs b env) (SP w h₀ os₀ T env σ s'.heap Q) E s':=by
 subst hi
 obtain ⟨x,px,y,py,kk,pc,sp,vp,pos,rest,hy,hB⟩:=Zb8
 have hst:Z9C=st:=by unfold Z9C;rw [e];rfl
 rw [hst,hb] at hB
 subst hB
 unfold Z69 at q
 simp only [List.map_cons,wpSs] at q
 have hc:Z47 ⟨T,Z14⟩ sc 40 (.Assign [.Name x px] (.Subscript (.Name y py) (.Slice none (some (.Constant (.int 63) kk pc)) none sp) vp) pos)=
   b2 (Z11 sc ⟨T,Z14⟩ (.Name x p0s)) (b0 (Zc ⟨T,Z14⟩ 38 sc (.Name y py)) fun c=>some (CE.pr .slice [c,.cst .none,.cst (.int 63)])) fun k c=>some (.assign k c):=rfl
 rw [hc] at q
 cases hk:Z11 sc ⟨T,Z14⟩ (.Name x p0s) with
 |none=>rw [hk] at q;exact False.elim q
 |some k=>
  cases hv:Zc ⟨T,Z14⟩ 38 sc (.Name y py) with
  |none=>rw [hk,hv] at q;exact False.elim q
  |some c0=>
   rw [hk,hv] at q
   replace q:wpS (Z3 FT d) (.assign k (.pr .slice [c0,.cst .none,.cst (.int 63)])) ρ σ _:=q
   simp only [wpS,wpE,wpEs] at q
   refine wpAny_execs_cons (wpAny_Assign_Name (Subscript_ (wpAny_mono (ZgO he F hy hv q) (fun v1 s1 z=>?_) fun _ _ e=>e)) rfl)
   obtain ⟨rfl,m1,q1,r1⟩:=z
   refine wpAny_Slice (wpAny_pure ?_)
   show wpAny (model P w) A (evalPart (some (.Constant (.int 63) kk pc)) env) _ _ _
   refine wpAny_Constant_int (k:=kk) (pos:=pc) ?_
   rw [evalPart_none]
   refine wpAny_pure ?_
   have S3:St w h₀ os₀ σ {s1 with toks:=s1.toks+1}:=F.st.toksTo (k:=s1.toks+1) (Nat.succ_pos _)
   have F3:FrS w h₀ os₀ T env ρ σ {s1 with toks:=s1.toks+1}:=⟨S3,F.fr,F.ns⟩
   have g:=Zr s1.heap {cls:=.type "slice",data:=.fields #[.none,.int 63 s1.toks,.none]}
   have pg:Pres (fun _=>False) σ s1.heap σ (s1.heap.push {cls:=.type "slice",data:=.fields #[.none,.int 63 s1.toks,.none]}):=Pres.of_keeps g
   have S4:=S3.grow (k:=s1.toks+1) (Nat.succ_pos _) g
   have F4:=F3.eval S4 pg
   have r1':=Rep.pres pg S3.toStL noX _ r1
   obtain ⟨K,id,hl,hT'⟩:=Z4r S4 r1' q1
   refine tail_any hT' hl (Zg (Z3A (lo:=.none) (hi:=.int 63) S4 r1' ⟨.none,.int 63 s1.toks,Heap.IsSliceOf.new ..,rfl,⟨_,rfl⟩⟩ q1) fun v5 s5 m5 σ5 q5 r5 S5 p5=>?_) rfl
   have F5:=F4.eval S5 p5
   refine Z1p he.kind es hT hM (Z0k he hk) F5 r5 fun s6 z=>?_
   exact wpAny_mono (body rest env _ σ5 s6 Q E he es z.1 q5) (fun _ _ e=>e.trans ((pg.trans p5).toX.trans z.2)) fun _ _ e=>e
theorem Zbo {mg mb:Str→Option Value} (B:Base w h₀ mg mb) {d:Nat} (A:Around) (R:Room (d+1) A) {nm:Str} {a:Addr} {i:Nat} (hi:i=75) (hx:(nm,a,i)∈fnTab) {ms:List MV} {vs:List Value} {σ:Z4} {s:Shared} {Q:ZT} {E:Value→Shared→Prop}
  (S:St w h₀ os₀ σ {s with toks:=1}) (r:ZA w σ s.heap ms vs) (q:Z3 FT (d+1) i ms σ Q):wpAny (model P w) A (call (.ref a) vs) (EP w h₀ os₀ σ s.heap Q) E s:=by
 refine Z7P B A R hx S r q fun T sc env ρ s' b st QQ E e hb he es F htk hT hM R' q3=>?_
 exact Zb6 i hi e hb he es R'.handled F hT hM (fun b=>Z38 (w:=w) (h₀:=h₀) (os₀:=os₀) (d:=d) (A:=A.deeper env) (T:=T) (sc:=sc) (n:=40) (N:=⟨T,Z14⟩) (fun st c h=>Z5m B R' (Zfz B d _ R') hT hM sc 40 40 st c h) b) q3
end
theorem ZfE:∀x∈(["len","ord","isinstance","repr","max"]:List String),bootBuiltins (Str.ofString x)=some (.builtin x):=by
 intro x hx
 simp only [List.mem_cons,List.not_mem_nil,or_false] at hx
 rcases hx with rfl|rfl|rfl|rfl|rfl<;>kernel_rfl
theorem ZfD:∀x∈(["str","tuple","range","bool"]:List String),bootBuiltins (Str.ofString x)=some (.type x):=by
 intro x hx
 simp only [List.mem_cons,List.not_mem_nil,or_false] at hx
 rcases hx with rfl|rfl|rfl|rfl<;>kernel_rfl
noncomputable def biNames:List String:=["len","ord","isinstance","repr","max","str","tuple","range","bool"]
noncomputable def ZfF:Bool:=biNames.all fun x=> !(startupNames.contains (Str.ofString x))&& !((looseW view loose).contains (Str.ofString x))&& !(((recsOf view).map (·.name)).contains (Str.ofString x))&& !(((litsOf view).map (·.1)).contains (Str.ofString x))&&
 !(((clssOf view (looseW view loose)).map (·.name)).contains (Str.ofString x))&&(Str.ofString x != "__name__")
theorem Za8:ZfF=true:=by kernel_rfl
theorem Zdv {w:World} {mean:ExcName→Option Value} {mg mb:Str→Option Value} {h:Heap} (T:Top view (looseW view loose) mean mg mb h) (Y:ZfL h):Base w h mg mb:=by
 obtain ⟨⟨mg',hm',hf⟩,hfn⟩:=Y
 have hmg:mg'=mg:=by
  obtain ⟨o,es,ep,ho,hd,_,h1⟩:=hm'
  obtain ⟨o',es',ep',ho',hd',_,h2⟩:=T.g
  cases ddt ho ho' hd hd'
  funext x;rw [←h1,←h2]
 subst hmg
 have free:∀x∈biNames,mg' (Str.ofString x)=none∧mb (Str.ofString x)=bootBuiltins (Str.ofString x):=by
  intro x hx
  have:=List.all_eq_true.mp Za8 x hx
  simp only [Bool.and_eq_true,Bool.not_eq_true',bne_iff_ne,ne_eq,←Bool.not_eq_true,List.contains_iff_mem] at this
  obtain ⟨⟨⟨⟨⟨h1,h2⟩,h3⟩,h4⟩,h5⟩,h6⟩:=this
  exact ⟨T.free _ h1 h2 h3 h4 h5,T.builtins _ h6⟩
 refine ⟨T.g,T.b,T.nolimit,fun x hx=>⟨hf x hx,hfn x hx⟩,fun x hx=>?_,fun x hx=>?_⟩
 ·obtain ⟨a,b⟩:=free x (by simp only [biNames,List.mem_cons,List.not_mem_nil,or_false] at hx ⊢;rcases hx with h|h|h|h|h<;>simp [h])
  exact ⟨a,b.trans (ZfE x hx)⟩
 ·obtain ⟨a,b⟩:=free x (by simp only [biNames,List.mem_cons,List.not_mem_nil,or_false] at hx ⊢;rcases hx with h|h|h|h<;>simp [h])
  exact ⟨a,b.trans (ZfD x hx)⟩
theorem Zf3 {R:WRecords} {x:WData} (h:WShape.has R x .int=true):∃n:Int,x=.int n:=by
 cases x with
 |int n=>exact ⟨n,rfl⟩
 |_=>exact (Bool.false_ne_true h).elim
theorem Z8i {R:WRecords}:∀{xs:List WData},WShape.hasItems R xs .int=true→∃ns:List Int,xs=ns.map .int:=by
 intro xs
 induction xs with
 |nil=>exact fun _=>⟨[],rfl⟩
 |cons x r ih=>
  intro h
  obtain ⟨h1,h2⟩:=Bool.and_eq_true_iff.1 (show (WShape.has R x .int&&WShape.hasItems R r .int)=true from h)
  obtain ⟨n,rfl⟩:=Zf3 h1
  obtain ⟨ns,rfl⟩:=ih h2
  exact ⟨n::ns,rfl⟩
theorem ZaW {R:WRecords} {args:List WData} (h:WShape.hasAll R args [.list .int]=true):∃ns:List Int,args=[.list (ns.map .int)]:=by
 cases args with
 |nil=>exact (Bool.false_ne_true h).elim
 |cons x r=>
  obtain ⟨h1,h2⟩:=Bool.and_eq_true_iff.1 (show (WShape.has R x (.list .int)&&WShape.hasAll R r [])=true from h)
  cases r with
  |cons _ _=>exact (Bool.false_ne_true h2).elim
  |nil=>
   cases x with
   |list xs=>
    obtain ⟨ns,rfl⟩:=Z8i ((Bool.or_false _).symm.trans (show (WShape.hasItems R xs .int||false)=true from h1))
    exact ⟨ns,rfl⟩
   |_=>exact (Bool.false_ne_true h1).elim
theorem Z4u {R:WRecords} {cl:Str→Option Addr} {h:Heap} {w:World} {σ:Z4} {h':Heap}:∀{ns:List Int} {vs:List Value} {as:List Addr},ReadsAllW R cl h vs (ns.map .int) as→ZA w σ h' (ns.map .int) vs
 |[],_,_,r=>by cases r;exact rfl
 |n::ns,_,_,r=>by
  cases r with
  |cons r1 r2=>cases r1;exact ⟨_,_,rfl,⟨_,rfl⟩,Z4u r2⟩
theorem Z9d (args ds:List WData):rr.claim.post args (.bool true) ds=true:=by
 show (WShape.has [] (.bool true) .bool&&(WTm.eq .res (.lit (.bool true))).holds [] {args:=args,res:=some (.bool true),after:=ds})=true
 kernel_rfl
theorem join (main:∀(ns:List Int),ns.length≤63→∀σ,Z3 FT 698 75 [.fl (ns.map .int)] σ fun v _=>v=.bool true):PySem.Challenge.rw_pq0847_01.Holds:=by
 refine head fun w s₀ s₁ mg mb G Y a o pm cd doc dV kV hget hdata hcode hdf hmg hgens args vals as hpre hlay hrd hwell hlow=>?_
 have B:Base w s₁.heap mg mb:=Zdv G.T Y
 obtain ⟨hp1,hp2⟩:=Bool.and_eq_true_iff.mp hpre
 obtain ⟨ns,rfl⟩:=ZaW hp1
 have hlen:ns.length≤63:=by
  have h:(WTm.and (.not (.lt (.lit (.int 63)) (.len (.arg 0)))) (.lit (.bool true))).holds [] {args:=[.list (ns.map .int)]}=true:=hp2
  simp [WTm.holds,WTm.value] at h
  by_cases hh:(63:Int)<ns.length
  ·have e:less? (WData.int 63) (WData.int ns.length)=some true:=by show some (decide ((63:Int)<ns.length))=some true;rw [decide_eq_true hh]
   rw [e] at h
   simp at h
  ·omega
 have hR:Room 698 callerA:=⟨by decide,by decide,rfl,rfl⟩
 have hlaw:(Str.ofString "law",524,75)∈fnTab:=by decide+kernel
 have ha:a=524:=by
  have h1:=(B.fns _ hlaw).1
  have h2:mg (Str.ofString "law")=some (.ref a):=hmg
  rw [h2] at h1
  exact (Value.ref.inj (Option.some.inj h1))
 subst ha
 have S0:St w s₁.heap s₁.os (fun _=>none) {s₁ with toks:=1}:=⟨⟨fun a l e=>by cases e⟩,fun b o e=>e,fun b o e=>rfl,hgens,rfl,Nat.succ_pos _⟩
 have hr:ZA w (fun _=>none) s₁.heap [.fl (ns.map .int)] vals:=by
  cases hrd with
  |cons h1 h2=>
   cases h2
   cases h1 with
   |list hg hc hd hx=>
    exact ⟨_,_,rfl,⟨by unfold SL;simp;omega,_,_,rfl,rfl,⟨_,hg,hc,_,hd⟩,Z4u hx⟩,rfl⟩
 refine wpAny_mono (Zbo B callerA hR rfl hlaw S0 hr (main ns hlen _)) (fun v s' z=>?_) fun _ _ e=>e
 obtain ⟨m,σ',rfl,rv,S',p⟩:=z
 cases rv
 refine ⟨.inl ⟨.bool true,.bool true,[],rfl,fun _=>rfl,.bool _,Z9d _ _,fun _=>⟨List.nodup_nil,fun a ha=>by cases ha⟩⟩,.of_keep S'.keep,S'.os,.of_eq S'.gens⟩
end Mine
namespace Mine
noncomputable def b4:List CS:=[.ret (.andd (.pr .ne [.var 0,.cst (.str [])]) (.orr (.pr .eq [.var 0,.cst (.str [95])]) (.orr (.chain .le .le (.cst (.str [97])) (.var 0) (.cst (.str [122]))) (.orr (.chain .le .le (.cst (.str [65])) (.var 0) (.cst (.str [90]))) (.pr .ge [.pr .ord [.var 0],.cst (.int 128)])))))]
theorem ft4:FT 4=some ⟨1,1,[],b4⟩:=by kernel_rfl
noncomputable def b5:List CS:=[.ret (.orr (.call 4 [.var 0]) (.chain .le .le (.cst (.str [48])) (.var 0) (.cst (.str [57]))))]
theorem ft5:FT 5=some ⟨1,1,[],b5⟩:=by kernel_rfl
noncomputable def b6:List CS:=[.while (.andd (.pr .lt [.var 1,.pr .len [.var 0]]) (.call 5 [.pr .getitem [.var 0,.var 1]])) [.assign 1 (.pr .iadd [.var 1,.cst (.int 1)])],
 .ret (.var 1)]
theorem ft6:FT 6=some ⟨2,2,[],b6⟩:=by kernel_rfl
noncomputable def b8:List CS:=[.assign 1 (.pr .mkTup [.pr .mkTup [.pr .mkTup [.cst (.str [120,111,114])],.cst (.int 2)],.pr .mkTup [.pr .mkTup [.cst (.str [124])],.cst (.int 9)],.pr .mkTup [.pr .mkTup [.cst (.str [94])],.cst (.int 10)],.pr .mkTup [.pr .mkTup [.cst (.str [38])],.cst (.int 11)],.pr .mkTup [.pr .mkTup [.cst (.str [61,61]),.cst (.str [33,61]),.cst (.str [61,61,61]),.cst (.str [33,61,61]),.cst (.str [60,61,62])],.cst (.int 12)],.pr .mkTup [.pr .mkTup [.cst (.str [60]),.cst (.str [60,61]),.cst (.str [62]),.cst (.str [62,61])],.cst (.int 13)],.pr .mkTup [.pr .mkTup [.cst (.str [46])],.cst (.int 14)],.pr .mkTup [.pr .mkTup [.cst (.str [60,60]),.cst (.str [62,62])],.cst (.int 15)],.pr .mkTup [.pr .mkTup [.cst (.str [43]),.cst (.str [45])],.cst (.int 16)],.pr .mkTup [.pr .mkTup [.cst (.str [42]),.cst (.str [47]),.cst (.str [37])],.cst (.int 17)],.pr .mkTup [.pr .mkTup [.cst (.str [42,42])],.cst (.int 20)]]),
 .forT [2,3] (.var 1) [.ite (.pr .inn [.var 0,.var 2]) [.ret (.var 3)] []],
 .bad]
theorem ft8:FT 8=some ⟨1,4,[],b8⟩:=by kernel_rfl
noncomputable def b9:List CS:=[.ret (.andd (.pr .notNone [.var 0]) (.andd (.pr .notb [.pr .isBoolStr [.var 0]]) (.pr .lt [.var 0,.cst (.int 0)])))]
theorem ft9:FT 9=some ⟨1,1,[],b9⟩:=by kernel_rfl
noncomputable def b10:List CS:=[.assign 1 (.pr .getitem [.var 0,.cst (.int 0)]),
 .ite (.pr .eq [.var 1,.cst (.str [98,105,110])]) [.ret (.call 8 [.pr .getitem [.var 0,.cst (.int 1)]])] [],
 .ite (.andd (.pr .eq [.var 1,.cst (.str [108,105,116])]) (.call 9 [.pr .getitem [.var 0,.cst (.int 1)]])) [.ret (.cond (.pr .eq [.pr .getitem [.var 0,.cst (.int 1)],.cst (.int (-9223372036854775808))]) (.cst (.int 16)) (.cst (.int 19)))] [],
 .ite (.andd (.pr .eq [.var 1,.cst (.str [117,110])]) (.pr .eq [.pr .getitem [.var 0,.cst (.int 1)],.cst (.str [33])])) [.ret (.cst (.int 18))] [],
 .ite (.andd (.pr .eq [.var 1,.cst (.str [121,105,101,108,100])]) (.pr .isNone [.pr .getitem [.var 0,.cst (.int 2)]])) [.ret (.cst (.int 0))] [],
 .assign 2 (.pr .mkTup [.pr .mkTup [.pr .mkTup [.cst (.str [116,104,114,111,119])],.cst (.int 1)],.pr .mkTup [.pr .mkTup [.cst (.str [97,115,115,105,103,110]),.cst (.str [97,115,115,105,103,110,114,101,102]),.cst (.str [97,115,115,105,103,110,111,112]),.cst (.str [112,114,105,110,116]),.cst (.str [121,105,101,108,100]),.cst (.str [121,105,101,108,100,102,114,111,109]),.cst (.str [97,114,114,111,119])],.cst (.int 4)],.pr .mkTup [.pr .mkTup [.cst (.str [105,102])],.cst (.int 5)],.pr .mkTup [.pr .mkTup [.cst (.str [99,111,97,108,101,115,99,101])],.cst (.int 6)],.pr .mkTup [.pr .mkTup [.cst (.str [111,114])],.cst (.int 7)],.pr .mkTup [.pr .mkTup [.cst (.str [97,110,100])],.cst (.int 8)],.pr .mkTup [.pr .mkTup [.cst (.str [105,110,115,116,97,110,99,101,111,102])],.cst (.int 18)],.pr .mkTup [.pr .mkTup [.cst (.str [117,110]),.cst (.str [99,97,115,116]),.cst (.str [115,105,108,101,110,99,101])],.cst (.int 19)],.pr .mkTup [.pr .mkTup [.cst (.str [99,108,111,110,101])],.cst (.int 20)]]),
 .forT [3,4] (.var 2) [.ite (.pr .inn [.var 1,.var 3]) [.ret (.var 4)] []],
 .ret (.cst (.int 21))]
theorem Zbc:FT 10=some ⟨1,5,[],b10⟩:=by kernel_rfl
noncomputable def b12:List CS:=[.for 1 (.var 0) [.ite (.andd (.pr .ne [.var 1,.cst (.str [10])]) (.orr (.pr .lt [.var 1,.cst (.str [32])]) (.pr .gt [.var 1,.cst (.str [126])]))) [.ret (.pr .add [.pr .add [.cst (.str [34]),.call 11 [.var 0]],.cst (.str [34])])] []],
 .ret (.pr .add [.pr .add [.cst (.str [39]),.pr (.replace [39] [92,39]) [.pr (.replace [92] [92,92]) [.var 0]]],.cst (.str [39])])]
theorem Zj4:FT 12=some ⟨1,2,[],b12⟩:=by kernel_rfl
noncomputable def b13:List CS:=[.ite (.pr .isNone [.var 0]) [.ret (.cst (.str [110,117,108,108]))] [],
 .ite (.pr .isBool [.var 0]) [.ret (.cond (.var 0) (.cst (.str [116,114,117,101])) (.cst (.str [102,97,108,115,101])))] [],
 .ite (.pr .isStr [.var 0]) [.ret (.call 12 [.var 0])] [],
 .ite (.pr .eq [.var 0,.cst (.int (-9223372036854775808))]) [.ret (.cst (.str [45,57,50,50,51,51,55,50,48,51,54,56,53,52,55,55,53,56,48,55,32,45,32,49]))] [],
 .ret (.pr .strOf [.var 0])]
theorem Zhj:FT 13=some ⟨1,1,[],b13⟩:=by kernel_rfl
noncomputable def b14:List CS:=[.assign 1 (.pr .mkTup [.cst (.str [105,110,116]),.cst (.str [105,110,116,101,103,101,114]),.cst (.str [98,111,111,108]),.cst (.str [98,111,111,108,101,97,110]),.cst (.str [115,116,114,105,110,103]),.cst (.str [98,105,110,97,114,121]),.cst (.str [97,114,114,97,121]),.cst (.str [111,98,106,101,99,116]),.cst (.str [102,108,111,97,116]),.cst (.str [100,111,117,98,108,101]),.cst (.str [114,101,97,108])]),
 .ret (.cond (.pr .inn [.pr .lower [.var 0],.var 1]) (.pr .add [.var 0,.cst (.str [47,42,42,47])]) (.var 0))]
theorem Zj3:FT 14=some ⟨1,2,[],b14⟩:=by kernel_rfl
noncomputable def b15:List CS:=[.ite (.orr (.pr .notb [.pr .isStr [.var 0]]) (.orr (.pr .eq [.var 0,.cst (.str [])]) (.pr .notb [.call 4 [.pr .getitem [.var 0,.cst (.int 0)]]]))) [.ret (.cst (.bool false))] [],
 .ret (.pr .eq [.call 6 [.var 0,.cst (.int 0)],.pr .len [.var 0]])]
theorem Zi1:FT 15=some ⟨1,1,[],b15⟩:=by kernel_rfl
noncomputable def b17:List CS:=[.ret (.pr .join [.cst (.str [44,32]),.comp 3 (.call 45 [.var 3,.cst (.int 0),.var 1,.var 2]) (.var 0)])]
theorem Zj2:FT 17=some ⟨3,4,[],b17⟩:=by kernel_rfl
noncomputable def b18:List CS:=[.assign 3 (.call 45 [.var 0,.cst (.int 0),.var 1,.var 2]),
 .ite (.pr .inn [.pr .getitem [.var 0,.cst (.int 0)],.pr .mkTup [.cst (.str [118,97,114]),.cst (.str [118,97,114,118,97,114]),.cst (.str [100,105,109]),.cst (.str [112,114,111,112]),.cst (.str [115,112,114,111,112]),.cst (.str [99,99,111,110,115,116]),.cst (.str [99,97,108,108]),.cst (.str [109,99,97,108,108]),.cst (.str [115,99,97,108,108])]]) [.ret (.var 3)] [],
 .ret (.pr .add [.pr .add [.cst (.str [40]),.var 3],.cst (.str [41])])]
theorem Zi0:FT 18=some ⟨3,4,[],b18⟩:=by kernel_rfl
noncomputable def b19:List CS:=[.ret (.cond (.pr .eq [.pr .getitem [.var 0,.cst (.int 0)],.cst (.str [110,97,109,101])]) (.pr .getitem [.var 0,.cst (.int 1)]) (.call 18 [.var 0,.var 1,.var 2]))]
theorem Zjm:FT 19=some ⟨3,3,[],b19⟩:=by kernel_rfl
noncomputable def b20:List CS:=[.ite (.pr .eq [.pr .getitem [.var 0,.cst (.int 0)],.cst (.str [110,97,109,101])]) [.ret (.pr .getitem [.var 0,.cst (.int 1)])] [],
 .assign 3 (.call 45 [.var 0,.cst (.int 0),.var 1,.var 2]),
 .ret (.cond (.pr .eq [.pr .getitem [.var 0,.cst (.int 0)],.cst (.str [118,97,114])]) (.var 3) (.pr .add [.pr .add [.cst (.str [40]),.var 3],.cst (.str [41])]))]
theorem Zhi:FT 20=some ⟨3,4,[],b20⟩:=by kernel_rfl
noncomputable def b21:List CS:=[.ite (.andd (.pr .eq [.pr .getitem [.var 0,.cst (.int 0)],.cst (.str [108,105,116])]) (.call 15 [.pr .getitem [.var 0,.cst (.int 1)]])) [.ret (.pr .getitem [.var 0,.cst (.int 1)])] [],
 .assign 3 (.call 45 [.var 0,.cst (.int 0),.var 1,.var 2]),
 .ret (.cond (.pr .eq [.pr .getitem [.var 0,.cst (.int 0)],.cst (.str [118,97,114])]) (.var 3) (.pr .add [.pr .add [.cst (.str [123]),.var 3],.cst (.str [125])]))]
theorem Zhh:FT 21=some ⟨3,4,[],b21⟩:=by kernel_rfl
noncomputable def b22:List CS:=[.assign 3 (.call 45 [.var 0,.cst (.int 0),.var 1,.var 2]),
 .ret (.cond (.pr .inn [.pr .getitem [.var 0,.cst (.int 0)],.pr .mkTup [.cst (.str [118,97,114]),.cst (.str [118,97,114,118,97,114])]]) (.pr .add [.cst (.str [36]),.var 3]) (.pr .add [.pr .add [.cst (.str [36,123]),.var 3],.cst (.str [125])]))]
theorem Zjl:FT 22=some ⟨3,4,[],b22⟩:=by kernel_rfl
noncomputable def b23:List CS:=[.ite (.pr .isNone [.var 0]) [.ret (.cst (.str [40,46,46,46,41]))] [],
 .assign 3 (.pr .mkList []),
 .forT [4,5,6] (.var 0) [.assign 7 (.cond (.var 5) (.cst (.str [46,46,46])) (.cond (.pr .isNone [.var 6]) (.cst (.str [])) (.pr .add [.var 6,.cst (.str [58,32])]))),.expr (.pr .append [.pr .islst [.var 3],.pr .add [.var 7,.call 45 [.var 4,.cst (.int 0),.var 1,.var 2]]])],
 .ret (.pr .add [.pr .add [.cst (.str [40]),.pr .join [.cst (.str [44,32]),.var 3]],.cst (.str [41])])]
theorem Zj1:FT 23=some ⟨3,8,[],b23⟩:=by kernel_rfl
noncomputable def b24:List CS:=[.ret (.cond (.pr .isNone [.var 0]) (.cst (.str [])) (.pr .add [.call 45 [.var 0,.cst (.int 5),.var 1,.var 2],.cst (.str [32,61,62,32])]))]
theorem ZhZ:FT 24=some ⟨3,3,[],b24⟩:=by kernel_rfl
noncomputable def b25:List CS:=[.assign 3 (.pr .mkList []),
 .forT [4,5,6,7] (.var 0) [.assign 8 (.cond (.var 6) (.cst (.str [38])) (.cond (.var 7) (.cst (.str [46,46,46])) (.cst (.str [])))),.expr (.pr .append [.pr .islst [.var 3],.pr .add [.pr .add [.call 24 [.var 4,.var 1,.var 2],.var 8],.call 45 [.var 5,.cst (.int 0),.var 1,.var 2]]])],
 .ret (.pr .add [.pr .add [.cst (.str [91]),.pr .join [.cst (.str [44,32]),.var 3]],.cst (.str [93])])]
theorem Zj0:FT 25=some ⟨3,9,[],b25⟩:=by kernel_rfl
noncomputable def b26:List CS:=[.assign 3 (.pr .mkList []),
 .for 4 (.var 0) [.ite (.pr .isNone [.var 4]) [.expr (.pr .append [.pr .islst [.var 3],.cst (.str [])])] [.unpack [5,6,7] (.var 4),.expr (.pr .append [.pr .islst [.var 3],.pr .add [.pr .add [.call 24 [.var 5,.var 1,.var 2],.cond (.var 7) (.cst (.str [38])) (.cst (.str []))],.call 45 [.var 6,.cst (.int 0),.var 1,.var 2]]])]],
 .assign 8 (.cond (.andd (.pr .gt [.pr .len [.var 0],.cst (.int 0)]) (.pr .isNone [.pr .getitem [.var 0,.cst (.int (-1))]])) (.cst (.str [44])) (.cst (.str []))),
 .ret (.pr .add [.pr .add [.pr .add [.cst (.str [91]),.pr .join [.cst (.str [44,32]),.var 3]],.var 8],.cst (.str [93])])]
theorem ZiZ:FT 26=some ⟨3,9,[],b26⟩:=by kernel_rfl
noncomputable def b35:List CS:=[.assign 3 (.pr .mkList []),
 .forT [4,5] (.pr .getitem [.var 0,.cst (.int 2)]) [.assign 6 (.cond (.pr .isNone [.var 4]) (.cst (.str [100,101,102,97,117,108,116])) (.pr .join [.cst (.str [44,32]),.comp 7 (.call 45 [.var 7,.cst (.int 5),.var 1,.var 2]) (.var 4)])),.expr (.pr .append [.pr .islst [.var 3],.pr .add [.pr .add [.var 6,.cst (.str [32,61,62,32])],.call 45 [.var 5,.cst (.int 0),.var 1,.var 2]]])],
 .ret (.pr .add [.pr .add [.pr .add [.pr .add [.cst (.str [109,97,116,99,104,32,40]),.call 45 [.pr .getitem [.var 0,.cst (.int 1)],.cst (.int 0),.var 1,.var 2]],.cst (.str [41,32,123])],.pr .join [.cst (.str [44,32]),.var 3]],.cst (.str [125])])]
theorem ZiY:FT 35=some ⟨3,8,[],b35⟩:=by kernel_rfl
noncomputable def b36:List CS:=[.assign 5 (.call 45 [.var 1,.var 2,.var 3,.var 4]),
 .ret (.pr .add [.pr .add [.var 0,.cond (.pr .eq [.pr .slice [.var 5,.cst (.none),.cst (.int 1)],.var 0]) (.cst (.str [32])) (.cst (.str []))],.var 5])]
theorem ZhY:FT 36=some ⟨5,6,[],b36⟩:=by kernel_rfl
noncomputable def b37:List CS:=[.ret (.pr .add [.pr .add [.pr .add [.pr .add [.call 45 [.var 0,.var 3,.var 5,.var 6],.cst (.str [32])],.var 1],.cst (.str [32])],.call 45 [.var 2,.var 4,.var 5,.var 6]])]
theorem ZiX:FT 37=some ⟨7,7,[],b37⟩:=by kernel_rfl
noncomputable def b38:List CS:=[.ite (.pr .ne [.pr .getitem [.var 0,.cst (.int 0)],.cst (.str [98,105,110])]) [.assign 3 (.pr .getitem [.pr (.mkDict [[97,110,100],[111,114],[99,111,97,108,101,115,99,101]]) [.cst (.str [38,38]),.cst (.str [124,124]),.cst (.str [63,63])],.pr .getitem [.var 0,.cst (.int 0)]]),.assign 4 (.call 10 [.var 0]),.assign 5 (.cond (.pr .eq [.var 3,.cst (.str [63,63])]) (.pr .mkTup [.pr .add [.var 4,.cst (.int 1)],.var 4]) (.pr .mkTup [.var 4,.pr .add [.var 4,.cst (.int 1)]])),.ret (.call 37 [.pr .getitem [.var 0,.cst (.int 1)],.var 3,.pr .getitem [.var 0,.cst (.int 2)],.pr .getitem [.var 5,.cst (.int 0)],.pr .getitem [.var 5,.cst (.int 1)],.var 1,.var 2])] [],
 .assign 4 (.call 8 [.pr .getitem [.var 0,.cst (.int 1)]]),
 .assign 5 (.pr .mkTup [.var 4,.pr .add [.var 4,.cst (.int 1)]]),
 .ite (.pr .inn [.var 4,.pr .mkTup [.cst (.int 12),.cst (.int 13)]]) [.assign 5 (.pr .mkTup [.pr .add [.var 4,.cst (.int 1)],.pr .add [.var 4,.cst (.int 1)]])] [.ite (.pr .eq [.var 4,.cst (.int 20)]) [.assign 5 (.pr .mkTup [.cst (.int 21),.cst (.int 19)])] []],
 .ret (.call 37 [.pr .getitem [.var 0,.cst (.int 2)],.pr .getitem [.var 0,.cst (.int 1)],.pr .getitem [.var 0,.cst (.int 3)],.pr .getitem [.var 5,.cst (.int 0)],.pr .getitem [.var 5,.cst (.int 1)],.var 1,.var 2])]
theorem ZhX:FT 38=some ⟨3,6,[],b38⟩:=by kernel_rfl
noncomputable def b39:List CS:=[.ite (.pr .eq [.pr .getitem [.var 0,.cst (.int 0)],.cst (.str [105,110,99,100,101,99])]) [.unpack [3,4,5,6] (.var 0),.assign 7 (.call 45 [.var 6,.cst (.int 0),.var 1,.var 2]),.ret (.cond (.var 5) (.pr .add [.var 4,.var 7]) (.pr .add [.var 7,.var 4]))] [],
 .ite (.pr .eq [.pr .getitem [.var 0,.cst (.int 0)],.cst (.str [97,115,115,105,103,110,111,112])]) [.ret (.call 37 [.pr .getitem [.var 0,.cst (.int 2)],.pr .add [.pr .getitem [.var 0,.cst (.int 1)],.cst (.str [61])],.pr .getitem [.var 0,.cst (.int 3)],.cst (.int 0),.cst (.int 4),.var 1,.var 2])] [],
 .ite (.pr .eq [.pr .getitem [.var 0,.cst (.int 0)],.cst (.str [97,115,115,105,103,110,114,101,102])]) [.ret (.pr .add [.pr .add [.call 45 [.pr .getitem [.var 0,.cst (.int 1)],.cst (.int 0),.var 1,.var 2],.cst (.str [32,61,32,38])],.call 45 [.pr .getitem [.var 0,.cst (.int 2)],.cst (.int 0),.var 1,.var 2]])] [],
 .ret (.call 37 [.pr .getitem [.var 0,.cst (.int 1)],.cst (.str [61]),.pr .getitem [.var 0,.cst (.int 2)],.cst (.int 0),.cst (.int 4),.var 1,.var 2])]
theorem Zfh:FT 39=some ⟨3,8,[],b39⟩:=by kernel_rfl
noncomputable def b40:List CS:=[.assign 3 (.pr .getitem [.var 0,.cst (.int 0)]),
 .ite (.pr .eq [.var 3,.cst (.str [118,97,114])]) [.ret (.pr .add [.cst (.str [36]),.pr .getitem [.var 0,.cst (.int 1)]])] [],
 .ite (.pr .eq [.var 3,.cst (.str [118,97,114,118,97,114])]) [.ret (.call 22 [.pr .getitem [.var 0,.cst (.int 1)],.var 1,.var 2])] [],
 .ite (.pr .eq [.var 3,.cst (.str [100,105,109])]) [.assign 4 (.cond (.pr .isNone [.pr .getitem [.var 0,.cst (.int 2)]]) (.cst (.str [])) (.call 45 [.pr .getitem [.var 0,.cst (.int 2)],.cst (.int 0),.var 1,.var 2])),.ret (.pr .add [.pr .add [.pr .add [.call 18 [.pr .getitem [.var 0,.cst (.int 1)],.var 1,.var 2],.cst (.str [91])],.var 4],.cst (.str [93])])] [],
 .ite (.pr .eq [.var 3,.cst (.str [112,114,111,112])]) [.assign 5 (.cond (.pr .getitem [.var 0,.cst (.int 3)]) (.cst (.str [63,45,62])) (.cst (.str [45,62]))),.ret (.pr .add [.pr .add [.call 18 [.pr .getitem [.var 0,.cst (.int 1)],.var 1,.var 2],.var 5],.call 21 [.pr .getitem [.var 0,.cst (.int 2)],.var 1,.var 2]])] [],
 .ite (.pr .eq [.var 3,.cst (.str [99,99,111,110,115,116])]) [.ret (.pr .add [.pr .add [.call 19 [.pr .getitem [.var 0,.cst (.int 1)],.var 1,.var 2],.cst (.str [58,58])],.pr .getitem [.var 0,.cst (.int 2)]])] [],
 .ite (.andd (.pr .eq [.pr .getitem [.pr .getitem [.var 0,.cst (.int 2)],.cst (.int 0)],.cst (.str [108,105,116])]) (.call 15 [.pr .getitem [.pr .getitem [.var 0,.cst (.int 2)],.cst (.int 1)]])) [.ret (.pr .add [.pr .add [.call 19 [.pr .getitem [.var 0,.cst (.int 1)],.var 1,.var 2],.cst (.str [58,58,36])],.pr .getitem [.pr .getitem [.var 0,.cst (.int 2)],.cst (.int 1)]])] [],
 .ret (.pr .add [.pr .add [.call 19 [.pr .getitem [.var 0,.cst (.int 1)],.var 1,.var 2],.cst (.str [58,58])],.call 22 [.pr .getitem [.var 0,.cst (.int 2)],.var 1,.var 2]])]
theorem Zfg:FT 40=some ⟨3,6,[],b40⟩:=by kernel_rfl
noncomputable def b41:List CS:=[.assign 3 (.pr .getitem [.var 0,.cst (.int 0)]),
 .ite (.pr .eq [.var 3,.cst (.str [110,101,119])]) [.ret (.call 34 [.var 0,.var 1,.var 2])] [],
 .ite (.pr .eq [.var 3,.cst (.str [109,99,97,108,108])]) [.assign 4 (.cond (.pr .getitem [.var 0,.cst (.int 4)]) (.cst (.str [63,45,62])) (.cst (.str [45,62]))),.assign 5 (.pr .add [.pr .add [.call 18 [.pr .getitem [.var 0,.cst (.int 1)],.var 1,.var 2],.var 4],.call 21 [.pr .getitem [.var 0,.cst (.int 2)],.var 1,.var 2]]),.ret (.pr .add [.var 5,.call 23 [.pr .getitem [.var 0,.cst (.int 3)],.var 1,.var 2]])] [],
 .ite (.pr .eq [.var 3,.cst (.str [115,99,97,108,108])]) [.assign 6 (.call 21 [.pr .getitem [.var 0,.cst (.int 2)],.var 1,.var 2]),.ite (.pr .eq [.pr .lower [.var 6],.cst (.str [99,108,97,115,115])]) [.assign 6 (.pr .add [.pr .add [.cst (.str [123,39]),.var 6],.cst (.str [39,125])])] [],.ret (.pr .add [.pr .add [.pr .add [.call 19 [.pr .getitem [.var 0,.cst (.int 1)],.var 1,.var 2],.cst (.str [58,58])],.var 6],.call 23 [.pr .getitem [.var 0,.cst (.int 3)],.var 1,.var 2]])] [],
 .assign 7 (.pr .getitem [.var 0,.cst (.int 1)]),
 .ite (.pr .eq [.pr .getitem [.var 7,.cst (.int 0)],.cst (.str [110,97,109,101])]) [.ret (.pr .add [.pr .getitem [.var 7,.cst (.int 1)],.call 23 [.pr .getitem [.var 0,.cst (.int 2)],.var 1,.var 2]])] [],
 .assign 5 (.call 18 [.var 7,.var 1,.var 2]),
 .ite (.pr .inn [.pr .getitem [.var 7,.cst (.int 0)],.pr .mkTup [.cst (.str [112,114,111,112]),.cst (.str [115,112,114,111,112]),.cst (.str [99,99,111,110,115,116])]]) [.assign 5 (.pr .add [.pr .add [.cst (.str [40]),.var 5],.cst (.str [41])])] [],
 .ret (.pr .add [.var 5,.call 23 [.pr .getitem [.var 0,.cst (.int 2)],.var 1,.var 2]])]
theorem Zff:FT 41=some ⟨3,8,[],b41⟩:=by kernel_rfl
noncomputable def b42:List CS:=[.ite (.pr .isNone [.pr .getitem [.var 0,.cst (.int 2)]]) [.ret (.cst (.str [121,105,101,108,100]))] [],
 .assign 3 (.call 45 [.pr .getitem [.var 0,.cst (.int 2)],.cst (.int 4),.var 1,.var 2]),
 .assign 4 (.cond (.pr .isNone [.pr .getitem [.var 0,.cst (.int 1)]]) (.var 3) (.call 45 [.pr .getitem [.var 0,.cst (.int 1)],.cst (.int 5),.var 1,.var 2])),
 .ite (.andd (.pr .startswith [.pr .lower [.var 4],.cst (.str [102,114,111,109])]) (.pr .eq [.call 6 [.var 4,.cst (.int 0)],.cst (.int 4)])) [.assign 4 (.pr .add [.pr .add [.cst (.str [40]),.var 4],.cst (.str [41])])] [],
 .ret (.pr .add [.pr .add [.cst (.str [121,105,101,108,100,32]),.var 4],.cond (.pr .isNone [.pr .getitem [.var 0,.cst (.int 1)]]) (.cst (.str [])) (.pr .add [.cst (.str [32,61,62,32]),.var 3])])]
theorem Zdi:FT 42=some ⟨3,5,[],b42⟩:=by kernel_rfl
noncomputable def b43:List CS:=[.assign 3 (.pr .getitem [.var 0,.cst (.int 0)]),
 .ite (.pr .eq [.var 3,.cst (.str [117,110])]) [.ret (.call 36 [.pr .getitem [.var 0,.cst (.int 1)],.pr .getitem [.var 0,.cst (.int 2)],.cond (.pr .eq [.pr .getitem [.var 0,.cst (.int 1)],.cst (.str [33])]) (.cst (.int 18)) (.cst (.int 19)),.var 1,.var 2])] [],
 .ite (.pr .eq [.var 3,.cst (.str [99,97,115,116])]) [.ret (.pr .add [.pr .add [.pr .add [.cst (.str [40]),.pr .getitem [.var 0,.cst (.int 1)]],.cst (.str [41])],.call 45 [.pr .getitem [.var 0,.cst (.int 2)],.cst (.int 19),.var 1,.var 2]])] [],
 .ite (.pr .eq [.var 3,.cst (.str [115,105,108,101,110,99,101])]) [.ret (.pr .add [.cst (.str [64]),.call 45 [.pr .getitem [.var 0,.cst (.int 1)],.cst (.int 19),.var 1,.var 2]])] [],
 .ite (.pr .eq [.var 3,.cst (.str [121,105,101,108,100])]) [.ret (.call 42 [.var 0,.var 1,.var 2])] [],
 .assign 4 (.pr (.mkDict [[112,114,105,110,116],[99,108,111,110,101],[116,104,114,111,119],[121,105,101,108,100,102,114,111,109]]) [.pr .mkTup [.cst (.str [112,114,105,110,116,32]),.cst (.int 4)],.pr .mkTup [.cst (.str [99,108,111,110,101,32]),.cst (.int 20)],.pr .mkTup [.cst (.str [116,104,114,111,119,32]),.cst (.int 1)],.pr .mkTup [.cst (.str [121,105,101,108,100,32,102,114,111,109,32]),.cst (.int 4)]]),
 .unpack [5,6] (.pr .getitem [.var 4,.var 3]),
 .ret (.pr .add [.var 5,.call 45 [.pr .getitem [.var 0,.cst (.int 1)],.var 6,.var 1,.var 2]])]
theorem Z9N:FT 43=some ⟨3,7,[],b43⟩:=by kernel_rfl
noncomputable def b44:List CS:=[.assign 3 (.pr .getitem [.var 0,.cst (.int 0)]),
 .ite (.pr .eq [.var 3,.cst (.str [108,105,116])]) [.ret (.call 13 [.pr .getitem [.var 0,.cst (.int 1)]])] [],
 .ite (.pr .eq [.var 3,.cst (.str [99,111,110,115,116])]) [.ret (.call 14 [.pr .getitem [.var 0,.cst (.int 1)]])] [],
 .ite (.pr .eq [.var 3,.cst (.str [116,101,109,112,108,97,116,101])]) [.ret (.call 27 [.pr .getitem [.var 0,.cst (.int 1)],.var 1,.var 2])] [],
 .ite (.pr .eq [.var 3,.cst (.str [97,114,114,97,121])]) [.ret (.call 25 [.pr .getitem [.var 0,.cst (.int 1)],.var 1,.var 2])] [],
 .ite (.pr .eq [.var 3,.cst (.str [108,105,115,116])]) [.ret (.call 26 [.pr .getitem [.var 0,.cst (.int 1)],.var 1,.var 2])] [],
 .ite (.pr .eq [.var 3,.cst (.str [105,115,115,101,116])]) [.ret (.pr .add [.pr .add [.cst (.str [105,115,115,101,116,40]),.call 17 [.pr .getitem [.var 0,.cst (.int 1)],.var 1,.var 2]],.cst (.str [41])])] [],
 .ite (.pr .eq [.var 3,.cst (.str [101,109,112,116,121])]) [.ret (.pr .add [.pr .add [.cst (.str [101,109,112,116,121,40]),.call 45 [.pr .getitem [.var 0,.cst (.int 1)],.cst (.int 0),.var 1,.var 2]],.cst (.str [41])])] [],
 .ite (.pr .eq [.var 3,.cst (.str [109,97,116,99,104])]) [.ret (.call 35 [.var 0,.var 1,.var 2])] [],
 .ite (.pr .eq [.var 3,.cst (.str [99,108,111,115,117,114,101])]) [.ret (.call 31 [.var 0,.var 1,.var 2])] [],
 .ite (.pr .eq [.var 3,.cst (.str [97,114,114,111,119])]) [.ret (.call 32 [.var 0,.var 1,.var 2])] [],
 .ite (.pr .eq [.var 3,.cst (.str [105,110,115,116,97,110,99,101,111,102])]) [.ret (.pr .add [.pr .add [.call 45 [.pr .getitem [.var 0,.cst (.int 1)],.cst (.int 19),.var 1,.var 2],.cst (.str [32,105,110,115,116,97,110,99,101,111,102,32])],.call 20 [.pr .getitem [.var 0,.cst (.int 2)],.var 1,.var 2]])] [],
 .ite (.pr .ne [.var 3,.cst (.str [105,102])]) [.bad] [],
 .assign 4 (.cond (.pr .isNone [.pr .getitem [.var 0,.cst (.int 2)]]) (.cst (.str [32,63,58,32])) (.pr .add [.pr .add [.cst (.str [32,63,32]),.call 45 [.pr .getitem [.var 0,.cst (.int 2)],.cst (.int 6),.var 1,.var 2]],.cst (.str [32,58,32])])),
 .ret (.pr .add [.pr .add [.call 45 [.pr .getitem [.var 0,.cst (.int 1)],.cst (.int 6),.var 1,.var 2],.var 4],.call 45 [.pr .getitem [.var 0,.cst (.int 3)],.cst (.int 6),.var 1,.var 2]])]
theorem Z9M:FT 44=some ⟨3,5,[],b44⟩:=by kernel_rfl
noncomputable def b45:List CS:=[.assign 4 (.pr .getitem [.var 0,.cst (.int 0)]),
 .ite (.pr .inn [.var 4,.pr .mkTup [.cst (.str [98,105,110]),.cst (.str [97,110,100]),.cst (.str [111,114]),.cst (.str [99,111,97,108,101,115,99,101])]]) [.assign 5 (.call 38 [.var 0,.var 2,.var 3])] [.ite (.pr .inn [.var 4,.pr .mkTup [.cst (.str [97,115,115,105,103,110]),.cst (.str [97,115,115,105,103,110,114,101,102]),.cst (.str [97,115,115,105,103,110,111,112]),.cst (.str [105,110,99,100,101,99])]]) [.assign 5 (.call 39 [.var 0,.var 2,.var 3])] [.ite (.pr .inn [.var 4,.pr .mkTup [.cst (.str [118,97,114]),.cst (.str [118,97,114,118,97,114]),.cst (.str [100,105,109]),.cst (.str [112,114,111,112]),.cst (.str [115,112,114,111,112]),.cst (.str [99,99,111,110,115,116])]]) [.assign 5 (.call 40 [.var 0,.var 2,.var 3])] [.ite (.pr .inn [.var 4,.pr .mkTup [.cst (.str [99,97,108,108]),.cst (.str [110,101,119]),.cst (.str [109,99,97,108,108]),.cst (.str [115,99,97,108,108])]]) [.assign 5 (.call 41 [.var 0,.var 2,.var 3])] [.ite (.pr .inn [.var 4,.pr .mkTup [.cst (.str [117,110]),.cst (.str [99,97,115,116]),.cst (.str [115,105,108,101,110,99,101]),.cst (.str [112,114,105,110,116]),.cst (.str [99,108,111,110,101]),.cst (.str [116,104,114,111,119]),.cst (.str [121,105,101,108,100]),.cst (.str [121,105,101,108,100,102,114,111,109])]]) [.assign 5 (.call 43 [.var 0,.var 2,.var 3])] [.assign 5 (.call 44 [.var 0,.var 2,.var 3])]]]]],
 .ret (.cond (.pr .lt [.call 10 [.var 0],.var 1]) (.pr .add [.pr .add [.cst (.str [40]),.var 5],.cst (.str [41])]) (.var 5))]
theorem Zhg:FT 45=some ⟨4,6,[.int 0,.none,.int 0],b45⟩:=by kernel_rfl
noncomputable def b47:List CS:=[.assign 3 (.pr .getitem [.var 1,.cst (.int 0)]),
 .setidx (.var 1) (.cst (.int 0)) (.pr .add [.var 3,.cst (.int 1)]),
 .assign 4 (.cond (.pr .lt [.var 3,.pr .len [.var 0]]) (.pr .getitem [.var 0,.var 3]) (.pr .add [.pr .add [.pr .mul [.var 3,.var 3],.pr .fdiv [.pr .mul [.cst (.int 7),.var 3],.cst (.int 3)]],.pr .mul [.cst (.int 11),.pr .fdiv [.var 3,.cst (.int 6)]]])),
 .ret (.pr .mod [.var 4,.var 2])]
theorem ZhW:FT 47=some ⟨3,5,[],b47⟩:=by kernel_rfl
noncomputable def b48:List CS:=[.unpack [0,1,2,3] (.pr .mkTup [.pr .mkTup [.cst (.str [118,97,114]),.cst (.str [120])],.pr .mkTup [.cst (.str [118,97,114]),.cst (.str [121])],.pr .mkTup [.cst (.str [118,97,114]),.cst (.str [122])],.pr .mkTup [.cst (.str [108,105,116]),.cst (.int 1)]]),
 .assign 4 (.pr .mkTup [.cst (.str [98,105,110]),.cst (.str [45]),.var 0,.pr .mkTup [.cst (.str [98,105,110]),.cst (.str [45]),.var 1,.pr .mkTup [.cst (.str [117,110]),.cst (.str [45]),.pr .mkTup [.cst (.str [105,110,99,100,101,99]),.cst (.str [45,45]),.cst (.bool true),.var 2]]]]),
 .assign 5 (.pr .mkTup [.cst (.str [117,110]),.cst (.str [33]),.pr .mkTup [.cst (.str [98,105,110]),.cst (.str [42,42]),.pr .mkTup [.cst (.str [117,110]),.cst (.str [45]),.var 0],.pr .mkTup [.cst (.str [117,110]),.cst (.str [33]),.pr .mkTup [.cst (.str [105,110,115,116,97,110,99,101,111,102]),.pr .mkTup [.cst (.str [97,115,115,105,103,110]),.var 1,.var 3],.pr .mkTup [.cst (.str [110,97,109,101]),.cst (.str [65])]]]]]),
 .assign 6 (.pr .mkTup [.cst (.str [105,102]),.pr .mkTup [.cst (.str [105,102]),.var 0,.cst (.none),.var 1],.pr .mkTup [.cst (.str [121,105,101,108,100]),.cst (.none),.cst (.none)],.pr .mkTup [.cst (.str [99,111,97,108,101,115,99,101]),.pr .mkTup [.cst (.str [99,111,97,108,101,115,99,101]),.var 0,.var 1],.pr .mkTup [.cst (.str [112,114,105,110,116]),.var 2]]]),
 .assign 7 (.pr .mkTup [.cst (.str [121,105,101,108,100]),.pr .mkTup [.cst (.str [99,111,110,115,116]),.cst (.str [102,114,111,109])],.pr .mkTup [.cst (.str [99,97,108,108]),.pr .mkTup [.cst (.str [112,114,111,112]),.var 0,.pr .mkTup [.cst (.str [108,105,116]),.cst (.str [102])],.cst (.bool true)],.pr .mkTup [.pr .mkTup [.var 6,.cst (.bool true),.cst (.none)]]]]),
 .assign 8 (.pr .mkTup [.cst (.str [108,105,115,116]),.pr .mkTup [.pr .mkTup [.pr .mkTup [.cst (.str [112,114,105,110,116]),.var 0],.pr .mkTup [.cst (.str [100,105,109]),.var 1,.pr .mkTup [.cst (.str [121,105,101,108,100]),.cst (.none),.var 3]],.cst (.bool false)],.cst (.none),.cst (.none)]]),
 .assign 9 (.pr .mkTup [.cst (.str [99,97,115,116]),.cst (.str [105,110,116]),.pr .mkTup [.cst (.str [100,105,109]),.pr .mkTup [.cst (.str [108,105,116]),.cst (.str [105,116,39,115,32,92,32,39,113,39,92])],.pr .mkTup [.cst (.str [97,115,115,105,103,110]),.var 8,.pr .mkTup [.cst (.str [121,105,101,108,100,102,114,111,109]),.pr .mkTup [.cst (.str [99,111,110,115,116]),.cst (.str [73,78,84])]]]]]),
 .ret (.pr .mkFl [.var 4,.var 5,.var 7,.var 9])]
theorem ZiW:FT 48=some ⟨0,10,[],b48⟩:=by kernel_rfl
noncomputable def b49:List CS:=[.ret (.pr .mkFl [.cst (.str [120,111,114]),.cst (.str [124]),.cst (.str [94]),.cst (.str [38]),.cst (.str [61,61]),.cst (.str [33,61]),.cst (.str [61,61,61]),.cst (.str [33,61,61]),.cst (.str [60,61,62]),.cst (.str [60]),.cst (.str [60,61]),.cst (.str [62]),.cst (.str [62,61]),.cst (.str [46]),.cst (.str [60,60]),.cst (.str [62,62]),.cst (.str [43]),.cst (.str [45]),.cst (.str [42]),.cst (.str [47]),.cst (.str [37]),.cst (.str [42,42])])]
theorem ZiV:FT 49=some ⟨0,0,[],b49⟩:=by kernel_rfl
noncomputable def b50:List CS:=[.assign 2 (.call 47 [.var 0,.var 1,.cst (.int 10)]),
 .ite (.pr .lt [.var 2,.cst (.int 5)]) [.ret (.pr .mkTup [.cst (.str [118,97,114]),.pr .getitem [.cst (.str [120,121,122]),.call 47 [.var 0,.var 1,.cst (.int 3)]]])] [],
 .ite (.pr .lt [.var 2,.cst (.int 7)]) [.ret (.pr .mkTup [.cst (.str [108,105,116]),.pr .getitem [.pr .mkFl [.cst (.int 0),.cst (.int 1),.cst (.int 9223372036854775807),.cst (.none),.cst (.bool true),.cst (.bool false)],.call 47 [.var 0,.var 1,.cst (.int 6)]]])] [],
 .ite (.pr .eq [.var 2,.cst (.int 7)]) [.ret (.pr .mkTup [.cst (.str [108,105,116]),.pr .getitem [.pr .mkFl [.cst (.str []),.cst (.str [97]),.cst (.str [39]),.cst (.str [92]),.cst (.str [92,39]),.cst (.str [36,120,10]),.cst (.str [45,45])],.call 47 [.var 0,.var 1,.cst (.int 7)]]])] [],
 .ret (.pr .mkTup [.cst (.str [99,111,110,115,116]),.pr .getitem [.pr .mkFl [.cst (.str [75]),.cst (.str [102,114,111,109]),.cst (.str [105,110,116]),.cst (.str [83,116,114,105,110,103]),.cst (.str [102,114,111,109,97,103,101]),.cst (.str [111,98,106,101,99,116])],.call 47 [.var 0,.var 1,.cst (.int 6)]]])]
theorem Zg0:FT 50=some ⟨2,3,[],b50⟩:=by kernel_rfl
noncomputable def b51:List CS:=[.assign 3 (.call 47 [.var 0,.var 1,.cst (.int 5)]),
 .assign 4 (.pr .mkTup [.cst (.str [118,97,114]),.pr .getitem [.cst (.str [120,121,122]),.call 47 [.var 0,.var 1,.cst (.int 3)]]]),
 .ite (.andd (.pr .eq [.var 3,.cst (.int 1)]) (.pr .gt [.var 2,.cst (.int 0)])) [.ret (.pr .mkTup [.cst (.str [100,105,109]),.var 4,.call 54 [.var 0,.var 1,.pr .sub [.var 2,.cst (.int 1)]]])] [],
 .ite (.pr .eq [.var 3,.cst (.int 2)]) [.ret (.pr .mkTup [.cst (.str [112,114,111,112]),.var 4,.pr .mkTup [.cst (.str [108,105,116]),.cst (.str [112])],.cst (.bool false)])] [],
 .ite (.pr .eq [.var 3,.cst (.int 3)]) [.ret (.pr .mkTup [.cst (.str [100,105,109]),.pr .mkTup [.cst (.str [112,114,111,112]),.var 4,.pr .mkTup [.cst (.str [108,105,116]),.cst (.str [113])],.cst (.bool false)],.cst (.none)])] [],
 .ret (.var 4)]
theorem ZdK:FT 51=some ⟨3,5,[],b51⟩:=by kernel_rfl
noncomputable def b52:List CS:=[.assign 3 (.pr .getitem [.pr .mkFl [.cst (.none),.pr .mkTup [.cst (.str [108,105,116]),.cst (.str [107])],.pr .mkTup [.cst (.str [99,111,110,115,116]),.cst (.str [75])]],.call 47 [.var 0,.var 1,.cst (.int 3)]]),
 .assign 4 (.pr .mkTup [.var 3,.call 51 [.var 0,.var 1,.cst (.int 0)],.pr .eq [.call 47 [.var 0,.var 1,.cst (.int 3)],.cst (.int 1)]]),
 .ite (.pr .notNone [.var 3]) [.ret (.pr .mkTup [.cst (.str [108,105,115,116]),.pr .mkTup [.var 4,.pr .mkTup [.call 54 [.var 0,.var 1,.var 2],.pr .mkTup [.cst (.str [108,105,115,116]),.pr .mkTup [.pr .mkTup [.cst (.none),.pr .mkTup [.cst (.str [118,97,114]),.cst (.str [121])],.cst (.bool false)]]],.cst (.bool false)]]])] [],
 .assign 5 (.pr .mkTup [.cst (.none),.pr .mkTup [.cst (.str [118,97,114]),.cst (.str [122])],.cst (.bool false)]),
 .ret (.pr .mkTup [.cst (.str [108,105,115,116]),.pr .getitem [.pr .mkTup [.pr .mkTup [.cst (.none),.var 4,.var 4],.pr .mkTup [.var 4],.pr .mkTup [.var 4,.cst (.none)],.pr .mkTup [.var 4,.var 5]],.call 47 [.var 0,.var 1,.cst (.int 4)]]])]
theorem ZhV:FT 52=some ⟨3,6,[],b52⟩:=by kernel_rfl
noncomputable def b53:List CS:=[.assign 3 (.pr .mkList []),
 .for 4 (.pr .range [.call 47 [.var 0,.var 1,.cst (.int 3)]]) [.expr (.pr .append [.pr .islst [.var 3],.pr .mkTup [.call 54 [.var 0,.var 1,.var 2],.pr .eq [.call 47 [.var 0,.var 1,.cst (.int 4)],.cst (.int 1)],.cst (.none)]])],
 .ite (.pr .eq [.call 47 [.var 0,.var 1,.cst (.int 3)],.cst (.int 1)]) [.expr (.pr .append [.pr .islst [.var 3],.pr .mkTup [.call 54 [.var 0,.var 1,.var 2],.cst (.bool false),.cst (.str [110,97,109,101])]])] [],
 .ret (.pr .tuple [.var 3])]
theorem ZiU:FT 53=some ⟨3,5,[],b53⟩:=by kernel_rfl
noncomputable def b54:List CS:=[.assign 3 (.call 47 [.var 0,.var 1,.cst (.int 30)]),
 .ite (.orr (.pr .eq [.var 2,.cst (.int 0)]) (.pr .gt [.var 3,.cst (.int 27)])) [.ret (.call 50 [.var 0,.var 1])] [],
 .ite (.pr .gt [.var 3,.cst (.int 17)]) [.ret (.call 55 [.var 0,.var 1,.pr .sub [.var 3,.cst (.int 18)],.pr .sub [.var 2,.cst (.int 1)]])] [],
 .ite (.pr .eq [.var 3,.cst (.int 17)]) [.ret (.pr .mkTup [.cst (.str [121,105,101,108,100]),.cst (.none),.cst (.none)])] [],
 .assign 4 (.call 54 [.var 0,.var 1,.pr .sub [.var 2,.cst (.int 1)]]),
 .ite (.pr .eq [.var 3,.cst (.int 0)]) [.ret (.pr .mkTup [.cst (.str [117,110]),.pr .getitem [.cst (.str [43,45,126,33]),.call 47 [.var 0,.var 1,.cst (.int 4)]],.var 4])] [],
 .ite (.pr .eq [.var 3,.cst (.int 1)]) [.ret (.pr .mkTup [.cst (.str [99,97,115,116]),.pr .getitem [.pr .mkFl [.cst (.str [105,110,116]),.cst (.str [115,116,114,105,110,103]),.cst (.str [98,111,111,108]),.cst (.str [97,114,114,97,121]),.cst (.str [111,98,106,101,99,116])],.call 47 [.var 0,.var 1,.cst (.int 5)]],.var 4])] [],
 .ite (.pr .lt [.var 3,.cst (.int 7)]) [.ret (.pr .getitem [.pr .mkFl [.pr .mkTup [.cst (.str [115,105,108,101,110,99,101]),.var 4],.pr .mkTup [.cst (.str [112,114,105,110,116]),.var 4],.pr .mkTup [.cst (.str [116,104,114,111,119]),.var 4],.pr .mkTup [.cst (.str [99,108,111,110,101]),.var 4],.pr .mkTup [.cst (.str [121,105,101,108,100,102,114,111,109]),.var 4]],.pr .sub [.var 3,.cst (.int 2)]])] [],
 .ite (.pr .eq [.var 3,.cst (.int 7)]) [.assign 5 (.cond (.pr .eq [.call 47 [.var 0,.var 1,.cst (.int 2)],.cst (.int 0)]) (.cst (.none)) (.call 54 [.var 0,.var 1,.pr .sub [.var 2,.cst (.int 1)]])),.ret (.pr .mkTup [.cst (.str [121,105,101,108,100]),.var 5,.var 4])] [],
 .assign 6 (.call 54 [.var 0,.var 1,.pr .sub [.var 2,.cst (.int 1)]]),
 .ite (.pr .lt [.var 3,.cst (.int 12)]) [.ret (.pr .mkTup [.cst (.str [98,105,110]),.pr .getitem [.call 49 [],.call 47 [.var 0,.var 1,.cst (.int 22)]],.var 4,.var 6])] [],
 .ite (.pr .lt [.var 3,.cst (.int 15)]) [.ret (.pr .mkTup [.pr .getitem [.pr .mkFl [.cst (.str [97,110,100]),.cst (.str [111,114]),.cst (.str [99,111,97,108,101,115,99,101])],.pr .sub [.var 3,.cst (.int 12)]],.var 4,.var 6])] [],
 .ret (.pr .mkTup [.cst (.str [105,102]),.var 4,.cond (.pr .eq [.var 3,.cst (.int 15)]) (.cst (.none)) (.call 54 [.var 0,.var 1,.pr .sub [.var 2,.cst (.int 1)]]),.var 6])]
theorem Z4d:FT 54=some ⟨3,7,[],b54⟩:=by kernel_rfl
noncomputable def b55:List CS:=[.ite (.pr .eq [.var 2,.cst (.int 0)]) [.assign 4 (.call 51 [.var 0,.var 1,.var 3]),.ret (.pr .mkTup [.cst (.str [97,115,115,105,103,110]),.var 4,.call 54 [.var 0,.var 1,.var 3]])] [],
 .ite (.pr .eq [.var 2,.cst (.int 1)]) [.assign 5 (.call 52 [.var 0,.var 1,.var 3]),.ret (.pr .mkTup [.cst (.str [97,115,115,105,103,110]),.var 5,.call 54 [.var 0,.var 1,.var 3]])] [],
 .ite (.pr .eq [.var 2,.cst (.int 2)]) [.assign 4 (.call 51 [.var 0,.var 1,.var 3]),.assign 6 (.call 51 [.var 0,.var 1,.var 3]),.ret (.pr .mkTup [.cst (.str [97,115,115,105,103,110,114,101,102]),.var 4,.cond (.pr .eq [.call 47 [.var 0,.var 1,.cst (.int 2)],.cst (.int 0)]) (.var 6) (.pr .mkTup [.cst (.str [99,97,108,108]),.pr .mkTup [.cst (.str [110,97,109,101]),.cst (.str [102])],.pr .mkTup []])])] [],
 .ite (.pr .eq [.var 2,.cst (.int 3)]) [.assign 4 (.call 51 [.var 0,.var 1,.var 3]),.assign 7 (.pr .getitem [.pr .mkFl [.cst (.str [43]),.cst (.str [46]),.cst (.str [63,63]),.cst (.str [42,42]),.cst (.str [60,60]),.cst (.str [38])],.call 47 [.var 0,.var 1,.cst (.int 6)]]),.ret (.pr .mkTup [.cst (.str [97,115,115,105,103,110,111,112]),.var 7,.var 4,.call 54 [.var 0,.var 1,.var 3]])] [],
 .ite (.pr .eq [.var 2,.cst (.int 4)]) [.assign 8 (.pr .getitem [.pr .mkFl [.cst (.str [43,43]),.cst (.str [45,45])],.call 47 [.var 0,.var 1,.cst (.int 2)]]),.ret (.pr .mkTup [.cst (.str [105,110,99,100,101,99]),.var 8,.pr .eq [.call 47 [.var 0,.var 1,.cst (.int 2)],.cst (.int 1)],.call 51 [.var 0,.var 1,.var 3]])] [],
 .assign 9 (.call 54 [.var 0,.var 1,.var 3]),
 .ite (.pr .eq [.var 2,.cst (.int 5)]) [.assign 10 (.pr .getitem [.pr .mkFl [.pr .mkTup [.cst (.str [110,97,109,101]),.cst (.str [65])],.pr .mkTup [.cst (.str [118,97,114]),.cst (.str [121])],.pr .mkTup [.cst (.str [110,97,109,101]),.cst (.str [115,101,108,102])]],.call 47 [.var 0,.var 1,.cst (.int 3)]]),.ret (.pr .mkTup [.cst (.str [105,110,115,116,97,110,99,101,111,102]),.var 9,.cond (.pr .gt [.call 47 [.var 0,.var 1,.cst (.int 3)],.cst (.int 0)]) (.var 10) (.call 54 [.var 0,.var 1,.var 3])])] [],
 .ite (.pr .eq [.var 2,.cst (.int 6)]) [.assign 11 (.pr .getitem [.pr .mkFl [.pr .mkTup [.cst (.str [108,105,116]),.cst (.str [112])],.pr .mkTup [.cst (.str [108,105,116]),.cst (.str [97,32,98])],.pr .mkTup [.cst (.str [118,97,114]),.cst (.str [110])]],.call 47 [.var 0,.var 1,.cst (.int 3)]]),.assign 12 (.call 47 [.var 0,.var 1,.cst (.int 4)]),.ite (.pr .eq [.var 12,.cst (.int 3)]) [.ret (.pr .mkTup [.cst (.str [109,99,97,108,108]),.var 9,.var 11,.call 53 [.var 0,.var 1,.var 3],.cst (.bool false)])] [],.ret (.cond (.pr .eq [.var 12,.cst (.int 2)]) (.pr .mkTup [.cst (.str [112,114,111,112]),.var 9,.var 11,.cst (.bool true)]) (.pr .mkTup [.cst (.str [100,105,109]),.var 9,.call 54 [.var 0,.var 1,.var 3]]))] [],
 .ite (.pr .eq [.var 2,.cst (.int 7)]) [.ret (.pr .mkTup [.cst (.str [99,97,108,108]),.cond (.pr .eq [.call 47 [.var 0,.var 1,.cst (.int 2)],.cst (.int 1)]) (.var 9) (.pr .mkTup [.cst (.str [110,97,109,101]),.cst (.str [102])]),.call 53 [.var 0,.var 1,.var 3]])] [],
 .ite (.pr .eq [.var 2,.cst (.int 8)]) [.assign 13 (.call 54 [.var 0,.var 1,.var 3]),.assign 14 (.pr .mkTup [.pr .mkTup [.cst (.none),.var 9,.cst (.bool false),.cst (.bool false)],.pr .mkTup [.var 13,.var 9,.cst (.bool false),.cst (.bool false)],.pr .mkTup [.cst (.none),.var 13,.cst (.bool false),.cst (.bool true)],.pr .mkTup [.var 9,.pr .mkTup [.cst (.str [118,97,114]),.cst (.str [120])],.cst (.bool true),.cst (.bool false)]]),.ret (.pr .mkTup [.cst (.str [97,114,114,97,121]),.pr .slice [.var 14,.call 47 [.var 0,.var 1,.cst (.int 3)],.pr .add [.cst (.int 1),.call 47 [.var 0,.var 1,.cst (.int 4)]]]])] [],
 .assign 13 (.call 51 [.var 0,.var 1,.var 3]),
 .ite (.pr .eq [.call 47 [.var 0,.var 1,.cst (.int 3)],.cst (.int 0)]) [.ret (.pr .mkTup [.cst (.str [109,97,116,99,104]),.var 9,.pr .slice [.pr .mkTup [.pr .mkTup [.pr .mkTup [.var 9,.var 13],.var 13],.pr .mkTup [.cst (.none),.var 9]],.cst (.none),.call 47 [.var 0,.var 1,.cst (.int 3)]]])] [],
 .ret (.cond (.pr .eq [.call 47 [.var 0,.var 1,.cst (.int 2)],.cst (.int 0)]) (.pr .mkTup [.cst (.str [101,109,112,116,121]),.var 9]) (.pr .mkTup [.cst (.str [105,115,115,101,116]),.pr .mkTup [.var 13,.pr .mkTup [.cst (.str [118,97,114]),.cst (.str [120])]]]))]
theorem Z4E:FT 55=some ⟨4,15,[],b55⟩:=by kernel_rfl
noncomputable def b56:List CS:=[.ret (.orr (.pr .eq [.var 0,.cst (.str [95])]) (.orr (.chain .le .le (.cst (.str [97])) (.var 0) (.cst (.str [122]))) (.chain .le .le (.cst (.str [65])) (.var 0) (.cst (.str [90])))))]
theorem ZiT:FT 56=some ⟨1,1,[],b56⟩:=by kernel_rfl
noncomputable def b57:List CS:=[.assign 2 (.cst (.str [])),
 .assign 1 (.pr .add [.var 1,.cst (.int 1)]),
 .while (.pr .ne [.pr .getitem [.var 0,.var 1],.cst (.str [39])]) [.ite (.andd (.pr .eq [.pr .getitem [.var 0,.var 1],.cst (.str [92])]) (.pr .inn [.pr .getitem [.var 0,.pr .add [.var 1,.cst (.int 1)]],.cst (.str [92,39])])) [.assign 1 (.pr .add [.var 1,.cst (.int 1)])] [],.assign 2 (.pr .add [.var 2,.pr .getitem [.var 0,.var 1]]),.assign 1 (.pr .add [.var 1,.cst (.int 1)])],
 .ret (.pr .mkTup [.pr .mkTup [.cst (.str [116,101,120,116]),.var 2],.pr .add [.var 1,.cst (.int 1)]])]
theorem ZiS:FT 57=some ⟨2,3,[],b57⟩:=by kernel_rfl
noncomputable def b58:List CS:=[.assign 2 (.var 1),
 .while (.andd (.pr .lt [.var 2,.pr .len [.var 0]]) (.orr (.call 56 [.pr .getitem [.var 0,.var 2]]) (.pr .inn [.pr .getitem [.var 0,.var 2],.cst (.str [48,49,50,51,52,53,54,55,56,57])]))) [.assign 2 (.pr .add [.var 2,.cst (.int 1)])],
 .ret (.var 2)]
theorem ZiR:FT 58=some ⟨2,3,[],b58⟩:=by kernel_rfl
noncomputable def b59:List CS:=[.for 2 (.pr .mkFl [.cst (.int 3),.cst (.int 2),.cst (.int 1)]) [.ite (.orr (.pr .eq [.var 2,.cst (.int 1)]) (.pr .inn [.pr .slice [.var 0,.var 1,.pr .add [.var 1,.var 2]],.pr .mkFl [.cst (.str [61,61,61]),.cst (.str [33,61,61]),.cst (.str [60,61,62]),.cst (.str [42,42,61]),.cst (.str [60,60,61]),.cst (.str [63,63,61]),.cst (.str [63,45,62]),.cst (.str [46,46,46]),.cst (.str [61,61]),.cst (.str [33,61]),.cst (.str [60,61]),.cst (.str [62,61]),.cst (.str [38,38]),.cst (.str [124,124]),.cst (.str [63,63]),.cst (.str [43,43]),.cst (.str [45,45]),.cst (.str [43,61]),.cst (.str [46,61]),.cst (.str [38,61]),.cst (.str [61,62]),.cst (.str [45,62]),.cst (.str [60,60]),.cst (.str [62,62]),.cst (.str [42,42])]])) [.ret (.pr .slice [.var 0,.var 1,.pr .add [.var 1,.var 2]])] []],
 .ret (.cst (.str []))]
theorem Zhf:FT 59=some ⟨2,3,[],b59⟩:=by kernel_rfl
noncomputable def b60:List CS:=[.assign 1 (.pr .mkList []),
 .assign 2 (.cst (.int 0)),
 .while (.pr .lt [.var 2,.pr .len [.var 0]]) [.assign 3 (.pr .getitem [.var 0,.var 2]),.assign 4 (.call 58 [.var 0,.pr .add [.var 2,.cst (.int 1)]]),.ite (.pr .eq [.var 3,.cst (.str [32])]) [.assign 2 (.pr .add [.var 2,.cst (.int 1)])] [.ite (.pr .eq [.pr .slice [.var 0,.var 2,.pr .add [.var 2,.cst (.int 4)]],.cst (.str [47,42,42,47])]) [.assign 2 (.pr .add [.var 2,.cst (.int 4)])] [.ite (.andd (.pr .eq [.var 3,.cst (.str [36])]) (.pr .gt [.var 4,.pr .add [.var 2,.cst (.int 1)]])) [.expr (.pr .append [.pr .islst [.var 1],.pr .mkTup [.cst (.str [118,97,114]),.pr .slice [.var 0,.pr .add [.var 2,.cst (.int 1)],.var 4]]]),.assign 2 (.var 4)] [.ite (.pr .eq [.var 3,.cst (.str [39])]) [.unpack [5,2] (.call 57 [.var 0,.var 2]),.expr (.pr .append [.pr .islst [.var 1],.var 5])] [.ite (.call 56 [.var 3]) [.expr (.pr .append [.pr .islst [.var 1],.pr .mkTup [.cst (.str [119,111,114,100]),.pr .slice [.var 0,.var 2,.var 4]]]),.assign 2 (.var 4)] [.ite (.pr .inn [.var 3,.cst (.str [48,49,50,51,52,53,54,55,56,57])]) [.expr (.pr .append [.pr .islst [.var 1],.pr .mkTup [.cst (.str [105,110,116]),.pr .slice [.var 0,.var 2,.var 4]]]),.assign 2 (.var 4)] [.ite (.andd (.pr .eq [.var 3,.cst (.str [40])]) (.andd (.pr .inn [.pr .lower [.pr .slice [.var 0,.pr .add [.var 2,.cst (.int 1)],.var 4]],.call 61 []]) (.pr .eq [.pr .slice [.var 0,.var 4,.pr .add [.var 4,.cst (.int 1)]],.cst (.str [41])]))) [.expr (.pr .append [.pr .islst [.var 1],.pr .mkTup [.cst (.str [99,97,115,116]),.pr .getitem [.call 61 [],.pr .lower [.pr .slice [.var 0,.pr .add [.var 2,.cst (.int 1)],.var 4]]]]]),.assign 2 (.pr .add [.var 4,.cst (.int 1)])] [.expr (.pr .append [.pr .islst [.var 1],.pr .mkTup [.cst (.str [111,112]),.call 59 [.var 0,.var 2]]]),.assign 2 (.pr .add [.var 2,.pr .len [.pr .getitem [.pr .getitem [.var 1,.cst (.int (-1))],.cst (.int 1)]]])]]]]]]]],
 .ret (.pr .add [.var 1,.pr .mkFl [.pr .mkTup [.cst (.str [101,110,100]),.cst (.str [])]]])]
theorem ZiQ:FT 60=some ⟨1,6,[],b60⟩:=by kernel_rfl
noncomputable def b61:List CS:=[.ret (.pr (.mkDict [[105,110,116],[105,110,116,101,103,101,114],[98,111,111,108],[98,111,111,108,101,97,110],[115,116,114,105,110,103],[98,105,110,97,114,121],[97,114,114,97,121],[111,98,106,101,99,116]]) [.cst (.str [105,110,116]),.cst (.str [105,110,116]),.cst (.str [98,111,111,108]),.cst (.str [98,111,111,108]),.cst (.str [115,116,114,105,110,103]),.cst (.str [115,116,114,105,110,103]),.cst (.str [97,114,114,97,121]),.cst (.str [111,98,106,101,99,116])])]
theorem ZiP:FT 61=some ⟨0,0,[],b61⟩:=by kernel_rfl
noncomputable def b62:List CS:=[.ret (.pr .getitem [.pr .getitem [.var 0,.cst (.int 0)],.pr .getitem [.var 0,.cst (.int 1)]])]
theorem ZiO:FT 62=some ⟨1,1,[],b62⟩:=by kernel_rfl
noncomputable def b63:List CS:=[.ite (.pr .eq [.call 62 [.var 0],.pr .mkTup [.cst (.str [111,112]),.var 1]]) [.setidx (.var 0) (.cst (.int 1)) (.pr .add [.pr .getitem [.var 0,.cst (.int 1)],.cst (.int 1)]),.ret (.cst (.bool true))] [],
 .ret (.cst (.bool false))]
theorem ZhU:FT 63=some ⟨2,2,[],b63⟩:=by kernel_rfl
noncomputable def b64:List CS:=[.setidx (.var 0) (.cst (.int 1)) (.pr .add [.pr .getitem [.var 0,.cst (.int 1)],.cst (.int 1)]),
 .ret (.pr .getitem [.pr .getitem [.var 0,.cst (.int 0)],.pr .sub [.pr .getitem [.var 0,.cst (.int 1)],.cst (.int 1)]])]
theorem ZiN:FT 64=some ⟨1,1,[],b64⟩:=by kernel_rfl
noncomputable def b65:List CS:=[.assign 1 (.pr (.mkDict [[120,111,114],[63],[63,63],[124,124],[38,38],[124],[94],[38],[61,61],[33,61],[61,61,61],[33,61,61],[60,61,62],[60],[60,61],[62],[62,61],[46],[60,60],[62,62],[43],[45],[42],[47],[37],[105,110,115,116,97,110,99,101,111,102],[42,42]]) [.cst (.int 2),.cst (.int 5),.cst (.int 6),.cst (.int 7),.cst (.int 8),.cst (.int 9),.cst (.int 10),.cst (.int 11),.cst (.int 12),.cst (.int 12),.cst (.int 12),.cst (.int 12),.cst (.int 12),.cst (.int 13),.cst (.int 13),.cst (.int 13),.cst (.int 13),.cst (.int 14),.cst (.int 15),.cst (.int 15),.cst (.int 16),.cst (.int 16),.cst (.int 17),.cst (.int 17),.cst (.int 17),.cst (.int 18),.cst (.int 20)]),
 .ret (.cond (.pr .inn [.pr .getitem [.var 0,.cst (.int 0)],.pr .mkFl [.cst (.str [111,112]),.cst (.str [119,111,114,100])]]) (.pr .dget [.pr .isdict [.var 1],.pr .getitem [.var 0,.cst (.int 1)],.cst (.int 0)]) (.cst (.int 0)))]
theorem ZhT:FT 65=some ⟨1,2,[],b65⟩:=by kernel_rfl
noncomputable def b66:List CS:=[.assign 2 (.call 67 [.var 0]),
 .while (.pr .ge [.call 65 [.call 62 [.var 0]],.pr .max [.var 1,.cst (.int 1)]]) [.assign 3 (.call 65 [.call 62 [.var 0]]),.assign 4 (.pr .getitem [.call 64 [.var 0],.cst (.int 1)]),.ite (.pr .eq [.var 4,.cst (.str [63])]) [.assign 5 (.cst (.none)),.ite (.pr .notb [.call 63 [.var 0,.cst (.str [58])]]) [.assign 5 (.call 66 [.var 0,.cst (.int 1)]),.expr (.call 63 [.var 0,.cst (.str [58])])] [],.assign 2 (.pr .mkTup [.cst (.str [105,102]),.var 2,.var 5,.call 66 [.var 0,.cst (.int 6)]])] [.ite (.pr .eq [.var 4,.cst (.str [105,110,115,116,97,110,99,101,111,102])]) [.assign 6 (.pr .eq [.pr .getitem [.call 62 [.var 0],.cst (.int 0)],.cst (.str [119,111,114,100])]),.assign 2 (.pr .mkTup [.cst (.str [105,110,115,116,97,110,99,101,111,102]),.var 2,.cond (.var 6) (.pr .mkTup [.cst (.str [110,97,109,101]),.pr .getitem [.call 64 [.var 0],.cst (.int 1)]]) (.call 74 [.var 0])])] [.assign 7 (.call 66 [.var 0,.cond (.pr .eq [.var 4,.cst (.str [42,42])]) (.cst (.int 19)) (.cond (.pr .eq [.var 4,.cst (.str [63,63])]) (.var 3) (.pr .add [.var 3,.cst (.int 1)]))]),.assign 8 (.pr (.mkDict [[38,38],[124,124],[63,63]]) [.cst (.str [97,110,100]),.cst (.str [111,114]),.cst (.str [99,111,97,108,101,115,99,101])]),.assign 2 (.cond (.pr .inn [.var 4,.var 8]) (.pr .mkTup [.pr .getitem [.var 8,.var 4],.var 2,.var 7]) (.pr .mkTup [.cst (.str [98,105,110]),.var 4,.var 2,.var 7]))]]],
 .ret (.var 2)]
theorem ZiM:FT 66=some ⟨2,9,[],b66⟩:=by kernel_rfl
noncomputable def b67:List CS:=[.unpack [1,2] (.call 62 [.var 0]),
 .ite (.pr .eq [.var 1,.cst (.str [99,97,115,116])]) [.setidx (.var 0) (.cst (.int 1)) (.pr .add [.pr .getitem [.var 0,.cst (.int 1)],.cst (.int 1)]),.ret (.pr .mkTup [.cst (.str [99,97,115,116]),.var 2,.call 66 [.var 0,.cst (.int 20)]])] [],
 .ite (.andd (.pr .eq [.var 1,.cst (.str [111,112])]) (.pr .inn [.var 2,.pr .mkFl [.cst (.str [43]),.cst (.str [45]),.cst (.str [126]),.cst (.str [33]),.cst (.str [64])]])) [.setidx (.var 0) (.cst (.int 1)) (.pr .add [.pr .getitem [.var 0,.cst (.int 1)],.cst (.int 1)]),.assign 3 (.call 66 [.var 0,.cond (.pr .eq [.var 2,.cst (.str [33])]) (.cst (.int 18)) (.cst (.int 20))]),.ret (.cond (.pr .eq [.var 2,.cst (.str [64])]) (.pr .mkTup [.cst (.str [115,105,108,101,110,99,101]),.var 3]) (.pr .mkTup [.cst (.str [117,110]),.var 2,.var 3]))] [],
 .assign 4 (.pr (.mkDict [[112,114,105,110,116],[116,104,114,111,119],[99,108,111,110,101]]) [.cst (.int 4),.cst (.int 1),.cst (.int 20)]),
 .ite (.andd (.pr .eq [.var 1,.cst (.str [119,111,114,100])]) (.pr .inn [.var 2,.var 4])) [.setidx (.var 0) (.cst (.int 1)) (.pr .add [.pr .getitem [.var 0,.cst (.int 1)],.cst (.int 1)]),.ret (.pr .mkTup [.var 2,.call 66 [.var 0,.pr .getitem [.var 4,.var 2]]])] [],
 .ite (.pr .eq [.pr .mkTup [.var 1,.var 2],.pr .mkTup [.cst (.str [119,111,114,100]),.cst (.str [121,105,101,108,100])]]) [.setidx (.var 0) (.cst (.int 1)) (.pr .add [.pr .getitem [.var 0,.cst (.int 1)],.cst (.int 1)]),.ret (.call 68 [.var 0])] [],
 .assign 3 (.call 74 [.var 0]),
 .unpack [1,2] (.call 62 [.var 0]),
 .ite (.andd (.pr .eq [.var 1,.cst (.str [111,112])]) (.pr .inn [.var 2,.pr .mkFl [.cst (.str [61]),.cst (.str [43,61]),.cst (.str [46,61]),.cst (.str [63,63,61]),.cst (.str [42,42,61]),.cst (.str [60,60,61]),.cst (.str [38,61])]])) [.setidx (.var 0) (.cst (.int 1)) (.pr .add [.pr .getitem [.var 0,.cst (.int 1)],.cst (.int 1)]),.ite (.andd (.pr .eq [.var 2,.cst (.str [61])]) (.call 63 [.var 0,.cst (.str [38])])) [.ret (.pr .mkTup [.cst (.str [97,115,115,105,103,110,114,101,102]),.var 3,.call 74 [.var 0]])] [],.ite (.pr .ne [.var 2,.cst (.str [61])]) [.ret (.pr .mkTup [.cst (.str [97,115,115,105,103,110,111,112]),.pr .slice [.var 2,.cst (.none),.cst (.int (-1))],.var 3,.call 66 [.var 0,.cst (.int 4)]])] [],.ret (.pr .mkTup [.cst (.str [97,115,115,105,103,110]),.cond (.pr .eq [.pr .getitem [.var 3,.cst (.int 0)],.cst (.str [97,114,114,97,121])]) (.call 69 [.var 3]) (.var 3),.call 66 [.var 0,.cst (.int 4)]])] [],
 .ret (.var 3)]
theorem Z6V:FT 67=some ⟨1,5,[],b67⟩:=by kernel_rfl
noncomputable def b68:List CS:=[.ite (.pr .eq [.call 62 [.var 0],.pr .mkTup [.cst (.str [119,111,114,100]),.cst (.str [102,114,111,109])]]) [.setidx (.var 0) (.cst (.int 1)) (.pr .add [.pr .getitem [.var 0,.cst (.int 1)],.cst (.int 1)]),.ret (.pr .mkTup [.cst (.str [121,105,101,108,100,102,114,111,109]),.call 66 [.var 0,.cst (.int 4)]])] [],
 .ite (.andd (.pr .inn [.pr .getitem [.call 62 [.var 0],.cst (.int 1)],.pr .mkFl [.cst (.str []),.cst (.str [41]),.cst (.str [44]),.cst (.str [93]),.cst (.str [125])]]) (.pr .inn [.pr .getitem [.call 62 [.var 0],.cst (.int 0)],.pr .mkFl [.cst (.str [111,112]),.cst (.str [101,110,100])]])) [.ret (.pr .mkTup [.cst (.str [121,105,101,108,100]),.cst (.none),.cst (.none)])] [],
 .assign 1 (.call 66 [.var 0,.cst (.int 4)]),
 .ret (.cond (.call 63 [.var 0,.cst (.str [61,62])]) (.pr .mkTup [.cst (.str [121,105,101,108,100]),.var 1,.call 66 [.var 0,.cst (.int 4)]]) (.pr .mkTup [.cst (.str [121,105,101,108,100]),.cst (.none),.var 1]))]
theorem Zal:FT 68=some ⟨1,2,[],b68⟩:=by kernel_rfl
noncomputable def b69:List CS:=[.assign 1 (.pr .mkList []),
 .for 2 (.pr .getitem [.var 0,.cst (.int 1)]) [.ite (.pr .isNone [.var 2]) [.expr (.pr .append [.pr .islst [.var 1],.cst (.none)])] [.expr (.pr .append [.pr .islst [.var 1],.pr .mkTup [.pr .getitem [.var 2,.cst (.int 0)],.cond (.pr .eq [.pr .getitem [.pr .getitem [.var 2,.cst (.int 1)],.cst (.int 0)],.cst (.str [97,114,114,97,121])]) (.call 69 [.pr .getitem [.var 2,.cst (.int 1)]]) (.pr .getitem [.var 2,.cst (.int 1)]),.pr .getitem [.var 2,.cst (.int 2)]]])]],
 .ret (.pr .mkTup [.cst (.str [108,105,115,116]),.pr .tuple [.var 1]])]
theorem ZiL:FT 69=some ⟨1,3,[],b69⟩:=by kernel_rfl
noncomputable def b70:List CS:=[.assign 1 (.pr .mkList []),
 .while (.pr .notb [.call 63 [.var 0,.cst (.str [93])]]) [.ite (.call 63 [.var 0,.cst (.str [44])]) [.expr (.pr .append [.pr .islst [.var 1],.cst (.none)])] [.ite (.call 63 [.var 0,.cst (.str [46,46,46])]) [.expr (.pr .append [.pr .islst [.var 1],.pr .mkTup [.cst (.none),.call 66 [.var 0,.cst (.int 1)],.cst (.bool false),.cst (.bool true)]])] [.assign 2 (.call 63 [.var 0,.cst (.str [38])]),.unpack [3,4] (.pr .mkTup [.cst (.none),.call 66 [.var 0,.cst (.int 1)]]),.ite (.call 63 [.var 0,.cst (.str [61,62])]) [.assign 2 (.call 63 [.var 0,.cst (.str [38])]),.unpack [3,4] (.pr .mkTup [.var 4,.call 66 [.var 0,.cst (.int 1)]])] [],.expr (.pr .append [.pr .islst [.var 1],.pr .mkTup [.var 3,.var 4,.var 2,.cst (.bool false)]])]],.ite (.andd (.pr .notNone [.pr .getitem [.var 1,.cst (.int (-1))]]) (.pr .ne [.call 62 [.var 0],.pr .mkTup [.cst (.str [111,112]),.cst (.str [93])]])) [.expr (.call 63 [.var 0,.cst (.str [44])])] []],
 .ret (.pr .mkTup [.cst (.str [97,114,114,97,121]),.pr .tuple [.var 1]])]
theorem ZiK:FT 70=some ⟨1,5,[],b70⟩:=by kernel_rfl
noncomputable def b71:List CS:=[.assign 1 (.pr .mkList []),
 .while (.pr .notb [.call 63 [.var 0,.cst (.str [41])]]) [.assign 2 (.call 63 [.var 0,.cst (.str [46,46,46])]),.assign 3 (.cst (.none)),.ite (.andd (.pr .eq [.pr .getitem [.call 62 [.var 0],.cst (.int 0)],.cst (.str [119,111,114,100])]) (.pr .eq [.pr .getitem [.pr .getitem [.var 0,.cst (.int 0)],.pr .add [.pr .getitem [.var 0,.cst (.int 1)],.cst (.int 1)]],.pr .mkTup [.cst (.str [111,112]),.cst (.str [58])]])) [.assign 3 (.pr .getitem [.call 64 [.var 0],.cst (.int 1)]),.setidx (.var 0) (.cst (.int 1)) (.pr .add [.pr .getitem [.var 0,.cst (.int 1)],.cst (.int 1)])] [],.expr (.pr .append [.pr .islst [.var 1],.pr .mkTup [.call 66 [.var 0,.cst (.int 1)],.var 2,.var 3]]),.expr (.call 63 [.var 0,.cst (.str [44])])],
 .ret (.pr .tuple [.var 1])]
theorem ZiJ:FT 71=some ⟨1,4,[],b71⟩:=by kernel_rfl
noncomputable def b72:List CS:=[.setidx (.var 0) (.cst (.int 1)) (.pr .add [.pr .getitem [.var 0,.cst (.int 1)],.cst (.int 1)]),
 .assign 1 (.call 66 [.var 0,.cst (.int 1)]),
 .setidx (.var 0) (.cst (.int 1)) (.pr .add [.pr .getitem [.var 0,.cst (.int 1)],.cst (.int 2)]),
 .assign 2 (.pr .mkList []),
 .while (.pr .notb [.call 63 [.var 0,.cst (.str [125])]]) [.assign 3 (.pr .mkList []),.ite (.pr .eq [.call 62 [.var 0],.pr .mkTup [.cst (.str [119,111,114,100]),.cst (.str [100,101,102,97,117,108,116])]]) [.setidx (.var 0) (.cst (.int 1)) (.pr .add [.pr .getitem [.var 0,.cst (.int 1)],.cst (.int 1)])] [],.while (.pr .notb [.call 63 [.var 0,.cst (.str [61,62])]]) [.expr (.pr .append [.pr .islst [.var 3],.call 66 [.var 0,.cst (.int 1)]]),.expr (.call 63 [.var 0,.cst (.str [44])])],.expr (.pr .append [.pr .islst [.var 2],.pr .mkTup [.cond (.pr .eq [.var 3,.pr .mkFl []]) (.cst (.none)) (.pr .tuple [.var 3]),.call 66 [.var 0,.cst (.int 1)]]]),.expr (.call 63 [.var 0,.cst (.str [44])])],
 .ret (.pr .mkTup [.cst (.str [109,97,116,99,104]),.var 1,.pr .tuple [.var 2]])]
theorem ZiI:FT 72=some ⟨1,4,[],b72⟩:=by kernel_rfl
noncomputable def b73:List CS:=[.unpack [1,2] (.call 64 [.var 0]),
 .ite (.pr .eq [.var 1,.cst (.str [118,97,114])]) [.ret (.pr .mkTup [.cst (.str [118,97,114]),.var 2])] [],
 .ite (.pr .eq [.var 1,.cst (.str [116,101,120,116])]) [.ret (.pr .mkTup [.cst (.str [108,105,116]),.var 2])] [],
 .ite (.pr .eq [.var 1,.cst (.str [105,110,116])]) [.assign 3 (.cst (.int 0)),.for 4 (.var 2) [.assign 3 (.pr .add [.pr .mul [.cst (.int 10),.var 3],.pr .index [.cst (.str [48,49,50,51,52,53,54,55,56,57]),.var 4]])],.ret (.pr .mkTup [.cst (.str [108,105,116]),.var 3])] [],
 .ite (.pr .eq [.var 2,.cst (.str [40])]) [.assign 5 (.call 66 [.var 0,.cst (.int 1)]),.setidx (.var 0) (.cst (.int 1)) (.pr .add [.pr .getitem [.var 0,.cst (.int 1)],.cst (.int 1)]),.ret (.var 5)] [],
 .ite (.pr .eq [.var 2,.cst (.str [91])]) [.ret (.call 70 [.var 0])] [],
 .ite (.pr .inn [.var 2,.pr .mkFl [.cst (.str [110,117,108,108]),.cst (.str [116,114,117,101]),.cst (.str [102,97,108,115,101])]]) [.ret (.pr .mkTup [.cst (.str [108,105,116]),.pr .getitem [.pr (.mkDict [[110,117,108,108],[116,114,117,101],[102,97,108,115,101]]) [.cst (.none),.cst (.bool true),.cst (.bool false)],.var 2]])] [],
 .ite (.pr .eq [.var 2,.cst (.str [109,97,116,99,104])]) [.ret (.call 72 [.var 0])] [],
 .ite (.pr .inn [.var 2,.pr .mkFl [.cst (.str [105,115,115,101,116]),.cst (.str [101,109,112,116,121])]]) [.setidx (.var 0) (.cst (.int 1)) (.pr .add [.pr .getitem [.var 0,.cst (.int 1)],.cst (.int 1)]),.assign 6 (.pr .tuple [.comp 7 (.pr .getitem [.var 7,.cst (.int 0)]) (.call 71 [.var 0])]),.ret (.cond (.pr .eq [.var 2,.cst (.str [105,115,115,101,116])]) (.pr .mkTup [.cst (.str [105,115,115,101,116]),.var 6]) (.pr .mkTup [.cst (.str [101,109,112,116,121]),.pr .getitem [.var 6,.cst (.int 0)]]))] [],
 .ite (.call 63 [.var 0,.cst (.str [40])]) [.ret (.pr .mkTup [.cst (.str [99,97,108,108]),.pr .mkTup [.cst (.str [110,97,109,101]),.var 2],.call 71 [.var 0]])] [],
 .ret (.pr .mkTup [.cst (.str [99,111,110,115,116]),.var 2])]
theorem Z6U:FT 73=some ⟨1,8,[],b73⟩:=by kernel_rfl
noncomputable def b74:List CS:=[.ite (.andd (.pr .inn [.pr .getitem [.call 62 [.var 0],.cst (.int 1)],.pr .mkFl [.cst (.str [43,43]),.cst (.str [45,45])]]) (.pr .eq [.pr .getitem [.call 62 [.var 0],.cst (.int 0)],.cst (.str [111,112])])) [.assign 1 (.pr .getitem [.call 64 [.var 0],.cst (.int 1)]),.ret (.pr .mkTup [.cst (.str [105,110,99,100,101,99]),.var 1,.cst (.bool true),.call 74 [.var 0]])] [],
 .assign 2 (.call 73 [.var 0]),
 .while (.cst (.bool true)) [.ite (.call 63 [.var 0,.cst (.str [91])]) [.assign 3 (.cond (.call 63 [.var 0,.cst (.str [93])]) (.cst (.none)) (.call 66 [.var 0,.cst (.int 1)])),.setidx (.var 0) (.cst (.int 1)) (.pr .add [.pr .getitem [.var 0,.cst (.int 1)],.cond (.pr .isNone [.var 3]) (.cst (.int 0)) (.cst (.int 1))]),.assign 2 (.pr .mkTup [.cst (.str [100,105,109]),.var 2,.var 3])] [.ite (.pr .inn [.call 62 [.var 0],.pr .mkFl [.pr .mkTup [.cst (.str [111,112]),.cst (.str [45,62])],.pr .mkTup [.cst (.str [111,112]),.cst (.str [63,45,62])]]]) [.assign 4 (.pr .eq [.pr .getitem [.call 64 [.var 0],.cst (.int 1)],.cst (.str [63,45,62])]),.unpack [5,6] (.call 64 [.var 0]),.assign 7 (.cond (.pr .eq [.var 5,.cst (.str [119,111,114,100])]) (.pr .mkTup [.cst (.str [108,105,116]),.var 6]) (.pr .mkTup [.cst (.str [118,97,114]),.var 6])),.ite (.pr .eq [.var 5,.cst (.str [111,112])]) [.assign 7 (.call 66 [.var 0,.cst (.int 1)]),.setidx (.var 0) (.cst (.int 1)) (.pr .add [.pr .getitem [.var 0,.cst (.int 1)],.cst (.int 1)])] [],.assign 2 (.pr .mkTup [.cst (.str [112,114,111,112]),.var 2,.var 7,.var 4]),.ite (.call 63 [.var 0,.cst (.str [40])]) [.assign 2 (.pr .mkTup [.cst (.str [109,99,97,108,108]),.pr .getitem [.var 2,.cst (.int 1)],.var 7,.call 71 [.var 0],.var 4])] []] [.ite (.call 63 [.var 0,.cst (.str [40])]) [.assign 2 (.pr .mkTup [.cst (.str [99,97,108,108]),.var 2,.call 71 [.var 0]])] [.ite (.pr .inn [.call 62 [.var 0],.pr .mkFl [.pr .mkTup [.cst (.str [111,112]),.cst (.str [43,43])],.pr .mkTup [.cst (.str [111,112]),.cst (.str [45,45])]]]) [.ret (.pr .mkTup [.cst (.str [105,110,99,100,101,99]),.pr .getitem [.call 64 [.var 0],.cst (.int 1)],.cst (.bool false),.var 2])] [.ret (.var 2)]]]]]]
theorem ZhS:FT 74=some ⟨1,8,[],b74⟩:=by kernel_rfl
noncomputable def b75:List CS:=[.assign 0 (.pr .slice [.var 0,.cst (.none),.cst (.int 63)]),
 .assign 1 (.pr .mkList [.cst (.int 0)]),
 .assign 2 (.pr .add [.call 48 [],.comp 5 (.call 54 [.var 0,.var 1,.cond (.pr .eq [.var 5,.cst (.int 4)]) (.cst (.int 3)) (.cst (.int 2))]) (.pr .range [.cst (.int 5)])]),
 .for 3 (.var 2) [.assign 4 (.pr .mkList [.call 60 [.call 45 [.var 3]],.cst (.int 0)]),.ite (.orr (.pr .ne [.pr .repr [.call 66 [.var 4,.cst (.int 1)]],.pr .repr [.var 3]]) (.pr .ne [.pr .getitem [.call 62 [.var 4],.cst (.int 0)],.cst (.str [101,110,100])])) [.ret (.cst (.bool false))] []],
 .ret (.cst (.bool true))]
theorem ZiH:FT 75=some ⟨1,6,[],b75⟩:=by kernel_rfl
end Mine
namespace Mine
set_option genCtorIdx false in
inductive Pc where
 |sp
 |cmt
 |op (s:List Nat)
 |word (s:List Nat)
 |var (s:List Nat)
 |int (s:List Nat)
 |text (s:List Nat)
 |cast (s:List Nat)
noncomputable def Zdm (c:Nat):List Nat:=if c=92 then [92,92] else if c=39 then [92,39] else [c]
noncomputable def esc (s:List Nat):List Nat:=s.flatMap Zdm
noncomputable def Pc.sp1:Pc→List Nat
 | .sp=>[32]
 | .cmt=>[47,42,42,47]
 | .op s=>s
 | .word s=>s
 | .var s=>36::s
 | .int s=>s
 | .text s=>39::(esc s++[39])
 | .cast s=>40::(s++[41])
noncomputable def spell (ps:List Pc):List Nat:=ps.flatMap Pc.sp1
noncomputable abbrev tk (k s:List Nat):MV:=.tup [.str k,.str s]
noncomputable def Pc.tk1:Pc→Option MV
 | .sp=>Option.none
 | .cmt=>Option.none
 | .op s=>some (tk [111,112] s)
 | .word s=>some (tk [119,111,114,100] s)
 | .var s=>some (tk [118,97,114] s)
 | .int s=>some (tk [105,110,116] s)
 | .text s=>some (tk [116,101,120,116] s)
 | .cast s=>some (tk [99,97,115,116] s)
noncomputable def toks (ps:List Pc):List MV:=ps.filterMap Pc.tk1
theorem Z0 (a b:List Pc):spell (a++b)=spell a++spell b:=List.flatMap_append
theorem Z8 (a:Pc) (b:List Pc):spell (a::b)=a.sp1++spell b:=rfl
theorem ZW:spell []=[]:=rfl
theorem Z1 (a b:List Pc):toks (a++b)=toks a++toks b:=List.filterMap_append
noncomputable def Zm (p:List Pc):List Pc:=.op [40]::(p++[.op [41]])
noncomputable def Z2l (p:List Pc):List Pc:=.op [123]::(p++[.op [125]])
noncomputable abbrev Z0c:=MV→Nat→List Pc→Prop
noncomputable def Par (R:Z0c) (a:MV) (above:Nat) (p:List Pc):Prop:=∃L q,R a L q∧p=if L<above then Zm q else q
noncomputable def tagOf:MV→List Nat
 | .tup (.str t::_)=>t
 |_=>[]
noncomputable def Z01 (a:MV):Bool:=[[118,97,114],[100,105,109],[112,114,111,112],[99,97,108,108],[109,99,97,108,108]].contains (tagOf a)
noncomputable def Z1E (R:Z0c) (a:MV) (p:List Pc):Prop:=∃L q,R a L q∧p=if Z01 a then q else Zm q
noncomputable def Z56 (a:MV):Bool:=[[118,97,114],[100,105,109],[112,114,111,112]].contains (tagOf a)
noncomputable def Z0z (R:Z0c) (a:MV) (p:List Pc):Prop:=Z56 a=true∧∃L,R a L p
noncomputable def headIs (o:List Nat) (p:List Pc):Bool:=(spell p).take 1==o
noncomputable def Z29 (o:List Nat) (p:List Pc):List Pc:=.op o::(if headIs o p then .sp::p else p)
noncomputable def isNs (c:Nat):Bool:=c==95||(decide (97≤c)&&decide (c≤122))||(decide (65≤c)&&decide (c≤90))||decide (128≤c)
noncomputable def isNm (c:Nat):Bool:=isNs c||(decide (48≤c)&&decide (c≤57))
noncomputable def runLen (f:Nat→Bool) (s:List Nat):Nat:=(s.takeWhile f).length
noncomputable def fromT (t:List Nat):Bool:=[102,114,111,109].isPrefixOf (lowerL t)&&runLen isNm t==4
noncomputable def Z1k (p:List Pc):List Pc:=if fromT (spell p) then Zm p else p
noncomputable def Z2:List (List Pc)→List Pc
 |[]=>[]
 |[a]=>a
 |a::b::r=>a++[.op [44],.sp]++Z2 (b::r)
noncomputable def opTab:List (List Nat×Nat×Nat×Nat×Nat):=
 [([120,111,114],2,2,3,3),([124],9,9,10,10),([94],10,10,11,11),([38],11,11,12,12),([61,61],12,13,13,13),([33,61],12,13,13,13),([61,61,61],12,13,13,13),([33,61,61],12,13,13,13),([60,61,62],12,13,13,13),
  ([60],13,14,14,14),([60,61],13,14,14,14),([62],13,14,14,14),([62,61],13,14,14,14),([46],14,14,15,15),([60,60],15,15,16,16),([62,62],15,15,16,16),([43],16,16,17,17),([45],16,16,17,17),([42],17,17,18,18),([47],17,17,18,18),([37],17,17,18,18),([42,42],20,21,19,19)]
noncomputable def Z8d (o:List Nat):Pc:=if o=[120,111,114] then .word o else .op o
noncomputable def lgTab:List (List Nat×List Nat×Nat×Nat×Nat×Nat):=[([97,110,100],[38,38],8,8,9,9),([111,114],[124,124],7,7,8,8),([99,111,97,108,101,115,99,101],[63,63],6,7,6,6)]
noncomputable def preTab:List (List Nat×Nat):=[([112,114,105,110,116],4),([99,108,111,110,101],20),([116,104,114,111,119],1)]
theorem ZfZ {α:Type} {P:α→Prop} {a b x:α} (h:x∈[a,b]) (h1:P a) (h2:P b):P x:=List.forall_mem_cons.2 ⟨h1,List.forall_mem_cons.2 ⟨h2,fun _ h=>absurd h List.not_mem_nil⟩⟩ x h
theorem Zak {α:Type} {P:α→Prop} {a b c x:α} (h:x∈[a,b,c]) (h1:P a) (h2:P b) (h3:P c):P x:=List.forall_mem_cons.2 ⟨h1,fun _ h=>ZfZ h h2 h3⟩ x h
theorem Ziw {α:Type} {P:α→Prop} {a b c d x:α} (h:x∈[a,b,c,d]) (h1:P a) (h2:P b) (h3:P c) (h4:P d):P x:=List.forall_mem_cons.2 ⟨h1,fun _ h=>Zak h h2 h3 h4⟩ x h
noncomputable def Zi4 (n:Int):List Nat:=ZbC n
noncomputable def litTab1:List (MV×Pc):=[(.int 0,.int [48]),(.int 1,.int [49]),(.int 9223372036854775807,.int [57,50,50,51,51,55,50,48,51,54,56,53,52,55,55,53,56,48,55])]
noncomputable def litTab2:List (MV×Pc):=[(.none,.word [110,117,108,108]),(.bool true,.word [116,114,117,101]),(.bool false,.word [102,97,108,115,101])]
noncomputable def txtTab:List (List Nat):=[[],[97],[39],[92],[92,39],[36,120,10],[45,45],[105,116,39,115,32,92,32,39,113,39,92],[107],[97,32,98]]
noncomputable def litTab:List (MV×Pc):=litTab1++(litTab2++txtTab.map fun s=>(MV.str s,Pc.text s))
noncomputable def cst1:List (List Nat):=[[75],[102,114,111,109],[102,114,111,109,97,103,101]]
noncomputable def cst2:List (List Nat):=[[105,110,116],[83,116,114,105,110,103],[111,98,106,101,99,116],[73,78,84]]
noncomputable def cstTab:List (List Nat×List Pc):=cst1.map (fun n=>(n,[.word n]))++cst2.map (fun n=>(n,[.word n,.cmt]))
theorem Z54 {P:MV×Pc→Prop} (h1:∀x∈litTab1,P x) (h2:∀x∈litTab2,P x) (h3:∀s∈txtTab,P (.str s,.text s)) {x} (h:x∈litTab):P x:=
 (List.mem_append.1 h).elim (h1 x) fun h=>(List.mem_append.1 h).elim (h2 x) fun h=>let ⟨s,hs,e⟩:=List.mem_map.1 h;e▸h3 s hs
theorem Z6Z {P:List Nat×List Pc→Prop} (h1:∀n∈cst1,P (n,[.word n])) (h2:∀n∈cst2,P (n,[.word n,.cmt])) {x} (h:x∈cstTab):P x:=
 (List.mem_append.1 h).elim (fun h=>let ⟨s,hs,e⟩:=List.mem_map.1 h;e▸h1 s hs) fun h=>let ⟨s,hs,e⟩:=List.mem_map.1 h;e▸h2 s hs
noncomputable def castTab:List (List Nat):=[[105,110,116],[115,116,114,105,110,103],[98,111,111,108],[97,114,114,97,121],[111,98,106,101,99,116]]
noncomputable def varTab:List (List Nat):=[[120],[121],[122],[110]]
noncomputable def memNames:List (List Nat):=[[112],[113],[102]]
noncomputable def clsTab:List (MV×List Pc):=[(.tup [.str [110,97,109,101],.str [65]],[.word [65]]),(.tup [.str [110,97,109,101],.str [115,101,108,102]],[.word [115,101,108,102]])]
noncomputable def aopTab:List (List Nat):=[[43],[46],[63,63],[42,42],[60,60],[38]]
inductive Args (R:Z0c):List MV→List (List Pc)→Prop
 |nil:Args R [] []
 |val {v L p r ps}:R v L p→Args R r ps→Args R (.tup [v,.bool false,.none]::r) (p::ps)
 |spread {v L p r ps}:R v L p→Args R r ps→Args R (.tup [v,.bool true,.none]::r) ((.op [46,46,46]::p)::ps)
 |named {v L p r ps}:R v L p→Args R r ps→Args R (.tup [v,.bool false,.str [110,97,109,101]]::r) ((.word [110,97,109,101]:: .op [58]:: .sp::p)::ps)
inductive Items (R:Z0c):List MV→List (List Pc)→Prop
 |nil:Items R [] []
 |val {v L p r ps}:R v L p→Items R r ps→Items R (.tup [.none,v,.bool false,.bool false]::r) (p::ps)
 |key {k v pk L p r ps}:Par R k 5 pk→R v L p→Items R r ps→Items R (.tup [k,v,.bool false,.bool false]::r) ((pk++[.sp,.op [61,62],.sp]++p)::ps)
 |keyref {k v pk L p r ps}:Par R k 5 pk→R v L p→Items R r ps→Items R (.tup [k,v,.bool true,.bool false]::r) ((pk++[.sp,.op [61,62],.sp,.op [38]]++p)::ps)
 |spread {v L p r ps}:R v L p→Items R r ps→Items R (.tup [.none,v,.bool false,.bool true]::r) ((.op [46,46,46]::p)::ps)
inductive Pats (R:Z0c) (G:MV→List Pc→Prop):List MV→List (List Pc)→Prop
 |nil:Pats R G [] []
 |gap {r ps}:Pats R G r ps→Pats R G (.none::r) ([]::ps)
 |val {v p r ps}:G v p→Pats R G r ps→Pats R G (.tup [.none,v,.bool false]::r) (p::ps)
 |ref {v p r ps}:G v p→Pats R G r ps→Pats R G (.tup [.none,v,.bool true]::r) ((.op [38]::p)::ps)
 |key {k v pk p r ps}:Par R k 5 pk→G v p→Pats R G r ps→Pats R G (.tup [k,v,.bool false]::r) ((pk++[.sp,.op [61,62],.sp]++p)::ps)
 |keyref {k v pk p r ps}:Par R k 5 pk→G v p→Pats R G r ps→Pats R G (.tup [k,v,.bool true]::r) ((pk++[.sp,.op [61,62],.sp,.op [38]]++p)::ps)
noncomputable def lastNone (l:List MV):Bool:=match l.getLast? with
 |some .none=>true
 |_=>false
noncomputable def Z76 (R:Z0c) (G:MV→List Pc→Prop) (v:MV) (p:List Pc):Prop:=
 ∃items ps,v=.tup [.str [108,105,115,116],.tup items]∧Pats R G items ps∧items≠[]∧p=.op [91]::(Z2 ps++(if lastNone items then [.op [44]] else [])++[.op [93]])
noncomputable def Sm (p:List Pc):Prop:=(spell p).length≤1000000∧Ze (spell p)=true
noncomputable def ZdL (R:Z0c):=Z76 R (Z0z R)
noncomputable def Zca (R:Z0c):=Z76 R fun v p=>Z0z R v p∨(ZdL R v p∧Sm p)
inductive Tests (R:Z0c):List MV→List (List Pc)→Prop
 |one {v p}:Par R v 5 p→Tests R [v] [p]
 |cons {v p r ps}:Par R v 5 p→Tests R r ps→Tests R (v::r) (p::ps)
inductive Arms (R:Z0c):List MV→List (List Pc)→Prop
 |nil:Arms R [] []
 |arm {ts tp v L p r ps}:Tests R ts tp→R v L p→Arms R r ps→Arms R (.tup [.tup ts,v]::r) ((Z2 tp++[.sp,.op [61,62],.sp]++p)::ps)
 |dflt {v L p r ps}:R v L p→Arms R r ps→Arms R (.tup [.none,v]::r) ((.word [100,101,102,97,117,108,116]:: .sp:: .op [61,62]:: .sp::p)::ps)
inductive Raws (R:Z0c):List MV→List (List Pc)→Prop
 |nil:Raws R [] []
 |cons {v L p r ps}:R v L p→Raws R r ps→Raws R (v::r) (p::ps)
inductive Member (R:Z0c):MV→List Pc→Prop
 |plain {n}:n∈memNames→Member R (.tup [.str [108,105,116],.str n]) [.word n]
 |text {n}:n∈txtTab→n=[97,32,98]→R (.tup [.str [108,105,116],.str n]) 21 [.text n]→Member R (.tup [.str [108,105,116],.str n]) (Z2l [.text n])
 |var {n}:n∈varTab→R (.tup [.str [118,97,114],.str n]) 21 [.var n]→Member R (.tup [.str [118,97,114],.str n]) [.var n]
noncomputable def arrow (ns:Bool):Pc:=.op (if ns then [63,45,62] else [45,62])
noncomputable def argText (ps:List (List Pc)):List Pc:=Zm (Z2 ps)
inductive Node (R:Z0c):Z0c
 |var {n}:n∈varTab→Node R (.tup [.str [118,97,114],.str n]) 21 [.var n]
 |lit {v p}:(v,p)∈litTab→Node R (.tup [.str [108,105,116],v]) 21 [p]
 |cst {n p}:(n,p)∈cstTab→Node R (.tup [.str [99,111,110,115,116],.str n]) 21 p
 |un {o a p}:o∈[[43],[45],[126]]→Par R a 19 p→Node R (.tup [.str [117,110],.str o,a]) 19 (Z29 o p)
 |not {a p}:Par R a 18 p→Node R (.tup [.str [117,110],.str [33],a]) 18 (Z29 [33] p)
 |cast {t a p}:t∈castTab→Par R a 19 p→Node R (.tup [.str [99,97,115,116],.str t,a]) 19 (.cast t::p)
 |sil {a p}:Par R a 19 p→Node R (.tup [.str [115,105,108,101,110,99,101],a]) 19 (.op [64]::p)
 |pre {w l a p}:(w,l)∈preTab→Par R a l p→Node R (.tup [.str w,a]) l (.word w:: .sp::p)
 |yfrom {a p}:Par R a 4 p→Node R (.tup [.str [121,105,101,108,100,102,114,111,109],a]) 4 (.word [121,105,101,108,100]:: .sp:: .word [102,114,111,109]:: .sp::p)
 |yld0:Node R (.tup [.str [121,105,101,108,100],.none,.none]) 0 [.word [121,105,101,108,100]]
 |yld {a p}:Par R a 4 p→Node R (.tup [.str [121,105,101,108,100],.none,a]) 4 (.word [121,105,101,108,100]:: .sp::Z1k p)
 |yldk {k a pk p}:Par R k 5 pk→Par R a 4 p→Node R (.tup [.str [121,105,101,108,100],k,a]) 4 (.word [121,105,101,108,100]:: .sp::(Z1k pk++[.sp,.op [61,62],.sp]++p))
 |bin {o l la lb m a b pa pb}:(o,l,la,lb,m)∈opTab→Par R a la pa→Par R b lb pb→Node R (.tup [.str [98,105,110],.str o,a,b]) l (pa++[.sp,Z8d o,.sp]++pb)
 |lg {t o l la lb m a b pa pb}:(t,o,l,la,lb,m)∈lgTab→Par R a la pa→Par R b lb pb→Node R (.tup [.str t,a,b]) l (pa++[.sp,.op o,.sp]++pb)
 |elvis {c e pc pe}:Par R c 6 pc→Par R e 6 pe→Node R (.tup [.str [105,102],c,.none,e]) 5 (pc++[.sp,.op [63],.op [58],.sp]++pe)
 |tern {c m e pc pm pe}:Par R c 6 pc→Par R m 6 pm→Par R e 6 pe→Node R (.tup [.str [105,102],c,m,e]) 5 (pc++[.sp,.op [63],.sp]++pm++[.sp,.op [58],.sp]++pe)
 |asg {t a pt p}:Z0z R t pt→Par R a 4 p→Node R (.tup [.str [97,115,115,105,103,110],t,a]) 4 (pt++[.sp,.op [61],.sp]++p)
 |asgl {t a pt p}:Zca R t pt→Par R a 4 p→Node R (.tup [.str [97,115,115,105,103,110],t,a]) 4 (pt++[.sp,.op [61],.sp]++p)
 |aref {t a pt L p}:Z0z R t pt→Z01 a=true→R a L p→Node R (.tup [.str [97,115,115,105,103,110,114,101,102],t,a]) 4 (pt++[.sp,.op [61],.sp,.op [38]]++p)
 |aop {o t a pt p}:o∈aopTab→Z0z R t pt→Par R a 4 p→Node R (.tup [.str [97,115,115,105,103,110,111,112],.str o,t,a]) 4 (pt++[.sp,.op (o++[61]),.sp]++p)
 |incp {o t pt}:o∈[[43,43],[45,45]]→Z0z R t pt→Node R (.tup [.str [105,110,99,100,101,99],.str o,.bool true,t]) 21 (.op o::pt)
 |incs {o t pt}:o∈[[43,43],[45,45]]→Z0z R t pt→Node R (.tup [.str [105,110,99,100,101,99],.str o,.bool false,t]) 21 (pt++[.op o])
 |insn {e c pe pc}:Par R e 19 pe→(c,pc)∈clsTab→Node R (.tup [.str [105,110,115,116,97,110,99,101,111,102],e,c]) 18 (pe++[.sp,.word [105,110,115,116,97,110,99,101,111,102],.sp]++pc)
 |ins {e c pe L pc}:Par R e 19 pe→R c L pc→Node R (.tup [.str [105,110,115,116,97,110,99,101,111,102],e,c]) 18 (pe++[.sp,.word [105,110,115,116,97,110,99,101,111,102],.sp]++(if tagOf c=[118,97,114] then pc else Zm pc))
 |mcall {o m as ns po pm ps}:Z1E R o po→Member R m pm→Args R as ps→Node R (.tup [.str [109,99,97,108,108],o,m,.tup as,.bool ns]) 21 (po++[arrow ns]++pm++argText ps)
 |prop {o m ns po pm}:Z1E R o po→Member R m pm→Node R (.tup [.str [112,114,111,112],o,m,.bool ns]) 21 (po++[arrow ns]++pm)
 |dim {o i po L pi}:Z1E R o po→R i L pi→Node R (.tup [.str [100,105,109],o,i]) 21 (po++[.op [91]]++pi++[.op [93]])
 |dim0 {o po}:Z1E R o po→Node R (.tup [.str [100,105,109],o,.none]) 21 (po++[.op [91],.op [93]])
 |callf {as ps}:Args R as ps→Node R (.tup [.str [99,97,108,108],.tup [.str [110,97,109,101],.str [102]],.tup as]) 21 (.word [102]::argText ps)
 |callo {o as po ps}:Z1E R o po→Args R as ps→Node R (.tup [.str [99,97,108,108],o,.tup as]) 21 ((if tagOf o=[112,114,111,112] then Zm po else po)++argText ps)
 |arr {is ps}:Items R is ps→Node R (.tup [.str [97,114,114,97,121],.tup is]) 21 (.op [91]::(Z2 ps++[.op [93]]))
 |mtch {e as L pe ps}:R e L pe→Arms R as ps→Node R (.tup [.str [109,97,116,99,104],e,.tup as]) 21 (.word [109,97,116,99,104]:: .sp::(Zm pe++[.sp]++Z2l (Z2 ps)))
 |empt {e L pe}:R e L pe→Node R (.tup [.str [101,109,112,116,121],e]) 21 (.word [101,109,112,116,121]::Zm pe)
 |iset {ts ps}:Raws R ts ps→Node R (.tup [.str [105,115,115,101,116],.tup ts]) 21 (.word [105,115,115,101,116]::Zm (Z2 ps))
noncomputable def Nd (R:Z0c):Z0c:=fun v L p=>Node R v L p∧Sm p
noncomputable def PT:Nat→Z0c
 |0=>Nd fun _ _ _=>False
 |h+1=>fun v L p=>PT h v L p∨Nd (PT h) v L p
end Mine
namespace Mine
end Mine
namespace Mine
set_option genCtorIdx false in
inductive TE where
 |v (ans:MV)
 |c (ans:MV) (l:List MV)
 |g (ans:MV)
 |j (t:List (List Nat))
 |t (b:Bool)
 |s (ρ:Loc) (c1 c2:Option (List MV))
noncomputable abbrev Zai:=Option (List MV)
structure St2 where
 a:Addr
 b:Addr
 ne:a≠b
structure Cs where
 c1:Zai
 c2:Zai
noncomputable def At1 (a:Addr) (κ:Zai) (σ:Z4):Prop:=match κ with|none=>True|some l=>σ a=some l
noncomputable def Z8t (a:Addr) (κ:Zai) (σ:Z4):Z4:=match κ with|none=>σ|some l=>upd σ a l
noncomputable def At (s:St2) (κ:Cs) (σ:Z4):Prop:=At1 s.a κ.c1 σ∧At1 s.b κ.c2 σ
noncomputable def put (s:St2) (κ:Cs) (σ:Z4):Z4:=Z8t s.b κ.c2 (Z8t s.a κ.c1 σ)
noncomputable def Z6m (κ' κ:Cs):Prop:=κ'.c1.isSome=κ.c1.isSome∧κ'.c2.isSome=κ.c2.isSome
noncomputable abbrev EK:=MV→Cs→List TE→Prop
noncomputable abbrev SK:=Out→Loc→Cs→List TE→Prop
noncomputable def Ct (C:Zv) (a:Addr) (f:Nat) (vs:List MV) (l:List MV) (v:MV) (l':List MV):Prop:=∀σ Q,σ a=some l→Q v (upd σ a l')→C f vs σ Q
noncomputable def Pct (C:Zv) (f:Nat) (vs:List MV) (v:MV):Prop:=∀σ Q,Q v σ→C f vs σ Q
noncomputable def PrT (p:Pr) (vs:List MV) (v:MV):Prop:=∀σ (Q:ZT),Q v σ→p.sem vs σ Q
noncomputable def CmT (C:Zv) (e:CE) (ρ:Loc) (v:MV):Prop:=∀σ (Q:ZT),Q v σ→wpE C e ρ σ Q
noncomputable def StT (C:Zv) (s:St2) (c:CS) (ρ:Loc) (κ:Cs) (ρ':Loc) (κ':Cs):Prop:=∀σ (Q:Zn),At s κ σ→Q .next ρ' (put s κ' σ)→wpS C c ρ σ Q
noncomputable def Z2A (b:Bool) (A B:Prop):Prop:=match b with|true=>A|false=>B
noncomputable def tst (v:MV) (t:List TE) (A B:List TE→Prop):Prop:=match t with
 | .t b::t'=>v=.bool b∧Z2A b (A t') (B t')
 |t=>(match v with| .bool b=>Z2A b (A t) (B t)|_=>False)
noncomputable def ZhP (v:MV) (κ:Cs) (t:List TE) (K:EK):Prop:=match v with| .bool b=>K (.bool b) κ t|_=>False
noncomputable def opt (X:OP) (P:Prop):Prop:=match X with|none=>P|some X=>X∧P
noncomputable def prE (p:Pr) (vs:List MV) (κ:Cs) (t:List TE) (K:EK):Prop:=match evP p vs with
 |some (v,X)=>opt X (K v κ t)
 |none=>False
noncomputable def prT (p:Pr) (vs:List MV) (κ:Cs) (t:List TE) (K:EK):Prop:=match t with
 | .g v::t'=>PrT p vs v∧K v κ t'
 |t=>prE p vs κ t K
noncomputable def ZcZ (vs:List MV) (f:Addr→List MV→Prop) (els:Prop):Prop:=match vs with
 | .lst c::r=>f c r
 |_=>els
noncomputable def Z4k (x y:Addr) (c:Zai) (f:List MV→Prop):Prop:=match c with|some l=>x=y∧f l|none=>False
noncomputable def sat {α:Type} (x:Option α) (f:α→Prop):Prop:=match x with|some a=>f a|none=>False
noncomputable def ZfX (r:List MV) (P:Prop):Prop:=match r with|[]=>P|_::_=>False
theorem Z10 {α:Type} {x:Option α} {f:α→Prop} (h:sat x f):∃a,x=some a∧f a:=by
 cases x with
 |none=>exact h.elim
 |some a=>exact ⟨a,rfl,h⟩
theorem Z50 {r:List MV} {P:Prop} (h:ZfX r P):r=[]∧P:=by
 cases r with
 |nil=>exact ⟨rfl,h⟩
 |cons _ _=>exact h.elim
noncomputable def ZiF (s:St2) (c:Addr) (n:Int) (κ:Cs) (t:List TE) (K:EK):Prop:=match n with
 | .ofNat m=>Z4k c s.a κ.c1 fun l=>sat ((pyIdx n l.length).bind (l[·]?)) fun v=>K v κ t
 | .negSucc m=>Z4k c s.b κ.c2 fun l=>(match t with| .g v::t'=>(pyIdx n l.length).bind (l[·]?)=some v∧K v κ t'|_=>False)
noncomputable def ZhR (s:St2) (c:Addr) (r:List MV) (κ:Cs) (t:List TE) (K:EK):Prop:=sat (hd1 r) fun x=>sat x.i? fun n=>ZiF s c n κ t K
noncomputable def Zjf (s:St2) (c:Addr) (r:List MV) (κ:Cs) (t:List TE) (K:EK):Prop:=sat (hd1 r) fun v=>Z4k c s.b κ.c2 fun l=>l.length<SL∧K .none ⟨κ.c1,some (l++[v])⟩ t
noncomputable def ZiB (s:St2) (c:Addr) (r:List MV) (κ:Cs) (t:List TE) (K:EK):Prop:=ZfX r (Z4k c s.b κ.c2 fun _=>K (.lst c) κ t)
noncomputable def Zii (s:St2) (c:Addr) (r:List MV) (κ:Cs) (t:List TE) (K:EK):Prop:=ZfX r (Z4k c s.b κ.c2 fun l=>K (.tup l) κ t)
noncomputable def Zjg (s:St2) (c:Addr) (r:List MV) (κ:Cs) (t:List TE) (K:EK):Prop:=sat (hd1 r) fun x=>sat x.f? fun m=>Z4k c s.b κ.c2 fun l=>(l++m).length≤SL∧K (.fl (l++m)) κ t
noncomputable def eqC (s:St2) (c:Addr) (r:List MV) (κ:Cs) (t:List TE) (K:EK):Prop:=sat (hd1 r) fun x=>sat x.f? fun m=>ZfX m (Z4k c s.b κ.c2 fun l=>K (.bool l.isEmpty) κ t)
noncomputable def Ziz (s:St2) (sep:List Nat) (ts:List (List Nat)) (x:MV) (κ:Cs) (P:Prop):Prop:=match x with
 | .lst c=>Z4k c s.b κ.c2 fun l=>Z1R l=some ts∧(joinL sep ts).length+sep.length≤SL∧P
 | .fl l=>Z1R l=some ts∧(joinL sep ts).length+sep.length≤SL∧P
 |_=>False
noncomputable def ZhO (t:List TE) (f:List (List Nat)→List TE→Prop):Prop:=match t with
 | .j ts::t'=>f ts t'
 |_=>False
theorem Zb9 {t:List TE} {f:List (List Nat)→List TE→Prop} (h:ZhO t f):∃ts t',f ts t':=by
 cases t with
 |nil=>exact h.elim
 |cons x r=>
  cases x with
  |j ts=>exact ⟨ts,r,h⟩
  |_=>exact h.elim
noncomputable def ZiA (s:St2) (vs:List MV) (κ:Cs) (t:List TE) (K:EK):Prop:=sat (hd2 vs) fun q=>sat q.1.s? fun sep=>ZhO t fun ts t'=>Ziz s sep ts q.2 κ (K (.str (joinL sep ts)) κ t')
noncomputable def prC (s:St2) (p:Pr) (vs:List MV) (κ:Cs) (t:List TE) (K:EK):Prop:=match p with
 | .getitem=>ZcZ vs (fun c r=>ZhR s c r κ t K) (prT .getitem vs κ t K)
 | .append=>ZcZ vs (fun c r=>Zjf s c r κ t K) False
 | .islst=>ZcZ vs (fun c r=>ZiB s c r κ t K) False
 | .tuple=>ZcZ vs (fun c r=>Zii s c r κ t K) (prT .tuple vs κ t K)
 | .add=>ZcZ vs (fun c r=>Zjg s c r κ t K) (prT .add vs κ t K)
 | .eq=>ZcZ vs (fun c r=>eqC s c r κ t K) (prT .eq vs κ t K)
 | .join=>ZiA s vs κ t K
 |p=>prT p vs κ t K
noncomputable def ZfA (C:Zv) (s:St2) (f:Nat) (vs:List MV) (κ:Cs) (t:List TE) (K:EK):Prop:=match t with
 | .v x::t'=>Pct C f vs x∧K x κ t'
 | .c x l'::t'=>(match κ.c1 with|some l=>Ct C s.a f vs l x l'∧K x ⟨some l',κ.c2⟩ t'|none=>False)
 |_=>False
noncomputable def CmC (C:Zv) (a:Addr) (e:CE) (ρ:Loc) (l:List MV) (v:MV) (l':List MV):Prop:=∀σ (Q:ZT),σ a=some l→Q v (upd σ a l')→wpE C e ρ σ Q
noncomputable def cmE (C:Zv) (s:St2) (e:CE) (ρ:Loc) (κ:Cs) (t:List TE) (K:EK):Prop:=match t with
 | .g v::t'=>CmT C e ρ v∧K v κ t'
 | .c x l'::t'=>(match κ.c1 with|some l=>CmC C s.a e ρ l x l'∧K x ⟨some l',κ.c2⟩ t'|none=>False)
 |_=>False
noncomputable def ZhQ (x:Option MV) (κ:Cs) (t:List TE) (K:EK):Prop:=match x with|some v=>K v κ t|none=>False
mutual
noncomputable def evE (C:Zv) (s:St2):CE→Loc→Cs→List TE→EK→Prop
 | .var i,ρ,κ,t,K=>ZhQ (ρ[i]?).join κ t K
 | .cst v,_,κ,t,K=>K v κ t
 | .pr p args,ρ,κ,t,K=>Zg3 C s args ρ κ t fun vs κ t=>prC s p vs κ t K
 | .cond c x y,ρ,κ,t,K=>evE C s c ρ κ t fun v κ t=>tst v t (fun t=>evE C s x ρ κ t K) (fun t=>evE C s y ρ κ t K)
 | .andd x y,ρ,κ,t,K=>evE C s x ρ κ t fun v κ t=>tst v t (fun t=>evE C s y ρ κ t fun v κ t=>ZhP v κ t K) (fun t=>K (.bool false) κ t)
 | .orr x y,ρ,κ,t,K=>evE C s x ρ κ t fun v κ t=>tst v t (fun t=>K (.bool true) κ t) (fun t=>evE C s y ρ κ t fun v κ t=>ZhP v κ t K)
 | .chain o1 o2 x y z,ρ,κ,t,K=>evE C s x ρ κ t fun u κ t=>evE C s y ρ κ t fun v κ t=>prT o1 [u,v] κ t fun b κ t=>tst b t (fun t=>evE C s z ρ κ t fun w κ t=>prT o2 [v,w] κ t K) (fun t=>K (.bool false) κ t)
 | .call f args,ρ,κ,t,K=>Zg3 C s args ρ κ t fun vs κ t=>ZfA C s f vs κ t K
 | .comp x e i,ρ,κ,t,K=>cmE C s (.comp x e i) ρ κ t K
noncomputable def Zg3 (C:Zv) (s:St2):List CE→Loc→Cs→List TE→(List MV→Cs→List TE→Prop)→Prop
 |[],_,κ,t,K=>K [] κ t
 |e::r,ρ,κ,t,K=>evE C s e ρ κ t fun v κ t=>Zg3 C s r ρ κ t fun vs κ t=>K (v::vs) κ t
end
theorem Z5i {a b:Addr} {κ:Zai} {σ:Z4} {l:List MV} (h:a≠b) (x:At1 a κ σ):At1 a κ (upd σ b l):=by
 cases κ with
 |none=>trivial
 |some m=>exact (Zp h).trans x
theorem Z7T (a:Addr) (κ:Zai) (σ:Z4):At1 a κ (Z8t a κ σ):=by
 cases κ with
 |none=>trivial
 |some l=>exact Z9 σ a l
theorem Z09 (s:St2) (κ:Cs) (σ:Z4):At s κ (put s κ σ):=by
 obtain ⟨c1,c2⟩:=κ
 refine ⟨?_,Z7T s.b c2 _⟩
 have h1:=Z7T s.a c1 σ
 cases c2 with
 |none=>exact h1
 |some l=>exact Z5i s.ne h1
theorem Zap {σ:Z4} {a b:Addr} {l m:List MV} (h:a≠b):upd (upd σ b m) a l=upd (upd σ a l) b m:=by
 funext x
 show (if x=a then some l else if x=b then some m else σ x)=if x=b then some m else if x=a then some l else σ x
 by_cases h1:x=a
 ·rw [if_pos h1,if_neg (h1▸h),if_pos h1]
 ·rw [if_neg h1,if_neg h1]
theorem Z98 {σ:Z4} {a b:Addr} (h:a≠b) (κ κ':Zai):Z8t a κ (Z8t b κ' σ)=Z8t b κ' (Z8t a κ σ):=by
 cases κ with
 |none=>rfl
 |some l=>
  cases κ' with
  |none=>rfl
  |some m=>exact Zap h
theorem Z5I {σ:Z4} {a:Addr} {κ κ':Zai} (e:κ'.isSome=κ.isSome):Z8t a κ' (Z8t a κ σ)=Z8t a κ' σ:=by
 cases κ' with
 |none=>
  cases κ with
  |none=>rfl
  |some m=>exact ff e
 |some l=>
  cases κ with
  |none=>rfl
  |some m=>exact Z0A σ a m l
theorem Z3I {s:St2} {κ κ' κ'':Cs} {σ:Z4} (e:Z6m κ' κ) (e':Z6m κ'' κ'):put s κ'' (put s κ' σ)=put s κ'' σ:=by
 unfold put
 rw [Z98 s.ne,Z5I e'.1,Z5I e'.2]
theorem Z2y {a:Addr} {κ:Zai} {σ:Z4} (h:At1 a κ σ):Z8t a κ σ=σ:=by
 cases κ with
 |none=>rfl
 |some l=>
  funext b
  show (if b=a then some l else σ b)=σ b
  by_cases e:b=a
  ·rw [if_pos e,e];exact h.symm
  ·rw [if_neg e]
theorem Z97 {s:St2} {κ:Cs} {σ:Z4} (h:At s κ σ):put s κ σ=σ:=by
 unfold put
 rw [Z2y h.1,Z2y h.2]
theorem Z6m.rfl' {κ:Cs}:Z6m κ κ:=⟨rfl,rfl⟩
theorem Z6m.tr {κ κ' κ'':Cs} (e:Z6m κ' κ) (e':Z6m κ'' κ'):Z6m κ'' κ:=⟨e'.1.trans e.1,e'.2.trans e.2⟩
theorem Z3r {v:MV} {t:List TE} {A B:List TE→Prop} (h:tst v t A B):(v=.bool true∧∃t',A t')∨(v=.bool false∧∃t',B t'):=by
 have nt:∀t,(match v with| .bool b=>Z2A b (A t) (B t)|_=>False)→(v=.bool true∧∃t',A t')∨(v=.bool false∧∃t',B t'):=by
  intro t h
  cases v with
  |bool b=>cases b with
   |true=>exact .inl ⟨rfl,t,h⟩
   |false=>exact .inr ⟨rfl,t,h⟩
  |_=>exact h.elim
 cases t with
 |nil=>exact nt _ h
 |cons x r=>
  cases x with
  |t b=>
   obtain ⟨e,h⟩:=(show v=.bool b∧Z2A b (A r) (B r) from h)
   cases b with
   |true=>exact .inl ⟨e,r,h⟩
   |false=>exact .inr ⟨e,r,h⟩
  |_=>exact nt _ h
noncomputable abbrev KOk (s:St2) (κ:Cs) (σ:Z4) (K:EK) (Q:ZT):Prop:=∀v κ' t',Z6m κ' κ→K v κ' t'→Q v (put s κ' σ)
theorem Z0d {s:St2} {κ:Cs} {σ:Z4} {K:EK} {Q:ZT} {v t} (h:At s κ σ) (q:KOk s κ σ K Q) (k:K v κ t):Q v σ:=by
 have:=q v κ t Z6m.rfl' k
 rwa [Z97 h] at this
theorem Z0W {s:St2} {κ κ':Cs} {σ:Z4} {K:EK} {Q:ZT} (e:Z6m κ' κ) (q:KOk s κ σ K Q):KOk s κ' (put s κ' σ) K Q:=by
 intro v κ'' t'' e'' k
 rw [Z3I e e'']
 exact q v κ'' t'' (e.tr e'') k
theorem ZcM {X:OP} {P:Prop} (h:opt X P):X.h∧P:=by
 cases X with
 |none=>exact ⟨trivial,h⟩
 |some X=>exact h
theorem Z0p {x y:Addr} {c:Zai} {f:List MV→Prop} (h:Z4k x y c f):∃l,c=some l∧x=y∧f l:=by
 cases c with
 |none=>exact h.elim
 |some l=>exact ⟨l,rfl,h⟩
theorem Z1J {vs:List MV} {f:Addr→List MV→Prop} {els:Prop} (h:ZcZ vs f els):(∃c r,vs=.lst c::r∧f c r)∨els:=by
 cases vs with
 |nil=>exact .inr h
 |cons v r=>
  cases v with
  |lst c=>exact .inl ⟨c,r,rfl,h⟩
  |_=>exact .inr h
theorem Z5L {p:Pr} {vs:List MV} {κ t} {K:EK} {s:St2} {σ:Z4} {Q:ZT} (h:prE p vs κ t K) (hs:At s κ σ) (q:KOk s κ σ K Q):p.sem vs σ Q:=by
 unfold prE at h
 cases he:evP p vs with
 |none=>rw [he] at h;exact h.elim
 |some r=>
  obtain ⟨v,X⟩:=r
  rw [he] at h
  have h:=ZcM h
  exact Z44 he h.1 (Z0d hs q h.2)
theorem Z0N {p:Pr} {vs:List MV} {κ t} {K:EK} {s:St2} {σ:Z4} {Q:ZT} (h:prT p vs κ t K) (hs:At s κ σ) (q:KOk s κ σ K Q):p.sem vs σ Q:=by
 cases t with
 |nil=>exact Z5L h hs q
 |cons x r=>
  cases x with
  |g v=>exact h.1 σ Q (Z0d hs q h.2)
  |_=>exact Z5L h hs q
theorem Zg8 {s:St2} {κ:Cs} {σ:Z4} {l} (h:At s κ σ) (e:κ.c1=some l):σ s.a=some l:=by have:=h.1;rwa [e] at this
theorem Zdw {s:St2} {κ:Cs} {σ:Z4} {l} (h:At s κ σ) (e:κ.c2=some l):σ s.b=some l:=by have:=h.2;rwa [e] at this
theorem Z8l {s:St2} {c r κ t} {K:EK} {σ:Z4} {Q:ZT} (h:ZhR s c r κ t K) (hs:At s κ σ) (q:KOk s κ σ K Q):Pr.getitem.sem (.lst c::r) σ Q:=by
 obtain ⟨x,e,h⟩:=Z10 h
 obtain ⟨n,e',h⟩:=Z10 h
 rw [Z0o e,MV.i_inv e']
 cases n with
 |ofNat m=>
  obtain ⟨l,hl,rfl,h1⟩:=Z0p h
  obtain ⟨v,hb,h1⟩:=Z10 h1
  exact .inr ⟨_,l,_,v,rfl,Zg8 hs hl,hb,Z0d hs q h1⟩
 |negSucc m=>
  obtain ⟨l,hl,rfl,h1⟩:=Z0p h
  clear h
  cases t with
  |nil=>exact h1.elim
  |cons x r=>
   cases x with
   |g v=>exact .inr ⟨_,l,_,v,rfl,Zdw hs hl,h1.1,Z0d hs q h1.2⟩
   |_=>exact h1.elim
theorem Zen {s:St2} {κ:Cs} {σ:Z4} (l:List MV) (h:At s κ σ):put s ⟨κ.c1,some l⟩ σ=upd σ s.b l:=by
 show upd (Z8t s.a κ.c1 σ) s.b l=_
 rw [Z2y h.1]
theorem Z9b {p:Pr} {vs:List MV} {κ t} {K:EK} {s:St2} {σ:Z4} {Q:ZT} (h:prC s p vs κ t K) (hs:At s κ σ) (q:KOk s κ σ K Q):p.sem vs σ Q:=by
 cases p with
 |getitem=>
  rcases Z1J h with ⟨c,r,rfl,h⟩|h
  ·exact Z8l h hs q
  ·exact Z0N h hs q
 |append=>
  rcases Z1J h with ⟨c,r,rfl,h1⟩|h1
  ·obtain ⟨v,e,h2⟩:=Z10 h1
   obtain ⟨l,hl,rfl,h3,k⟩:=Z0p h2
   refine .inr ⟨_,l,v,by rw [Z0o e],Zdw hs hl,h3,?_⟩
   rw [←Zen (l++[v]) hs]
   exact q _ _ t ⟨rfl,by rw [hl];rfl⟩ k
  ·exact h1.elim
 |islst=>
  rcases Z1J h with ⟨c,r,rfl,h1⟩|h1
  ·obtain ⟨e,h1⟩:=Z50 h1
   obtain ⟨l,hl,rfl,k⟩:=Z0p h1
   exact .inr ⟨_,l,by rw [e],Zdw hs hl,Z0d hs q k⟩
  ·exact h1.elim
 |tuple=>
  rcases Z1J h with ⟨c,r,rfl,h1⟩|h
  ·obtain ⟨e,h1⟩:=Z50 h1
   obtain ⟨l,hl,rfl,k⟩:=Z0p h1
   exact .inr ⟨_,l,by rw [e],Zdw hs hl,Z0d hs q k⟩
  ·exact Z0N h hs q
 |add=>
  rcases Z1J h with ⟨c,r,rfl,h1⟩|h
  ·obtain ⟨x,e,h1⟩:=Z10 h1
   obtain ⟨m,e',h1⟩:=Z10 h1
   obtain ⟨l,hl,rfl,h3,k⟩:=Z0p h1
   exact .inr ⟨_,l,m,by rw [Z0o e,MV.f_inv e'],Zdw hs hl,List.length_append▸h3,Z0d hs q k⟩
  ·exact Z0N h hs q
 |eq=>
  rcases Z1J h with ⟨c,r,rfl,h1⟩|h
  ·obtain ⟨x,e,h1⟩:=Z10 h1
   obtain ⟨m,e',h1⟩:=Z10 h1
   obtain ⟨e2,h1⟩:=Z50 h1
   obtain ⟨l,hl,rfl,k⟩:=Z0p h1
   exact .inr ⟨_,l,by rw [Z0o e,MV.f_inv e',e2],Zdw hs hl,Z0d hs q k⟩
  ·exact Z0N h hs q
 |join=>
  obtain ⟨p,e,h⟩:=Z10 h
  obtain ⟨sep,e',h⟩:=Z10 h
  obtain ⟨ts,t',h⟩:=Zb9 h
  obtain ⟨a,x⟩:=p
  rw [Z41 e,MV.s_inv e']
  cases x with
  |lst c=>
   obtain ⟨l,hl,rfl,h3,h4,k⟩:=Z0p h
   exact .inr ⟨_,_,l,ts,rfl,.inr ⟨_,rfl,Zdw hs hl⟩,h3,h4,Z0d hs q k⟩
  |fl l=>exact .inr ⟨_,_,l,ts,rfl,.inl rfl,h.1,h.2.1,Z0d hs q h.2.2⟩
  |_=>exact h.elim
 |_=>exact Z0N h hs q
theorem Z73 {C:Zv} {s:St2} {f:Nat} {vs:List MV} {κ t} {K:EK} {σ:Z4} {Q:ZT} (h:ZfA C s f vs κ t K) (hs:At s κ σ) (q:KOk s κ σ K Q):C f vs σ Q:=by
 cases t with
 |nil=>exact h.elim
 |cons x r=>
  cases x with
  |v x=>exact h.1 σ Q (Z0d hs q h.2)
  |c x l'=>
   cases hc:κ.c1 with
   |none=>have h1:(match κ.c1 with|some l=>Ct C s.a f vs l x l'∧K x ⟨some l',κ.c2⟩ r|none=>False):=h;clear h;rw [hc] at h1;exact h1.elim
   |some l=>
    have h1:(match κ.c1 with|some l=>Ct C s.a f vs l x l'∧K x ⟨some l',κ.c2⟩ r|none=>False):=h
    clear h
    rw [hc] at h1
    refine h1.1 σ Q (Zg8 hs hc) ?_
    have z:=q x ⟨some l',κ.c2⟩ r ⟨by rw [hc];rfl,rfl⟩ h1.2
    have hb:At1 s.b κ.c2 (upd σ s.a l'):=Z5i (fun e=>s.ne e.symm) hs.2
    have e:put s ⟨some l',κ.c2⟩ σ=upd σ s.a l':=Z2y hb
    rwa [e] at z
  |_=>exact h.elim
mutual
theorem Zj {C:Zv} {s:St2}:∀(e:CE) (ρ:Loc) (κ:Cs) (t:List TE) (K:EK) (σ:Z4) (Q:ZT),evE C s e ρ κ t K→At s κ σ→KOk s κ σ K Q→wpE C e ρ σ Q
 | .var i,ρ,κ,t,K,σ,Q,h,hs,q=>by
  have h1:ZhQ (ρ[i]?).join κ t K:=h
  clear h
  cases hx:(ρ[i]?).join with
  |none=>rw [hx] at h1;exact h1.elim
  |some v=>rw [hx] at h1;simp only [wpE,hx];exact Z0d hs q h1
 | .cst c,ρ,κ,t,K,σ,Q,h,hs,q=>by
  unfold wpE;exact Z0d hs q h
 | .pr p args,ρ,κ,t,K,σ,Q,h,hs,q=>by
  unfold wpE
  exact Z2F args ρ κ t _ σ _ h hs fun vs κ' t' e k=>Z9b k (Z09 s κ' σ) (Z0W e q)
 | .cond c x y,ρ,κ,t,K,σ,Q,h,hs,q=>by
  unfold wpE
  refine Zj c ρ κ t _ σ _ h hs fun v κ' t' e k=>?_
  rcases Z3r k with ⟨rfl,t2,k⟩|⟨rfl,t2,k⟩
  ·exact Zj x ρ κ' t2 K _ Q k (Z09 s κ' σ) (Z0W e q)
  ·exact Zj y ρ κ' t2 K _ Q k (Z09 s κ' σ) (Z0W e q)
 | .andd x y,ρ,κ,t,K,σ,Q,h,hs,q=>by
  unfold wpE
  refine Zj x ρ κ t _ σ _ h hs fun v κ' t' e k=>?_
  rcases Z3r k with ⟨rfl,t2,k⟩|⟨rfl,t2,k⟩
  ·refine Zj y ρ κ' t2 _ _ _ k (Z09 s κ' σ) fun v κ'' t3 e' k=>?_
   cases v with
   |bool b=>exact ⟨rfl,by rw [Z3I e e'];exact q _ κ'' t3 (e.tr e') k⟩
   |_=>exact k.elim
  ·exact q _ κ' t2 e k
 | .orr x y,ρ,κ,t,K,σ,Q,h,hs,q=>by
  unfold wpE
  refine Zj x ρ κ t _ σ _ h hs fun v κ' t' e k=>?_
  rcases Z3r k with ⟨rfl,t2,k⟩|⟨rfl,t2,k⟩
  ·exact q _ κ' t2 e k
  ·refine Zj y ρ κ' t2 _ _ _ k (Z09 s κ' σ) fun v κ'' t3 e' k=>?_
   cases v with
   |bool b=>exact ⟨rfl,by rw [Z3I e e'];exact q _ κ'' t3 (e.tr e') k⟩
   |_=>exact k.elim
 | .chain o1 o2 x y z,ρ,κ,t,K,σ,Q,h,hs,q=>by
  unfold wpE
  refine Zj x ρ κ t _ σ _ h hs fun u κ1 t1 e1 k1=>?_
  refine Zj y ρ κ1 t1 _ _ _ k1 (Z09 s κ1 σ) fun v κ2 t2 e2 k2=>?_
  refine Z0N k2 (Z09 s κ2 _) fun b κ3 t3 e3 k3=>?_
  have q3:=Z0W e3 (Z0W e2 (Z0W e1 q))
  rcases Z3r k3 with ⟨rfl,t4,k4⟩|⟨rfl,t4,k4⟩
  ·exact Zj z ρ κ3 t4 _ _ _ k4 (Z09 s κ3 _) fun w κ5 t5 e5 k5=>Z0N k5 (Z09 s κ5 _) (Z0W e5 q3)
  ·exact Z0d (Z09 s κ3 _) q3 k4
 | .call f args,ρ,κ,t,K,σ,Q,h,hs,q=>by
  unfold wpE
  exact Z2F args ρ κ t _ σ _ h hs fun vs κ' t' e k=>Z73 k (Z09 s κ' σ) (Z0W e q)
 | .comp x e i,ρ,κ,t,K,σ,Q,h,hs,q=>by
  have h:cmE C s (.comp x e i) ρ κ t K:=h
  cases t with
  |nil=>exact h.elim
  |cons y r=>
   cases y with
   |g v=>exact h.1 σ Q (Z0d hs q h.2)
   |c v l'=>
    cases hc:κ.c1 with
    |none=>have h1:(match κ.c1 with|some l=>CmC C s.a (.comp x e i) ρ l v l'∧K v ⟨some l',κ.c2⟩ r|none=>False):=h;clear h;rw [hc] at h1;exact h1.elim
    |some l=>
     have h1:(match κ.c1 with|some l=>CmC C s.a (.comp x e i) ρ l v l'∧K v ⟨some l',κ.c2⟩ r|none=>False):=h
     clear h
     rw [hc] at h1
     refine h1.1 σ Q (Zg8 hs hc) ?_
     have z:=q v ⟨some l',κ.c2⟩ r ⟨by rw [hc];rfl,rfl⟩ h1.2
     have hb:At1 s.b κ.c2 (upd σ s.a l'):=Z5i (fun e=>s.ne e.symm) hs.2
     have e:put s ⟨some l',κ.c2⟩ σ=upd σ s.a l':=Z2y hb
     rwa [e] at z
   |_=>exact h.elim
theorem Z2F {C:Zv} {s:St2}:∀(es:List CE) (ρ:Loc) (κ:Cs) (t:List TE) (K:List MV→Cs→List TE→Prop) (σ:Z4) (Q:List MV→Z4→Prop),Zg3 C s es ρ κ t K→At s κ σ→(∀vs κ' t',Z6m κ' κ→K vs κ' t'→Q vs (put s κ' σ))→wpEs C es ρ σ Q
 |[],ρ,κ,t,K,σ,Q,h,hs,q=>by
  unfold wpEs
  have:=q [] κ t Z6m.rfl' h
  rwa [Z97 hs] at this
 |e::r,ρ,κ,t,K,σ,Q,h,hs,q=>by
  unfold wpEs
  refine Zj e ρ κ t _ σ _ h hs fun v κ' t' e1 k=>?_
  exact Z2F r ρ κ' t' _ _ _ k (Z09 s κ' σ) fun vs κ'' t'' e2 k2=>by
   rw [Z3I e1 e2];exact q _ κ'' t'' (e1.tr e2) k2
end
end Mine
namespace Mine
noncomputable def Zbf (f:MV→Loc→Cs→List TE→SK→Prop):List MV→Loc→Cs→List TE→SK→Prop
 |[],ρ,κ,t,K=>K .next ρ κ t
 |v::r,ρ,κ,t,K=>f v ρ κ t fun o ρ κ t=>match o with| .next=>Zbf f r ρ κ t K| .ret x=>K (.ret x) ρ κ t
noncomputable def Zar (C:Zv) (s:St2) (c:CS) (ρ:Loc) (κ:Cs) (t:List TE) (K:SK) (els:Prop):Prop:=match t with
 | .s ρ' c1 c2::t'=>Z2A ((c1.isSome==κ.c1.isSome)&&(c2.isSome==κ.c2.isSome)) (StT C s c ρ κ ρ' ⟨c1,c2⟩∧K .next ρ' ⟨c1,c2⟩ t') False
 |_=>els
noncomputable def Zgc (xs:List Nat) (v:MV) (P:List MV→Prop):Prop:=match v with
 | .tup l=>Z2A (l.length==xs.length) (P l) False
 |_=>False
noncomputable def Z7v (v:MV) (P:List MV→Prop):Prop:=match iterOf v with|some l=>P l|none=>False
set_option tactic.hygienic true in
noncomputable def Zin (s:St2) (v o k:MV) (ρ:Loc) (κ:Cs) (t:List TE) (K:SK):Prop:=match o with
 | .lst c=>(match k with
  | .int n=>Z4k c s.a κ.c1 fun items=>Z2A (decide (0≤n)) (match pyIdx n items.length with|some j=>K .next ρ ⟨some (items.set j v),κ.c2⟩ t|none=>False) False
  |_=>False)
 |_=>False
mutual
noncomputable def evS (C:Zv) (s:St2):CS→Loc→Cs→List TE→SK→Prop
 | .expr e,ρ,κ,t,K=>evE C s e ρ κ t fun v κ t=>Z2A v.flat (K .next ρ κ t) False
 | .assign x e,ρ,κ,t,K=>evE C s e ρ κ t fun v κ t=>K .next (ρ.set x (some v)) κ t
 | .unpack xs e,ρ,κ,t,K=>evE C s e ρ κ t fun v κ t=>Zgc xs v fun l=>K .next (setMany ρ xs l) κ t
 | .setidx l i e,ρ,κ,t,K=>evE C s e ρ κ t fun v κ t=>evE C s l ρ κ t fun o κ t=>evE C s i ρ κ t fun k κ t=>Zin s v o k ρ κ t K
 | .ret e,ρ,κ,t,K=>evE C s e ρ κ t fun v κ t=>K (.ret v) ρ κ t
 | .ite c x y,ρ,κ,t,K=>evE C s c ρ κ t fun v κ t=>tst v t (fun t=>Z3h C s x ρ κ t K) (fun t=>Z3h C s y ρ κ t K)
 | .while c b,ρ,κ,t,K=>Zar C s (.while c b) ρ κ t K False
 | .for x i b,ρ,κ,t,K=>Zar C s (.for x i b) ρ κ t K (evE C s i ρ κ t fun v κ t=>Z7v v fun l=>Zbf (fun u ρ κ t K=>Z3h C s b (ρ.set x (some u)) κ t K) l ρ κ t K)
 | .forT xs i b,ρ,κ,t,K=>Zar C s (.forT xs i b) ρ κ t K (evE C s i ρ κ t fun v κ t=>Z7v v fun l=>Zbf (fun u ρ κ t K=>Zgc xs u fun l=>Z3h C s b (setMany ρ xs l) κ t K) l ρ κ t K)
 | .bad,_,_,_,_=>False
noncomputable def Z3h (C:Zv) (s:St2):List CS→Loc→Cs→List TE→SK→Prop
 |[],ρ,κ,t,K=>K .next ρ κ t
 |c::r,ρ,κ,t,K=>evS C s c ρ κ t fun o ρ κ t=>match o with| .next=>Z3h C s r ρ κ t K| .ret x=>K (.ret x) ρ κ t
end
noncomputable abbrev SOk (s:St2) (κ:Cs) (σ:Z4) (K:SK) (Q:Zn):Prop:=∀o ρ' κ' t',Z6m κ' κ→K o ρ' κ' t'→Q o ρ' (put s κ' σ)
theorem Z8T {s:St2} {κ:Cs} {σ:Z4} {K:SK} {Q:Zn} {o ρ t} (h:At s κ σ) (q:SOk s κ σ K Q) (k:K o ρ κ t):Q o ρ σ:=by
 have:=q o ρ κ t Z6m.rfl' k
 rwa [Z97 h] at this
theorem Z0D {s:St2} {κ κ':Cs} {σ:Z4} {K:SK} {Q:Zn} (e:Z6m κ' κ) (q:SOk s κ σ K Q):SOk s κ' (put s κ' σ) K Q:=by
 intro o ρ κ'' t'' e'' k
 rw [Z3I e e'']
 exact q o ρ κ'' t'' (e.tr e'') k
theorem Z25 {s:St2} {f:MV→Loc→Cs→List TE→SK→Prop} {g:MV→Loc→Z4→Zn→Prop} (hf:∀u ρ κ t K σ Q,f u ρ κ t K→At s κ σ→SOk s κ σ K Q→g u ρ σ Q):
  ∀(l:List MV) (ρ:Loc) (κ:Cs) (t:List TE) (K:SK) (σ:Z4) (Q:Zn),Zbf f l ρ κ t K→At s κ σ→SOk s κ σ K Q→wpFor g l ρ σ Q
 |[],ρ,κ,t,K,σ,Q,h,hs,q=>Z8T hs q h
 |v::r,ρ,κ,t,K,σ,Q,h,hs,q=>by
  refine hf v ρ κ t _ σ _ h hs fun o ρ' κ' t' e k=>?_
  cases o with
  |next=>exact Z25 hf r ρ' κ' t' K _ Q k (Z09 s _ _) (Z0D e q)
  |ret x=>exact q _ ρ' κ' t' e k
theorem Z0y {b:Bool} {P:Prop} (h:Z2A b P False):b=true∧P:=by
 cases b with
 |true=>exact ⟨rfl,h⟩
 |false=>exact h.elim
theorem Z1X {C:Zv} {s:St2} {c:CS} {ρ κ t K} {els:Prop} {σ:Z4} {Q:Zn} (h:Zar C s c ρ κ t K els) (hs:At s κ σ) (q:SOk s κ σ K Q) (he:els→wpS C c ρ σ Q):wpS C c ρ σ Q:=by
 cases t with
 |nil=>exact he h
 |cons x r=>
  cases x with
  |s ρ' c1 c2=>
   obtain ⟨e,h1,h2⟩:=Z0y (show Z2A ((c1.isSome==κ.c1.isSome)&&(c2.isSome==κ.c2.isSome)) (StT C s c ρ κ ρ' ⟨c1,c2⟩∧K .next ρ' ⟨c1,c2⟩ r) False from h)
   have e:=Bool.and_eq_true_iff.1 e
   exact h1 σ Q hs (q _ ρ' ⟨c1,c2⟩ r ⟨eq_of_beq e.1,eq_of_beq e.2⟩ h2)
  |_=>exact he h
theorem Z7e {xs:List Nat} {v:MV} {P:List MV→Prop} (h:Zgc xs v P):∃l,v=.tup l∧l.length=xs.length∧P l:=by
 cases v with
 |tup l=>
  obtain ⟨e,h⟩:=Z0y (show Z2A (l.length==xs.length) (P l) False from h)
  exact ⟨l,rfl,eq_of_beq e,h⟩
 |_=>exact h.elim
theorem Z4C {v:MV} {P:List MV→Prop} (h:Z7v v P):∃l,iterOf v=some l∧P l:=by
 unfold Z7v at h
 cases hi:iterOf v with
 |none=>rw [hi] at h;exact h.elim
 |some l=>rw [hi] at h;exact ⟨l,rfl,h⟩
mutual
theorem Z43 {C:Zv} {s:St2}:∀(c:CS) (ρ:Loc) (κ:Cs) (t:List TE) (K:SK) (σ:Z4) (Q:Zn),evS C s c ρ κ t K→At s κ σ→SOk s κ σ K Q→wpS C c ρ σ Q
 | .expr e,ρ,κ,t,K,σ,Q,h,hs,q=>by
  unfold wpS
  refine Zj e ρ κ t _ σ _ h hs fun v κ' t' e k=>?_
  obtain ⟨hf,k⟩:=Z0y k
  exact ⟨hf,q _ ρ κ' t' e k⟩
 | .assign x e,ρ,κ,t,K,σ,Q,h,hs,q=>by
  unfold wpS
  exact Zj e ρ κ t _ σ _ h hs fun v κ' t' e k=>q _ _ κ' t' e k
 | .unpack xs e,ρ,κ,t,K,σ,Q,h,hs,q=>by
  unfold wpS
  refine Zj e ρ κ t _ σ _ h hs fun v κ' t' e k=>?_
  obtain ⟨l,rfl,hl,k⟩:=Z7e k
  exact ⟨hl,q _ _ κ' t' e k⟩
 | .setidx l i e,ρ,κ,t,K,σ,Q,h,hs,q=>by
  unfold wpS
  refine Zj e ρ κ t _ σ _ h hs fun v κ1 t1 e1 k1=>?_
  have q1:=Z0D e1 q
  refine Zj l ρ κ1 t1 _ _ _ k1 (Z09 s κ1 _) fun o κ2 t2 e2 k2=>?_
  have q2:=Z0D e2 q1
  refine Zj i ρ κ2 t2 _ _ _ k2 (Z09 s κ2 _) fun k κ3 t3 e3 k3=>?_
  have hs3:=Z09 s κ3 (put s κ2 (put s κ1 σ))
  have q3:SOk s κ3 (put s κ3 (put s κ2 (put s κ1 σ))) K Q:=Z0D e3 q2
  clear hs q q1 q2 h k1 k2
  cases o with
  |lst c=>
   cases k with
   |int n=>
    obtain ⟨items,hc,rfl,k4⟩:=Z0p k3
    clear k3
    obtain ⟨hn,k4⟩:=Z0y k4
    cases hj:pyIdx n items.length with
    |none=>rw [hj] at k4;exact k4.elim
    |some j=>
     rw [hj] at k4
     refine ⟨of_decide_eq_true hn,items,Zg8 hs3 hc,?_⟩
     rw [hj]
     have z:=q3 _ ρ ⟨some (items.set j v),κ3.c2⟩ t3 ⟨by rw [hc];rfl,rfl⟩ k4
     have hb:At1 s.b κ3.c2 (upd (put s κ3 (put s κ2 (put s κ1 σ))) s.a (items.set j v)):=Z5i (fun e=>s.ne e.symm) hs3.2
     have e:put s ⟨some (items.set j v),κ3.c2⟩ (put s κ3 (put s κ2 (put s κ1 σ)))=upd (put s κ3 (put s κ2 (put s κ1 σ))) s.a (items.set j v):=Z2y hb
     rwa [e] at z
   |_=>exact k3.elim
  |_=>exact k3.elim
 | .ret e,ρ,κ,t,K,σ,Q,h,hs,q=>by
  unfold wpS
  exact Zj e ρ κ t _ σ _ h hs fun v κ' t' e k=>q _ _ κ' t' e k
 | .ite c x y,ρ,κ,t,K,σ,Q,h,hs,q=>by
  unfold wpS
  refine Zj c ρ κ t _ σ _ h hs fun v κ' t' e k=>?_
  rcases Z3r k with ⟨rfl,t2,k⟩|⟨rfl,t2,k⟩
  ·exact Zl x ρ κ' t2 K _ Q k (Z09 s _ _) (Z0D e q)
  ·exact Zl y ρ κ' t2 K _ Q k (Z09 s _ _) (Z0D e q)
 | .while c b,ρ,κ,t,K,σ,Q,h,hs,q=>Z1X h hs q False.elim
 | .for x i b,ρ,κ,t,K,σ,Q,h,hs,q=>Z1X h hs q fun h=>by
  unfold wpS
  refine Zj i ρ κ t _ σ _ h hs fun v κ' t' e k=>?_
  obtain ⟨l,hl,k⟩:=Z4C k
  rw [hl]
  exact Z25 (fun u ρ κ t K σ Q h hs q=>Zl b (ρ.set x (some u)) κ t K σ Q h hs q) l ρ κ' t' K _ Q k (Z09 s _ _) (Z0D e q)
 | .forT xs i b,ρ,κ,t,K,σ,Q,h,hs,q=>Z1X h hs q fun h=>by
  unfold wpS
  refine Zj i ρ κ t _ σ _ h hs fun v κ' t' e k=>?_
  obtain ⟨l,hl,k⟩:=Z4C k
  rw [hl]
  refine Z25 (fun u ρ κ t K σ Q h hs q=>?_) l ρ κ' t' K _ Q k (Z09 s _ _) (Z0D e q)
  obtain ⟨l,rfl,hl,h⟩:=Z7e h
  exact ⟨hl,Zl b _ κ t K σ Q h hs q⟩
 | .bad,ρ,κ,t,K,σ,Q,h,hs,q=>h.elim
theorem Zl {C:Zv} {s:St2}:∀(ss:List CS) (ρ:Loc) (κ:Cs) (t:List TE) (K:SK) (σ:Z4) (Q:Zn),Z3h C s ss ρ κ t K→At s κ σ→SOk s κ σ K Q→wpSs C ss ρ σ Q
 |[],ρ,κ,t,K,σ,Q,h,hs,q=>by
  unfold wpSs;exact Z8T hs q h
 |c::r,ρ,κ,t,K,σ,Q,h,hs,q=>by
  unfold wpSs
  refine Z43 c ρ κ t _ σ _ h hs fun o ρ' κ' t' e k=>?_
  cases o with
  |next=>exact Zl r ρ' κ' t' K _ Q k (Z09 s _ _) (Z0D e q)
  |ret x=>exact q _ ρ' κ' t' e k
end
noncomputable def ZbJ:Out→MV| .next=>.none| .ret v=>v
noncomputable def ZeS (np nl:Nat) (df vs:List MV):Loc:=(vs++df.drop (df.length+vs.length-np)).map some++List.replicate (nl-np) none
theorem Z0Z {σ:Z4}:ZG σ σ:=fun _ _ e=>e
theorem Ze1 {σ σ':Z4} {a:Addr} {l:List MV} (h:ZG σ σ') (e:σ a=Option.none):ZG σ (upd σ' a l):=fun b m hb=>by
 have:b≠a:=fun q=>by rw [q,e] at hb;cases hb
 rw [Zp this];exact h b m hb
theorem Z03 {f np nl df b} (ft:FT f=some ⟨np,nl,df,b⟩) {d:Nat} {vs:List MV} {σ:Z4} {Q:ZT} (hn:(decide (vs.length≤np)&&decide (np≤vs.length+df.length))=true)
  (x:wpSs (Z3 FT d) b (ZeS np nl df vs) σ fun o _ σ'=>∃σ'',ZG σ'' σ'∧Q (ZbJ o) σ''):Z3 FT (d+1) f vs σ Q:=by
 unfold Z3
 rw [ft]
 have hn:=Bool.and_eq_true_iff.1 hn
 exact ⟨of_decide_eq_true hn.1,of_decide_eq_true hn.2,Z0m (Zs FT d) b _ σ (fun o ρ σ' h=>by cases o<;>exact h) x⟩
theorem ZD {P Q:Prop} (q:Q) (h:P=Q):P:=h.symm▸q
noncomputable def Z1r (C:Zv) (np nl:Nat) (df:List MV) (b:List CS) (vs:List MV) (t:List TE) (v:MV):Prop:=
 Z2A (decide (vs.length≤np)&&decide (np≤vs.length+df.length)) (Z3h C ⟨0,1,by decide⟩ b (ZeS np nl df vs) ⟨none,none⟩ t fun o _ _ _=>ZbJ o=v) False
theorem Za {f np nl df b} (ft:FT f=some ⟨np,nl,df,b⟩) {d:Nat} {vs:List MV} {v:MV} {t:List TE} (h:Z1r (Z3 FT d) np nl df b vs t v):Pct (Z3 FT (d+1)) f vs v:=
 fun σ Q q=>Z03 ft (Z0y h).1 (Zl b _ ⟨none,none⟩ t _ σ _ (Z0y h).2 ⟨trivial,trivial⟩ fun o ρ' κ' t' e k=>by
  obtain ⟨c1,c2⟩:=κ'
  obtain ⟨e1,e2⟩:=e
  cases c1<;>cases c2<;>first|(cases e1;done)|(cases e2;done)|exact ⟨σ,Z0Z,by rw [k];exact q⟩)
noncomputable def Z6k (C:Zv) (a:Addr) (np nl:Nat) (df:List MV) (b:List CS) (vs:List MV) (t:List TE) (l:List MV) (v:MV) (l':List MV):Prop:=
 Z2A (decide (vs.length≤np)&&decide (np≤vs.length+df.length)) (Z3h C ⟨a,a+1,Nat.ne_of_lt (Nat.lt_succ_self a)⟩ b (ZeS np nl df vs) ⟨some l,none⟩ t fun o _ κ _=>ZbJ o=v∧κ.c1=some l') False
theorem Zy {f np nl df b} (ft:FT f=some ⟨np,nl,df,b⟩) {d:Nat} {a:Addr} {vs:List MV} {l l':List MV} {v:MV} {t:List TE} (h:Z6k (Z3 FT d) a np nl df b vs t l v l'):Ct (Z3 FT (d+1)) a f vs l v l':=
 fun σ Q hs q=>Z03 ft (Z0y h).1 (Zl b _ ⟨some l,none⟩ t _ σ _ (Z0y h).2 ⟨hs,trivial⟩ fun o ρ' κ' t' e k=>by
  obtain ⟨c1,c2⟩:=κ'
  obtain ⟨k1,k2⟩:=k
  obtain ⟨e1,e2⟩:=e
  cases k2
  cases c2 with
  |none=>exact ⟨_,Z0Z,by rw [k1];exact q⟩
  |some _=>cases e2)
theorem Z4Y {f np nl df b} (ft:FT f=some ⟨np,nl,df,b⟩) {d:Nat} {vs:List MV} {v:MV} (t:List TE) (h:Z1r (Z3 FT d) np nl df b vs t v=(v=v)):Pct (Z3 FT (d+1)) f vs v:=Za ft (ZD rfl h)
theorem Zj9 {f np nl df b} (ft:FT f=some ⟨np,nl,df,b⟩) {d:Nat} {a:Addr} {vs:List MV} {l l':List MV} {v:MV} (t:List TE) (h:Z6k (Z3 FT d) a np nl df b vs t l v l'=(v=v∧some l'=some l')):Ct (Z3 FT (d+1)) a f vs l v l':=Zy ft (ZD ⟨rfl,rfl⟩ h)
theorem Z4h {A1:Prop} {f np nl df b} (ft:FT f=some ⟨np,nl,df,b⟩) {d:Nat} {vs:List MV} {v:MV} (t:List TE) (q1:A1) (h:Z1r (Z3 FT d) np nl df b vs t v=(A1∧(v=v))):Pct (Z3 FT (d+1)) f vs v:=Za ft (ZD ⟨q1,rfl⟩ h)
theorem Z6d {A1:Prop} {f np nl df b} (ft:FT f=some ⟨np,nl,df,b⟩) {d:Nat} {a:Addr} {vs:List MV} {l l':List MV} {v:MV} (t:List TE) (q1:A1) (h:Z6k (Z3 FT d) a np nl df b vs t l v l'=(A1∧(v=v∧some l'=some l'))):Ct (Z3 FT (d+1)) a f vs l v l':=Zy ft (ZD ⟨q1,⟨rfl,rfl⟩⟩ h)
theorem Z23 {A1 A2:Prop} {f np nl df b} (ft:FT f=some ⟨np,nl,df,b⟩) {d:Nat} {vs:List MV} {v:MV} (t:List TE) (q1:A1) (q2:A2) (h:Z1r (Z3 FT d) np nl df b vs t v=(A1∧(A2∧(v=v)))):Pct (Z3 FT (d+1)) f vs v:=Za ft (ZD ⟨q1,q2,rfl⟩ h)
theorem Zdu {A1 A2:Prop} {f np nl df b} (ft:FT f=some ⟨np,nl,df,b⟩) {d:Nat} {a:Addr} {vs:List MV} {l l':List MV} {v:MV} (t:List TE) (q1:A1) (q2:A2) (h:Z6k (Z3 FT d) a np nl df b vs t l v l'=(A1∧(A2∧(v=v∧some l'=some l')))):Ct (Z3 FT (d+1)) a f vs l v l':=Zy ft (ZD ⟨q1,q2,⟨rfl,rfl⟩⟩ h)
theorem ZcL {A1 A2 A3:Prop} {f np nl df b} (ft:FT f=some ⟨np,nl,df,b⟩) {d:Nat} {vs:List MV} {v:MV} (t:List TE) (q1:A1) (q2:A2) (q3:A3) (h:Z1r (Z3 FT d) np nl df b vs t v=(A1∧(A2∧(A3∧(v=v))))):Pct (Z3 FT (d+1)) f vs v:=Za ft (ZD ⟨q1,q2,q3,rfl⟩ h)
theorem Z74 {A1 A2 A3:Prop} {f np nl df b} (ft:FT f=some ⟨np,nl,df,b⟩) {d:Nat} {a:Addr} {vs:List MV} {l l':List MV} {v:MV} (t:List TE) (q1:A1) (q2:A2) (q3:A3) (h:Z6k (Z3 FT d) a np nl df b vs t l v l'=(A1∧(A2∧(A3∧(v=v∧some l'=some l'))))):Ct (Z3 FT (d+1)) a f vs l v l':=Zy ft (ZD ⟨q1,q2,q3,⟨rfl,rfl⟩⟩ h)
theorem Z22 {A1 A2 A3 A4:Prop} {f np nl df b} (ft:FT f=some ⟨np,nl,df,b⟩) {d:Nat} {vs:List MV} {v:MV} (t:List TE) (q1:A1) (q2:A2) (q3:A3) (q4:A4) (h:Z1r (Z3 FT d) np nl df b vs t v=(A1∧(A2∧(A3∧(A4∧(v=v)))))):Pct (Z3 FT (d+1)) f vs v:=Za ft (ZD ⟨q1,q2,q3,q4,rfl⟩ h)
theorem Z27 {A1 A2 A3 A4:Prop} {f np nl df b} (ft:FT f=some ⟨np,nl,df,b⟩) {d:Nat} {a:Addr} {vs:List MV} {l l':List MV} {v:MV} (t:List TE) (q1:A1) (q2:A2) (q3:A3) (q4:A4) (h:Z6k (Z3 FT d) a np nl df b vs t l v l'=(A1∧(A2∧(A3∧(A4∧(v=v∧some l'=some l')))))):Ct (Z3 FT (d+1)) a f vs l v l':=Zy ft (ZD ⟨q1,q2,q3,q4,⟨rfl,rfl⟩⟩ h)
theorem Zeu {A1 A2 A3 A4 A5:Prop} {f np nl df b} (ft:FT f=some ⟨np,nl,df,b⟩) {d:Nat} {vs:List MV} {v:MV} (t:List TE) (q1:A1) (q2:A2) (q3:A3) (q4:A4) (q5:A5) (h:Z1r (Z3 FT d) np nl df b vs t v=(A1∧(A2∧(A3∧(A4∧(A5∧(v=v))))))):Pct (Z3 FT (d+1)) f vs v:=Za ft (ZD ⟨q1,q2,q3,q4,q5,rfl⟩ h)
theorem Zj8 {A1 A2 A3 A4 A5:Prop} {f np nl df b} (ft:FT f=some ⟨np,nl,df,b⟩) {d:Nat} {a:Addr} {vs:List MV} {l l':List MV} {v:MV} (t:List TE) (q1:A1) (q2:A2) (q3:A3) (q4:A4) (q5:A5) (h:Z6k (Z3 FT d) a np nl df b vs t l v l'=(A1∧(A2∧(A3∧(A4∧(A5∧(v=v∧some l'=some l'))))))):Ct (Z3 FT (d+1)) a f vs l v l':=Zy ft (ZD ⟨q1,q2,q3,q4,q5,⟨rfl,rfl⟩⟩ h)
theorem ZaX {A1 A2 A3 A4 A5 A6:Prop} {f np nl df b} (ft:FT f=some ⟨np,nl,df,b⟩) {d:Nat} {vs:List MV} {v:MV} (t:List TE) (q1:A1) (q2:A2) (q3:A3) (q4:A4) (q5:A5) (q6:A6) (h:Z1r (Z3 FT d) np nl df b vs t v=(A1∧(A2∧(A3∧(A4∧(A5∧(A6∧(v=v)))))))):Pct (Z3 FT (d+1)) f vs v:=Za ft (ZD ⟨q1,q2,q3,q4,q5,q6,rfl⟩ h)
theorem Zhu {A1 A2 A3 A4 A5 A6:Prop} {f np nl df b} (ft:FT f=some ⟨np,nl,df,b⟩) {d:Nat} {a:Addr} {vs:List MV} {l l':List MV} {v:MV} (t:List TE) (q1:A1) (q2:A2) (q3:A3) (q4:A4) (q5:A5) (q6:A6) (h:Z6k (Z3 FT d) a np nl df b vs t l v l'=(A1∧(A2∧(A3∧(A4∧(A5∧(A6∧(v=v∧some l'=some l')))))))):Ct (Z3 FT (d+1)) a f vs l v l':=Zy ft (ZD ⟨q1,q2,q3,q4,q5,q6,⟨rfl,rfl⟩⟩ h)
theorem Zet {A1 A2 A3 A4 A5 A6 A7:Prop} {f np nl df b} (ft:FT f=some ⟨np,nl,df,b⟩) {d:Nat} {vs:List MV} {v:MV} (t:List TE) (q1:A1) (q2:A2) (q3:A3) (q4:A4) (q5:A5) (q6:A6) (q7:A7) (h:Z1r (Z3 FT d) np nl df b vs t v=(A1∧(A2∧(A3∧(A4∧(A5∧(A6∧(A7∧(v=v))))))))):Pct (Z3 FT (d+1)) f vs v:=Za ft (ZD ⟨q1,q2,q3,q4,q5,q6,q7,rfl⟩ h)
theorem ZfC {A1 A2 A3 A4 A5 A6 A7:Prop} {f np nl df b} (ft:FT f=some ⟨np,nl,df,b⟩) {d:Nat} {a:Addr} {vs:List MV} {l l':List MV} {v:MV} (t:List TE) (q1:A1) (q2:A2) (q3:A3) (q4:A4) (q5:A5) (q6:A6) (q7:A7) (h:Z6k (Z3 FT d) a np nl df b vs t l v l'=(A1∧(A2∧(A3∧(A4∧(A5∧(A6∧(A7∧(v=v∧some l'=some l'))))))))):Ct (Z3 FT (d+1)) a f vs l v l':=Zy ft (ZD ⟨q1,q2,q3,q4,q5,q6,q7,⟨rfl,rfl⟩⟩ h)
theorem Zes {A1 A2 A3 A4 A5 A6 A7 A8:Prop} {f np nl df b} (ft:FT f=some ⟨np,nl,df,b⟩) {d:Nat} {vs:List MV} {v:MV} (t:List TE) (q1:A1) (q2:A2) (q3:A3) (q4:A4) (q5:A5) (q6:A6) (q7:A7) (q8:A8) (h:Z1r (Z3 FT d) np nl df b vs t v=(A1∧(A2∧(A3∧(A4∧(A5∧(A6∧(A7∧(A8∧(v=v)))))))))):Pct (Z3 FT (d+1)) f vs v:=Za ft (ZD ⟨q1,q2,q3,q4,q5,q6,q7,q8,rfl⟩ h)
theorem ZfB {A1 A2 A3 A4 A5 A6 A7 A8:Prop} {f np nl df b} (ft:FT f=some ⟨np,nl,df,b⟩) {d:Nat} {a:Addr} {vs:List MV} {l l':List MV} {v:MV} (t:List TE) (q1:A1) (q2:A2) (q3:A3) (q4:A4) (q5:A5) (q6:A6) (q7:A7) (q8:A8) (h:Z6k (Z3 FT d) a np nl df b vs t l v l'=(A1∧(A2∧(A3∧(A4∧(A5∧(A6∧(A7∧(A8∧(v=v∧some l'=some l')))))))))):Ct (Z3 FT (d+1)) a f vs l v l':=Zy ft (ZD ⟨q1,q2,q3,q4,q5,q6,q7,q8,⟨rfl,rfl⟩⟩ h)
theorem ZgK {A1 A2 A3 A4 A5 A6 A7 A8 A9:Prop} {f np nl df b} (ft:FT f=some ⟨np,nl,df,b⟩) {d:Nat} {vs:List MV} {v:MV} (t:List TE) (q1:A1) (q2:A2) (q3:A3) (q4:A4) (q5:A5) (q6:A6) (q7:A7) (q8:A8) (q9:A9) (h:Z1r (Z3 FT d) np nl df b vs t v=(A1∧(A2∧(A3∧(A4∧(A5∧(A6∧(A7∧(A8∧(A9∧(v=v))))))))))):Pct (Z3 FT (d+1)) f vs v:=Za ft (ZD ⟨q1,q2,q3,q4,q5,q6,q7,q8,q9,rfl⟩ h)
theorem Zht {A1 A2 A3 A4 A5 A6 A7 A8 A9:Prop} {f np nl df b} (ft:FT f=some ⟨np,nl,df,b⟩) {d:Nat} {a:Addr} {vs:List MV} {l l':List MV} {v:MV} (t:List TE) (q1:A1) (q2:A2) (q3:A3) (q4:A4) (q5:A5) (q6:A6) (q7:A7) (q8:A8) (q9:A9) (h:Z6k (Z3 FT d) a np nl df b vs t l v l'=(A1∧(A2∧(A3∧(A4∧(A5∧(A6∧(A7∧(A8∧(A9∧(v=v∧some l'=some l'))))))))))):Ct (Z3 FT (d+1)) a f vs l v l':=Zy ft (ZD ⟨q1,q2,q3,q4,q5,q6,q7,q8,q9,⟨rfl,rfl⟩⟩ h)
theorem ZbI {A1 A2 A3 A4 A5 A6 A7 A8 A9 A10:Prop} {f np nl df b} (ft:FT f=some ⟨np,nl,df,b⟩) {d:Nat} {vs:List MV} {v:MV} (t:List TE) (q1:A1) (q2:A2) (q3:A3) (q4:A4) (q5:A5) (q6:A6) (q7:A7) (q8:A8) (q9:A9) (q10:A10) (h:Z1r (Z3 FT d) np nl df b vs t v=(A1∧(A2∧(A3∧(A4∧(A5∧(A6∧(A7∧(A8∧(A9∧(A10∧(v=v)))))))))))):Pct (Z3 FT (d+1)) f vs v:=Za ft (ZD ⟨q1,q2,q3,q4,q5,q6,q7,q8,q9,q10,rfl⟩ h)
theorem Zia {A1 A2 A3 A4 A5 A6 A7 A8 A9 A10:Prop} {f np nl df b} (ft:FT f=some ⟨np,nl,df,b⟩) {d:Nat} {a:Addr} {vs:List MV} {l l':List MV} {v:MV} (t:List TE) (q1:A1) (q2:A2) (q3:A3) (q4:A4) (q5:A5) (q6:A6) (q7:A7) (q8:A8) (q9:A9) (q10:A10) (h:Z6k (Z3 FT d) a np nl df b vs t l v l'=(A1∧(A2∧(A3∧(A4∧(A5∧(A6∧(A7∧(A8∧(A9∧(A10∧(v=v∧some l'=some l')))))))))))):Ct (Z3 FT (d+1)) a f vs l v l':=Zy ft (ZD ⟨q1,q2,q3,q4,q5,q6,q7,q8,q9,q10,⟨rfl,rfl⟩⟩ h)
theorem Zev {A1 A2 A3 A4 A5 A6 A7 A8 A9 A10 A11:Prop} {f np nl df b} (ft:FT f=some ⟨np,nl,df,b⟩) {d:Nat} {vs:List MV} {v:MV} (t:List TE) (q1:A1) (q2:A2) (q3:A3) (q4:A4) (q5:A5) (q6:A6) (q7:A7) (q8:A8) (q9:A9) (q10:A10) (q11:A11) (h:Z1r (Z3 FT d) np nl df b vs t v=(A1∧(A2∧(A3∧(A4∧(A5∧(A6∧(A7∧(A8∧(A9∧(A10∧(A11∧(v=v))))))))))))):Pct (Z3 FT (d+1)) f vs v:=Za ft (ZD ⟨q1,q2,q3,q4,q5,q6,q7,q8,q9,q10,q11,rfl⟩ h)
theorem Zi9 {A1 A2 A3 A4 A5 A6 A7 A8 A9 A10 A11:Prop} {f np nl df b} (ft:FT f=some ⟨np,nl,df,b⟩) {d:Nat} {a:Addr} {vs:List MV} {l l':List MV} {v:MV} (t:List TE) (q1:A1) (q2:A2) (q3:A3) (q4:A4) (q5:A5) (q6:A6) (q7:A7) (q8:A8) (q9:A9) (q10:A10) (q11:A11) (h:Z6k (Z3 FT d) a np nl df b vs t l v l'=(A1∧(A2∧(A3∧(A4∧(A5∧(A6∧(A7∧(A8∧(A9∧(A10∧(A11∧(v=v∧some l'=some l'))))))))))))):Ct (Z3 FT (d+1)) a f vs l v l':=Zy ft (ZD ⟨q1,q2,q3,q4,q5,q6,q7,q8,q9,q10,q11,⟨rfl,rfl⟩⟩ h)
theorem ZhI {A1 A2 A3 A4 A5 A6 A7 A8 A9 A10 A11 A12:Prop} {f np nl df b} (ft:FT f=some ⟨np,nl,df,b⟩) {d:Nat} {vs:List MV} {v:MV} (t:List TE) (q1:A1) (q2:A2) (q3:A3) (q4:A4) (q5:A5) (q6:A6) (q7:A7) (q8:A8) (q9:A9) (q10:A10) (q11:A11) (q12:A12) (h:Z1r (Z3 FT d) np nl df b vs t v=(A1∧(A2∧(A3∧(A4∧(A5∧(A6∧(A7∧(A8∧(A9∧(A10∧(A11∧(A12∧(v=v)))))))))))))):Pct (Z3 FT (d+1)) f vs v:=Za ft (ZD ⟨q1,q2,q3,q4,q5,q6,q7,q8,q9,q10,q11,q12,rfl⟩ h)
theorem Zi8 {A1 A2 A3 A4 A5 A6 A7 A8 A9 A10 A11 A12:Prop} {f np nl df b} (ft:FT f=some ⟨np,nl,df,b⟩) {d:Nat} {a:Addr} {vs:List MV} {l l':List MV} {v:MV} (t:List TE) (q1:A1) (q2:A2) (q3:A3) (q4:A4) (q5:A5) (q6:A6) (q7:A7) (q8:A8) (q9:A9) (q10:A10) (q11:A11) (q12:A12) (h:Z6k (Z3 FT d) a np nl df b vs t l v l'=(A1∧(A2∧(A3∧(A4∧(A5∧(A6∧(A7∧(A8∧(A9∧(A10∧(A11∧(A12∧(v=v∧some l'=some l')))))))))))))):Ct (Z3 FT (d+1)) a f vs l v l':=Zy ft (ZD ⟨q1,q2,q3,q4,q5,q6,q7,q8,q9,q10,q11,q12,⟨rfl,rfl⟩⟩ h)
end Mine
namespace Mine
noncomputable abbrev E45 (d:Nat) (a:MV) (above:Nat) (t:List Nat):Prop:=Pct (Z3 FT d) 45 [a,.int above,.none,.int 0] (.str t)
noncomputable abbrev L10 (d:Nat) (a:MV) (L:Nat):Prop:=Pct (Z3 FT d) 10 [a] (.int L)
noncomputable abbrev B3 (d f:Nat) (a:MV) (t:List Nat):Prop:=Pct (Z3 FT d) f [a,.none,.int 0] (.str t)
noncomputable def grpTab:List (List Nat×Nat):=[([98,105,110],38),([97,110,100],38),([111,114],38),([99,111,97,108,101,115,99,101],38),([97,115,115,105,103,110],39),([97,115,115,105,103,110,114,101,102],39),([97,115,115,105,103,110,111,112],39),([105,110,99,100,101,99],39),([118,97,114],40),([100,105,109],40),([112,114,111,112],40),([99,97,108,108],41),([109,99,97,108,108],41),
 ([117,110],43),([99,97,115,116],43),([115,105,108,101,110,99,101],43),([112,114,105,110,116],43),([99,108,111,110,101],43),([116,104,114,111,119],43),([121,105,101,108,100],43),([121,105,101,108,100,102,114,111,109],43),([108,105,116],44),([99,111,110,115,116],44),([97,114,114,97,121],44),([108,105,115,116],44),([105,115,115,101,116],44),([101,109,112,116,121],44),([109,97,116,99,104],44),([105,110,115,116,97,110,99,101,111,102],44),([105,102],44)]
structure ROK (R:Z0c) (D:Nat):Prop where
 shp:∀{v L p},R v L p→∃t f r,(t,f)∈grpTab∧v=.tup (.str t::r)
 sm:∀{v L p},R v L p→Sm p
 pr:∀{a above p d},D≤d→Par R a above p→E45 d a above (spell p)
theorem pl {a b:List Nat} {n} (h:(a++b).length≤n):a.length≤n:=by rw [List.length_append] at h;lia
theorem pr' {a b:List Nat} {n} (h:(a++b).length≤n):b.length≤n:=by rw [List.length_append] at h;lia
theorem ZO {p:List Pc} {T:List Nat} (h:Sm p) (e:spell p=T):T.length≤SL:=by
 have:=h.1;rw [e] at this;unfold SL;lia
theorem Zh (p:List Pc):spell (Zm p)=[40]++spell p++[41]:=by
 simp [Zm,Z8,Z0,Pc.sp1,ZW]
theorem Z00 {α:Type} {F G:α→Prop} {tab:List α} (h:tab.map F=tab.map G) {x:α} (hx:x∈tab) (g:G x):F x:=(List.map_inj_left.1 h x hx).symm▸g
theorem c8 {o:List Nat} {l la lb m:Nat} (d:Nat) (h:(o,l,la,lb,m)∈opTab):Pct (Z3 FT (d+1)) 8 [.str o] (.int l):=by
 refine Za ft8 (t:=[]) ?_
 have:=Z00 (tab:=opTab) (F:=fun x=>Z1r (Z3 FT d) 1 4 [] b8 [.str x.1] [] (.int x.2.1)) (G:=fun x=>MV.int x.2.1=.int x.2.1) (by kernel_rfl) h (Eq.refl (MV.int l))
 exact this
theorem c9 {v p} (d:Nat) (h:(v,p)∈litTab):Pct (Z3 FT (d+1)) 9 [v] (.bool false):=
 Za ft9 (t:=[]) (Z00 (x:=(v,p)) (F:=fun x=>Z1r (Z3 FT d) 1 1 [] b9 [x.1] [] (.bool false)) (G:=fun x=>MV.bool false=.bool false) (by kernel_rfl) h rfl)
theorem Z0O {R:Z0c} {D a k p} (o:ROK R D) (h:Par R a k p):∃t f r,(t,f)∈grpTab∧a=.tup (.str t::r):=by
 obtain ⟨L,q,h,_⟩:=h;exact o.shp h
theorem c10 {R:Z0c} {D v L p} (ok:ROK R D) (n:Node R v L p) (d:Nat):L10 (d+2) v L:=by
 induction n with
 |lit h=>exact Z4h Zbc [.v (.bool false)] (c9 d h) (by kernel_rfl)
 | @bin _ l _ _ _ _ _ _ _ h _ _=>exact Z4h Zbc [.v (.int l)] (c8 d h) (by kernel_rfl)
 | @un _ a _ h _=>exact Za Zbc (t:=[]) (Z00 (F:=fun o=>Z1r (Z3 FT (d+1)) 1 5 [] b10 [.tup [.str [117,110],.str o,a]] [] (.int 19)) (G:=fun _=>MV.int 19=.int 19) (by kernel_rfl) h rfl)
 | @pre _ _ a _ h _=>exact Za Zbc (t:=[]) (Z00 (x:=(_,_)) (F:=fun x=>Z1r (Z3 FT (d+1)) 1 5 [] b10 [.tup [.str x.1,a]] [] (.int x.2)) (G:=fun x=>MV.int x.2=.int x.2) (by kernel_rfl) h rfl)
 | @lg _ _ _ _ _ _ a b _ _ h _ _=>exact Za Zbc (t:=[]) (Z00 (x:=(_,_,_,_,_,_)) (F:=fun x=>Z1r (Z3 FT (d+1)) 1 5 [] b10 [.tup [.str x.1,a,b]] [] (.int x.2.2.1)) (G:=fun x=>MV.int x.2.2.1=.int x.2.2.1) (by kernel_rfl) h rfl)
 |yld h=>obtain ⟨t,f,r,-,rfl⟩:=Z0O ok h;exact Z4Y Zbc [] (by kernel_rfl)
 |yldk h h'=>obtain ⟨t,f,r,-,rfl⟩:=Z0O ok h';exact Z4Y Zbc [] (by kernel_rfl)
 |_=>exact Z4Y Zbc [] (by kernel_rfl)
noncomputable def Z3X (b:Bool) (T:List Nat):List Nat:=if b then [40]++T++[41] else T
theorem c45 {t f r T d L above} (h:(t,f)∈grpTab) (hb:B3 d f (.tup (.str t::r)) T) (hl:L10 d (.tup (.str t::r)) L) (hs:([40]++T++[41]).length≤SL):
  E45 (d+1) (.tup (.str t::r)) above (Z3X (decide (L<above)) T):=by
 have ht:∀β,decide (L<above)=β→(MV.bool (decide ((L:Int)<above)))=.bool β:=fun β e=>by rw [←e];simp only [Int.ofNat_lt]
 cases hβ:decide (L<above) with
 |true=>exact Za Zhg (t:=[.v (.str T),.v (.int L),.t true]) (Z00 (x:=(t,f)) (F:=fun x=>Z1r (Z3 FT d) 4 6 [.int 0,.none,.int 0] b45 [.tup (.str x.1::r),.int above,.none,.int 0] [.v (.str T),.v (.int L),.t true] (.str (Z3X true T)))
   (G:=fun x=>B3 d x.2 (.tup (.str x.1::r)) T∧L10 d (.tup (.str x.1::r)) L∧MV.bool (decide ((L:Int)<above))=.bool true∧([40]++T).length≤SL∧([40]++T++[41]).length≤SL∧MV.str (Z3X true T)=.str (Z3X true T)) (by kernel_rfl) h ⟨hb,hl,ht _ hβ,pl hs,hs,rfl⟩)
 |false=>exact Za Zhg (t:=[.v (.str T),.v (.int L),.t false]) (Z00 (x:=(t,f)) (F:=fun x=>Z1r (Z3 FT d) 4 6 [.int 0,.none,.int 0] b45 [.tup (.str x.1::r),.int above,.none,.int 0] [.v (.str T),.v (.int L),.t false] (.str (Z3X false T)))
   (G:=fun x=>B3 d x.2 (.tup (.str x.1::r)) T∧L10 d (.tup (.str x.1::r)) L∧MV.bool (decide ((L:Int)<above))=.bool false∧MV.str (Z3X false T)=.str (Z3X false T)) (by kernel_rfl) h ⟨hb,hl,ht _ hβ,rfl⟩)
end Mine
namespace Mine
theorem c37 {e a b la lb} {o ta tb:List Nat} (ha:E45 e a la ta) (hb:E45 e b lb tb) (h:(ta++[32]++o++[32]++tb).length≤SL):
  Pct (Z3 FT (e+1)) 37 [a,.str o,b,.int la,.int lb,.none,.int 0] (.str (ta++[32]++o++[32]++tb)):=
 ZaX ZiX [.v (.str ta),.v (.str tb)] ha (pl (pl (pl h))) (pl (pl h)) (pl h) hb h (by kernel_rfl)
theorem ZgI (t:List Nat):Z1s t .none (.int 1)=t.take 1:=by
 cases t with
 |nil=>rfl
 |cons a t=>simp [Z1s,pyBnd]
theorem c36 {e a lev} {o t:List Nat} {β:Bool} (ht:E45 e a lev t) (hb:(t.take 1==o)=β) (h:(o++(if β then [32] else [])++t).length≤SL):
  Pct (Z3 FT (e+1)) 36 [.str o,a,.int lev,.none,.int 0] (.str (o++(if β then [32] else [])++t)):=by
 have hc:MV.bool ((Z1s t .none (.int 1)==o) !=false)=.bool β:=by rw [ZgI,hb];cases β<;>rfl
 cases β with
 |true=>exact Z22 ZhY [.v (.str t),.t true] ht hc (pl h) h (by kernel_rfl)
 |false=>exact Z22 ZhY [.v (.str t),.t false] ht hc (pl h) h (by kernel_rfl)
theorem Zgi:∀s∈txtTab,(s.length≤1000∧1≤4∧2≤4∧([92]==[92,92])=false)∧((Z3a s [92] [92,92]).length≤1000∧1≤4∧2≤4∧([39]==[92,39])=false)∧
   ([39]++esc s).length≤SL∧([39]++esc s++[39]).length≤SL∧MV.str (Pc.text s).sp1=.str (Pc.text s).sp1:=by
 intro s h
 have h1:∀s∈txtTab,s.length≤1000∧(Z3a s [92] [92,92]).length≤1000∧([39]++esc s++[39]).length≤SL:=by decide+kernel
 obtain ⟨a,b,c⟩:=h1 s h
 exact ⟨⟨a,by decide,by decide,rfl⟩,⟨b,by decide,by decide,rfl⟩,pl c,c,rfl⟩
theorem c12 {s:List Nat} (d:Nat) (h:s∈txtTab):Pct (Z3 FT (d+1)) 12 [.str s] (.str (Pc.text s).sp1):=by
 refine Za Zj4 (t:=[]) ?_
 have:=Z00 (tab:=txtTab) (F:=fun s=>Z1r (Z3 FT d) 1 2 [] b12 [.str s] [] (.str (Pc.text s).sp1))
  (G:=fun s=>(s.length≤1000∧1≤4∧2≤4∧([92]==[92,92])=false)∧((Z3a s [92] [92,92]).length≤1000∧1≤4∧2≤4∧([39]==[92,39])=false)∧
   ([39]++esc s).length≤SL∧([39]++esc s++[39]).length≤SL∧MV.str (Pc.text s).sp1=.str (Pc.text s).sp1) (by kernel_rfl) h (Zgi s h)
 exact this
noncomputable def okI (v:MV):Prop:=match v with| .int i=>i.natAbs<2^64|_=>False
noncomputable def Zir (v:MV):Bool:=match v with| .int i=>decide (i.natAbs<2^64)|_=>false
theorem c13 {v:MV} {p:Pc} (d:Nat) (h:(v,p)∈litTab):Pct (Z3 FT (d+2)) 13 [v] (.str p.sp1):=by
 have h:=List.mem_append.1 h
 rw [List.mem_append] at h
 rcases h with h|h|h
 ·refine Za Zhj (t:=[]) ?_
  have h2:okI v:=by
   have:=Z00 (tab:=litTab1) (F:=fun x=>Zir x.1=true) (G:=fun x=>true=true) (by kernel_rfl) h rfl
   cases v<;>first|(cases this;done)|exact (of_decide_eq_true (show decide (Int.natAbs _<2^64)=true from this):Int.natAbs _<2^64)
  have:=Z00 (tab:=litTab1) (F:=fun x=>Z1r (Z3 FT (d+1)) 1 1 [] b13 [x.1] [] (.str x.2.sp1))
   (G:=fun x=>okI x.1∧MV.str x.2.sp1=.str x.2.sp1) (by kernel_rfl) h ⟨h2,rfl⟩
  exact this
 ·refine Za Zhj (t:=[]) ?_
  have:=Z00 (tab:=litTab2) (F:=fun x=>Z1r (Z3 FT (d+1)) 1 1 [] b13 [x.1] [] (.str x.2.sp1))
   (G:=fun x=>MV.str x.2.sp1=.str x.2.sp1) (by kernel_rfl) h rfl
  exact this
 ·obtain ⟨s,hs,e⟩:=List.mem_map.1 h
  cases e
  exact Z4h Zhj [.v (.str (Pc.text s).sp1)] (c12 d hs) (by kernel_rfl)
theorem c14 {n:List Nat} {p:List Pc} (d:Nat) (h:(n,p)∈cstTab):Pct (Z3 FT (d+1)) 14 [.str n] (.str (spell p)):=by
 refine Za Zj3 (t:=[]) ?_
 have hs:∀n∈cst1++cst2,Ze n=true∧n.length≤5592405∧(n++[47,42,42,47]).length≤SL:=by decide+kernel
 rcases List.mem_append.1 h with h|h<;>obtain ⟨m,hm,e⟩:=List.mem_map.1 h<;>cases e
 ·obtain ⟨h1,h2,h3⟩:=hs _ (List.mem_append_left _ hm)
  have:=Z00 (tab:=cst1) (F:=fun n=>Z1r (Z3 FT d) 1 2 [] b14 [.str n] [] (.str (spell [.word n])))
   (G:=fun n=>(Ze n=true∧n.length≤5592405)∧MV.str (spell [.word n])=.str (spell [.word n])) (by kernel_rfl) hm ⟨⟨h1,h2⟩,rfl⟩
  exact this
 ·obtain ⟨h1,h2,h3⟩:=hs _ (List.mem_append_right _ hm)
  have:=Z00 (tab:=cst2) (F:=fun n=>Z1r (Z3 FT d) 1 2 [] b14 [.str n] [] (.str (spell [.word n,.cmt])))
   (G:=fun n=>(Ze n=true∧n.length≤5592405)∧(n++[47,42,42,47]).length≤SL∧MV.str (spell [.word n,.cmt])=.str (spell [.word n,.cmt])) (by kernel_rfl) hm ⟨⟨h1,h2⟩,h3,rfl⟩
  exact this
end Mine
namespace Mine
theorem asc {s:List Nat} (h:Ze s=true) {i:Nat} {c:Nat} (e:s[i]? =some c):c∈List.range 128:=
 List.mem_range.2 (of_decide_eq_true (List.all_eq_true.1 h c (List.mem_of_getElem? e)))
theorem c4 {c:Nat} (h:c∈List.range 128) (d:Nat):Pct (Z3 FT (d+1)) 4 [.str [c]] (.bool (isNs c)):=by
 refine Za ft4 (t:=[]) ?_
 have:=Z00 (tab:=List.range 128) (F:=fun c=>Z1r (Z3 FT d) 1 1 [] b4 [.str [c]] [] (.bool (isNs c))) (G:=fun c=>MV.bool (isNs c)=.bool (isNs c)) (by kernel_rfl) h rfl
 exact this
theorem c5 {c:Nat} (h:c∈List.range 128) (d:Nat):Pct (Z3 FT (d+2)) 5 [.str [c]] (.bool (isNm c)):=by
 refine Za ft5 (t:=[.v (.bool (isNs c))]) ?_
 have:=Z00 (tab:=List.range 128) (F:=fun c=>Z1r (Z3 FT (d+1)) 1 1 [] b5 [.str [c]] [.v (.bool (isNs c))] (.bool (isNm c)))
  (G:=fun c=>Pct (Z3 FT (d+1)) 4 [.str [c]] (.bool (isNs c))∧MV.bool (isNm c)=.bool (isNm c)) (by kernel_rfl) h ⟨c4 h d,rfl⟩
 exact this
theorem ai2 {A B:Prop} (a:A) (b:B):A∧B:=⟨a,b⟩
theorem ai3 {A B C:Prop} (a:A) (b:B) (c:C):A∧B∧C:=⟨a,b,c⟩
theorem ai4 {A B C D:Prop} (a:A) (b:B) (c:C) (d:D):A∧B∧C∧D:=⟨a,b,c,d⟩
theorem ai5 {A B C D E:Prop} (a:A) (b:B) (c:C) (d:D) (e:E):A∧B∧C∧D∧E:=⟨a,b,c,d,e⟩
theorem ai6 {A B C D E F:Prop} (a:A) (b:B) (c:C) (d:D) (e:E) (f:F):A∧B∧C∧D∧E∧F:=⟨a,b,c,d,e,f⟩
theorem ai7 {A B C D E F G:Prop} (a:A) (b:B) (c:C) (d:D) (e:E) (f:F) (g:G):A∧B∧C∧D∧E∧F∧G:=⟨a,b,c,d,e,f,g⟩
theorem ai8 {A B C D E F G H:Prop} (a:A) (b:B) (c:C) (d:D) (e:E) (f:F) (g:G) (h:H):A∧B∧C∧D∧E∧F∧G∧H:=⟨a,b,c,d,e,f,g,h⟩
theorem Zgu {C:Zv} {t:CE} {b:List CS} {mk:Nat→Loc} {j:Nat} (hT:∀i,i<j→∀σ (Q:ZT),Q (.bool true) σ→wpE C t (mk i) σ Q)
  (hE:∀σ (Q:ZT),Q (.bool false) σ→wpE C t (mk j) σ Q) (hb:∀i,i<j→∀σ (Q:Zn),Q .next (mk (i+1)) σ→wpSs C b (mk i) σ Q) {i:Nat} (hi:i≤j)
  {σ:Z4} {Q:Zn} (q:Q .next (mk j) σ):wpS C (.while t b) (mk i) σ Q:=by
 unfold wpS
 refine ⟨fun n ρ σ'=>∃k,k≤j∧ρ=mk k∧σ'=σ∧n=j-k,⟨_,i,hi,rfl,rfl,rfl⟩,?_⟩
 rintro n ρ _ ⟨k,hk,rfl,rfl,rfl⟩
 by_cases h:k<j
 ·refine hT k h _ _ (hb k h _ _ ⟨j-(k+1),Nat.sub_lt_sub_left h (Nat.lt_succ_self k),k+1,h,rfl,rfl,rfl⟩)
 ·obtain rfl:k=j:=Nat.le_antisymm hk (Nat.not_lt.1 h)
  exact hE _ _ q
theorem Z91 (f:Nat→Bool) (s:List Nat):runLen f s≤s.length:=(List.takeWhile_sublist f).length_le
theorem Z3F {f:Nat→Bool}:∀{s:List Nat} {i:Nat},i<runLen f s→∃c,s[i]? =some c∧f c=true
 |[],i,h=>by cases h
 |a::s,i,h=>by
  unfold runLen at h
  rw [List.takeWhile_cons] at h
  cases ha:f a with
  |false=>rw [ha] at h;cases h
  |true=>
   rw [ha] at h
   cases i with
   |zero=>exact ⟨a,rfl,ha⟩
   |succ i=>exact Z3F (s:=s) (Nat.lt_of_succ_lt_succ h)
theorem Z2v {f:Nat→Bool}:∀{s:List Nat} {c:Nat},s[runLen f s]? =some c→f c=false
 |[],c,h=>by cases h
 |a::s,c,h=>by
  unfold runLen at h
  rw [List.takeWhile_cons] at h
  cases ha:f a with
  |true=>rw [ha] at h;exact Z2v (s:=s) (by simpa [runLen] using h)
  |false=>rw [ha] at h;simp at h;rw [←h];exact ha
theorem Z0E {C:Zv} {e:CE} {ρ:Loc} (t:List TE) {v:MV} {A:Prop} (x:A) (h:evE C ⟨0,1,Nat.zero_ne_one⟩ e ρ ⟨none,none⟩ t (fun w _ _=>w=v)=A) {σ:Z4} {Q:ZT} (q:Q v σ):wpE C e ρ σ Q:=
 Zj e ρ ⟨none,none⟩ t _ σ Q (h.symm▸x) ⟨trivial,trivial⟩ fun w κ' t' e k=>by
  obtain ⟨c1,c2⟩:=κ'
  obtain ⟨e1,e2⟩:=e
  cases c1<;>cases c2<;>first|(cases e1;done)|(cases e2;done)|(cases k;exact q)
theorem Z5J {C:Zv} {b:List CS} {ρ:Loc} (t:List TE) {ρ':Loc} {A:Prop} (x:A) (h:Z3h C ⟨0,1,Nat.zero_ne_one⟩ b ρ ⟨none,none⟩ t (fun o ρ1 _ _=>o=.next∧ρ1=ρ')=A) {σ:Z4} {Q:Zn} (q:Q .next ρ' σ):wpSs C b ρ σ Q:=
 Zl b ρ ⟨none,none⟩ t _ σ Q (h.symm▸x) ⟨trivial,trivial⟩ fun o ρ1 κ' t' e k=>by
  obtain ⟨c1,c2⟩:=κ'
  obtain ⟨e1,e2⟩:=e
  cases c1<;>cases c2<;>first|(cases e1;done)|(cases e2;done)|(obtain ⟨rfl,rfl⟩:=k;exact q)
theorem ZaU {C:Zv} {b:List CS} {ρ:Loc} (t:List TE) {v:MV} {A:Prop} (x:A) (h:Z3h C ⟨0,1,Nat.zero_ne_one⟩ b ρ ⟨none,none⟩ t (fun o _ _ _=>o=.ret v)=A) {σ:Z4} {Q:Zn} (q:∀ρ,Q (.ret v) ρ σ):wpSs C b ρ σ Q:=
 Zl b ρ ⟨none,none⟩ t _ σ Q (h.symm▸x) ⟨trivial,trivial⟩ fun o ρ1 κ' t' e k=>by
  obtain ⟨c1,c2⟩:=κ'
  obtain ⟨e1,e2⟩:=e
  cases c1<;>cases c2<;>first|(cases e1;done)|(cases e2;done)|(cases k;exact q ρ1)
theorem getT {s:List Nat} {i:Nat} {c:Nat} (h:s[i]? =some c):PrT .getitem [.str s,.int i] (.str [c]):=Z5K (w:=.str [c]) (by
 show orE (orE none (orE none (b0 (s[i]?) fun v=>ok (.str [v])))) none=_
 rw [h];rfl) rfl
theorem ltT {i n:Nat} (h:i<n):MV.bool (decide ((i:Int)<(n:Int)))=.bool true:=congrArg MV.bool (decide_eq_true (Int.ofNat_lt.2 h))
theorem ltF {i n:Nat} (h:¬i<n):MV.bool (decide ((i:Int)<(n:Int)))=.bool false:=congrArg MV.bool (decide_eq_false fun x=>h (Int.ofNat_lt.1 x))
theorem c6 {s:List Nat} (ha:Ze s=true) (d:Nat):Pct (Z3 FT (d+3)) 6 [.str s,.int 0] (.int (runLen isNm s)):=by
 intro σ Q q
 refine Z03 ft6 rfl ?_
 unfold b6 wpSs
 refine Zgu (mk:=fun i=>[some (.str s),some (.int (i:Nat))]) (j:=runLen isNm s) (fun i hi σ Q q=>?_) (fun σ Q q=>?_) (fun i hi σ Q q=>?_) (i:=0) (Nat.zero_le _) ?_
 ·obtain ⟨c,hc,hn⟩:=Z3F hi
  have h5:=c5 (asc ha hc) d
  rw [hn] at h5
  have hl:i<s.length:=Nat.lt_of_lt_of_le hi (Z91 _ _)
  exact Z0E [.t true,.g (.str [c]),.v (.bool true)] (ai4 (ltT hl) (getT hc) h5 (Eq.refl (MV.bool true))) (by kernel_rfl) q
 ·by_cases hl:runLen isNm s<s.length
  ·obtain ⟨c,hc⟩:∃c,s[runLen isNm s]? =some c:=⟨_,List.getElem?_eq_getElem hl⟩
   have h5:=c5 (asc ha hc) d
   rw [Z2v hc] at h5
   exact Z0E [.t true,.g (.str [c]),.v (.bool false)] (ai4 (ltT hl) (getT hc) h5 (Eq.refl (MV.bool false))) (by kernel_rfl) q
  ·exact Z0E [.t false] (ai2 (ltF hl) (Eq.refl (MV.bool false))) (by kernel_rfl) q
 ·exact Z5J [] (ai2 (Eq.refl Out.next) (Eq.refl [some (MV.str s),some (.int ((i+1:Nat):Int))])) (by kernel_rfl) q
 ·exact ZaU [] (Eq.refl (Out.ret (.int (runLen isNm s:Nat)))) (by kernel_rfl) fun ρ=>⟨σ,Z0Z,q⟩
theorem ZeQ:∀n∈memNames,Ze n=true∧runLen isNm n=1:=by decide+kernel
theorem c15 {n:List Nat} (h:n∈memNames) (d:Nat):Pct (Z3 FT (d+4)) 15 [.str n] (.bool true):=by
 have h6:=c6 (ZeQ n h).1 d
 rw [(ZeQ n h).2] at h6
 have h4:Pct (Z3 FT (d+3)) 4 [.str (n.take 1)] (.bool true):=by
  refine Za ft4 (t:=[]) ?_
  have:=Z00 (tab:=memNames) (F:=fun n=>Z1r (Z3 FT (d+2)) 1 1 [] b4 [.str (n.take 1)] [] (.bool true)) (G:=fun c=>MV.bool true=.bool true) (by kernel_rfl) h rfl
  exact this
 refine Za Zi1 (t:=[.v (.bool true),.v (.int 1)]) ?_
 have:=Z00 (tab:=memNames) (F:=fun n=>Z1r (Z3 FT (d+3)) 1 1 [] b15 [.str n] [.v (.bool true),.v (.int 1)] (.bool true))
  (G:=fun n=>Pct (Z3 FT (d+3)) 4 [.str (n.take 1)] (.bool true)∧Pct (Z3 FT (d+3)) 6 [.str n,.int 0] (.int 1)∧MV.bool true=.bool true) (by kernel_rfl) h ⟨h4,h6,rfl⟩
 exact this
theorem Zjd (d:Nat):Pct (Z3 FT (d+4)) 15 [.str [97,32,98]] (.bool false):=by
 have h6:=c6 (s:=[97,32,98]) rfl d
 rw [show runLen isNm [97,32,98]=1 by decide+kernel] at h6
 exact Z23 Zi1 [.v (.bool true),.v (.int 1)] (c4 (c:=97) (by decide+kernel) (d+2)) h6 (by kernel_rfl)
theorem Z2n (t:List Nat) (l:List (List Nat)):(l.map MV.str).any (MV.str t).eqv=l.contains t:=by
 rw [List.contains_eq_any_beq,List.any_map];rfl
noncomputable def Z8r:List (List Nat):=[[118,97,114],[118,97,114,118,97,114],[100,105,109],[112,114,111,112],[115,112,114,111,112],[99,99,111,110,115,116],[99,97,108,108],[109,99,97,108,108],[115,99,97,108,108]]
theorem Zc4:∀x∈grpTab,Z8r.contains x.1=[[118,97,114],[100,105,109],[112,114,111,112],[99,97,108,108],[109,99,97,108,108]].contains x.1∧(x.1==[110,97,109,101])=false:=by decide+kernel
theorem c18 {R:Z0c} {D o p e} (ok:ROK R D) (h:Z1E R o p) (he:D≤e):B3 (e+1) 18 o (spell p):=by
 obtain ⟨L,q,h,rfl⟩:=h
 have h45:=ok.pr he ⟨L,q,h,rfl⟩ (above:=0)
 rw [if_neg (Nat.not_lt_zero L)] at h45
 have hs:=(ok.sm h).1
 obtain ⟨t,f,r,ht,rfl⟩:=ok.shp h
 have hb:=(Zc4 _ ht).1
 have hk:Z01 (.tup (.str t::r))=[[118,97,114],[100,105,109],[112,114,111,112],[99,97,108,108],[109,99,97,108,108]].contains t:=rfl
 rw [hk,←hb]
 cases hβ:Z8r.contains t with
 |true=>
  have e1:MV.bool ((Z8r.map MV.str).any (MV.str t).eqv)=.bool true:=by
   rw [←hβ];exact congrArg MV.bool (Z2n t Z8r)
  exact Z23 Zi0 [.v (.str (spell q)),.t true] h45 e1 (by kernel_rfl)
 |false=>
  have e1:MV.bool ((Z8r.map MV.str).any (MV.str t).eqv)=.bool false:=by
   rw [←hβ];exact congrArg MV.bool (Z2n t Z8r)
  have e2:spell (if false=true then q else Zm q)=[40]++spell q++[41]:=Zh q
  rw [e2]
  have hl:([40]++spell q++[41]).length≤SL:=by simp only [List.length_append,List.length_cons,List.length_nil,SL];lia
  exact Z22 Zi0 [.v (.str (spell q)),.t false] h45 e1 (pl hl) hl (by kernel_rfl)
end Mine
namespace Mine
theorem Z3x {R:Z0c} {D c L p} (ok:ROK R D) (h:R c L p):∃t f r,(t,f)∈grpTab∧c=.tup (.str t::r)∧MV.bool ((t==[110,97,109,101]) !=false)=.bool false:=by
 obtain ⟨t,f,r,ht,rfl⟩:=ok.shp h
 exact ⟨t,f,r,ht,rfl,by rw [(Zc4 _ ht).2];rfl⟩
theorem Z4W {R:Z0c} {D c L p e} (ok:ROK R D) (h:R c L p) (he:D≤e):E45 e c 0 (spell p):=by
 have h45:=ok.pr he ⟨L,p,h,rfl⟩ (above:=0)
 rwa [if_neg (Nat.not_lt_zero L)] at h45
theorem neF (b:Bool):MV.bool (b !=false)=.bool b:=by cases b<;>rfl
theorem Z4S {p:List Pc} (h:Sm p):([40]++spell p++[41]).length≤SL:=by
 have:=h.1;simp only [List.length_append,List.length_cons,List.length_nil,SL];omega
noncomputable def Zjn (c:MV) (pc:List Pc):List Pc:=if tagOf c=[118,97,114] then pc else Zm pc
theorem c20 {R:Z0c} {D c L p e} (ok:ROK R D) (h:R c L p) (he:D≤e):B3 (e+1) 20 c (spell (if tagOf c=[118,97,114] then p else Zm p)):=by
 have h45:=Z4W ok h he
 have hl:=Z4S (ok.sm h)
 obtain ⟨t,f,r,ht,rfl,e1⟩:=Z3x ok h
 have hk:tagOf (.tup (.str t::r))=t:=rfl
 rw [hk]
 by_cases hv:t=[118,97,114]
 ·subst hv
  exact Z23 Zhi [.t false,.v (.str (spell p))] e1 h45 (by kernel_rfl)
 ·rw [if_neg hv,Zh]
  have e2:MV.bool ((t==[118,97,114]) !=false)=.bool false:=by rw [neF,beq_eq_false_iff_ne.2 hv]
  exact Zeu Zhi [.t false,.v (.str (spell p)),.t false] e1 h45 e2 (pl hl) hl (by kernel_rfl)
theorem Zjc {c:MV} {p:List Pc} (h:(c,p)∈clsTab) (d:Nat):B3 (d+1) 20 c (spell p):=by
 refine Za Zhi (t:=[]) ?_
 have:=Z00 (tab:=clsTab) (F:=fun x=>Z1r (Z3 FT d) 3 4 [] b20 [x.1,.none,.int 0] [] (.str (spell x.2))) (G:=fun x=>MV.str (spell x.2)=.str (spell x.2)) (by kernel_rfl) h rfl
 exact this
theorem Z16 (p:List Pc):spell (Z2l p)=[123]++spell p++[125]:=by
 simp [Z2l,Z8,Z0,Pc.sp1,ZW]
theorem c21 {R:Z0c} {D m p e} (ok:ROK R D) (h:Member R m p) (he:D≤e) (he4:4≤e):B3 (e+1) 21 m (spell p):=by
 obtain ⟨d,rfl⟩:∃d,e=d+4:=⟨e-4,by omega⟩
 induction h with
 | @plain n h=>
  have:B3 (d+4+1) 21 (.tup [.str [108,105,116],.str n]) n:=Z4h Zhh [.v (.bool true)] (c15 h d) (by kernel_rfl)
  rwa [show spell [.word n]=n from List.append_nil n]
 | @text n hn h0 h=>
  subst h0
  have hl:=Z4S (ok.sm h)
  rw [Z16]
  have hl2:([123]++spell [.text [97,32,98]]++[125]).length≤SL:=hl
  exact Z22 Zhh [.v (.bool false),.v (.str (spell [.text [97,32,98]]))] (Zjd d) (Z4W ok h he) (pl hl2) hl2 (by kernel_rfl)
 | @var n hn h=>exact Z4h Zhh [.v (.str (spell [.var n]))] (Z4W ok h he) (by kernel_rfl)
noncomputable def yparT (b:Bool) (t:List Nat):List Nat:=if b then [40]++t++[41] else t
theorem Z4q (p:List Pc):spell (Z1k p)=yparT (fromT (spell p)) (spell p):=by
 unfold Z1k yparT
 cases fromT (spell p) with
 |true=>exact Zh p
 |false=>rfl
end Mine
namespace Mine
theorem i4 (k:Nat):MV.bool (((k:Int)==4) !=false)=.bool (k==4):=by
 rw [neF];congr 1
 rw [Bool.eq_iff_iff,beq_iff_eq,beq_iff_eq];lia
theorem Z7b {b:Bool} {t:List Nat}:(yparT b t).length≤t.length+2:=by
 cases b<;>simp [yparT]
noncomputable abbrev tn (t:List Nat) (r:List MV):MV:=.tup (.str t::r)
theorem c42 {e ta:_} {T:List Nat} {ra:List MV} (h:E45 (e+3) (tn ta ra) 4 T) (hA:Ze T=true∧T.length≤5592405):
  B3 (e+4) 42 (tn [121,105,101,108,100] [.none,tn ta ra]) ([121,105,101,108,100,32]++yparT (fromT T) T++[]):=by
 have h6:=c6 hA.1 e
 have hy:= @Z7b (fromT T) T
 have hl:([121,105,101,108,100,32]++yparT (fromT T) T++[]).length≤SL:=by simp only [List.length_append,List.length_cons,List.length_nil,SL];lia
 have hp:([40]++T++[41]).length≤SL:=by simp only [List.length_append,List.length_cons,List.length_nil,SL];lia
 have e2:=i4 (runLen isNm T)
 have e1:MV.bool ([102,114,111,109].isPrefixOf (lowerL T))=.bool ([102,114,111,109].isPrefixOf (lowerL T)):=rfl
 unfold fromT at hl ⊢
 cases h1:[102,114,111,109].isPrefixOf (lowerL T) with
 |false=>
  rw [h1] at hl e1
  exact ZaX Zdi [.v (.str T),.t true,.t false] h (Eq.refl (MV.bool true)) hA (h1▸rfl:MV.bool ([102,114,111,109].isPrefixOf (lowerL T))=.bool false) (pl hl) hl (by kernel_rfl)
 |true=>
  have e1:MV.bool ([102,114,111,109].isPrefixOf (lowerL T))=.bool true:=by rw [h1]
  rw [h1] at hl
  cases h2:(runLen isNm T==4) with
  |false=>
   rw [h2] at hl e2
   exact Zes Zdi [.v (.str T),.t true,.t true,.v (.int (runLen isNm T:Nat)),.t false] h (Eq.refl (MV.bool true)) hA e1 h6 e2 (pl hl) hl (by kernel_rfl)
  |true=>
   rw [h2] at hl e2
   exact ZbI Zdi [.v (.str T),.t true,.t true,.v (.int (runLen isNm T:Nat)),.t true] h (Eq.refl (MV.bool true)) hA e1 h6 e2 (pl hp) hp (pl hl) hl (by kernel_rfl)
theorem Zjb {e ta tk:_} {T U:List Nat} {ra rk:List MV} (hU:E45 (e+3) (tn ta ra) 4 U) (h:E45 (e+3) (tn tk rk) 5 T) (hA:Ze T=true∧T.length≤5592405) (hB:U.length≤5592405):
  B3 (e+4) 42 (tn [121,105,101,108,100] [tn tk rk,tn ta ra]) ([121,105,101,108,100,32]++yparT (fromT T) T++([32,61,62,32]++U)):=by
 have h6:=c6 hA.1 e
 have hy:= @Z7b (fromT T) T
 have hl:([121,105,101,108,100,32]++yparT (fromT T) T++([32,61,62,32]++U)).length≤SL:=by simp only [List.length_append,List.length_cons,List.length_nil,SL];lia
 have hp:([40]++T++[41]).length≤SL:=by simp only [List.length_append,List.length_cons,List.length_nil,SL];lia
 have e2:=i4 (runLen isNm T)
 have hu:=pr' hl
 unfold fromT at hl ⊢
 cases h1:[102,114,111,109].isPrefixOf (lowerL T) with
 |false=>
  rw [h1] at hl
  exact Zet Zdi [.v (.str U),.v (.str T),.t false] hU h hA (h1▸rfl:MV.bool ([102,114,111,109].isPrefixOf (lowerL T))=.bool false) (pl hl) hu hl (by kernel_rfl)
 |true=>
  have e1:MV.bool ([102,114,111,109].isPrefixOf (lowerL T))=.bool true:=by rw [h1]
  rw [h1] at hl
  cases h2:(runLen isNm T==4) with
  |false=>
   rw [h2] at hl e2
   exact ZgK Zdi [.v (.str U),.v (.str T),.t true,.v (.int (runLen isNm T:Nat)),.t false] hU h hA e1 h6 e2 (pl hl) hu hl (by kernel_rfl)
  |true=>
   rw [h2] at hl e2
   exact Zev Zdi [.v (.str U),.v (.str T),.t true,.v (.int (runLen isNm T:Nat)),.t true] hU h hA e1 h6 e2 (pl hp) hp (pl hl) hu hl (by kernel_rfl)
theorem Zja (d:Nat):B3 (d+1) 42 (tn [121,105,101,108,100] [.none,.none]) [121,105,101,108,100]:=Z4Y Zdi [] (by kernel_rfl)
end Mine
namespace Mine
inductive All2 {α β:Type} (P:α→β→Prop):List α→List β→Prop
 |nil:All2 P [] []
 |cons {a b l m}:P a b→All2 P l m→All2 P (a::l) (b::m)
theorem All2.len {α β:Type} {P:α→β→Prop} {l m} (h:All2 P l m):l.length=m.length:=by
 induction h with
 |nil=>rfl
 |cons _ _ ih=>exact congrArg Nat.succ ih
theorem Z0Q {C:Zv} {i:Nat} {rest:List CS} {ρ:Loc} {σ:Z4} {Q:Zn} (h:∀b,σ b=none→wpSs C rest (ρ.set i (some (.lst b))) (upd σ b []) Q):wpSs C (.assign i (.pr .mkList [])::rest) ρ σ Q:=by
 unfold wpSs wpS wpE wpEs
 exact .inr h
noncomputable abbrev sB (b:Addr):St2:=⟨b+1,b,Nat.succ_ne_self b⟩
theorem Zhv {C:Zv} {s:St2} {body:List CS} {ρ:Loc} {κ:Cs} (t:List TE) {ρ':Loc} {κ':Cs} {A:Prop} (x:A) (h:Z3h C s body ρ κ t (fun o ρ1 κ1 _=>o=.next∧ρ1=ρ'∧κ1=κ')=A)
  {σ:Z4} {Q:Zn} (hs:At s κ σ) (q:Q .next ρ' (put s κ' σ)):wpSs C body ρ σ Q:=
 Zl body ρ κ t _ σ Q (h.symm▸x) hs fun o ρ1 κ1 t' e k=>by obtain ⟨rfl,rfl,rfl⟩:=k;exact q
theorem Z45 {C:Zv} {b:Addr} {body:List CS} {ρ:Loc} {l:List MV} (t:List TE) {v:MV} {A:Prop} (x:A) (h:Z3h C (sB b) body ρ ⟨none,some l⟩ t (fun o _ _ _=>ZbJ o=v)=A)
  {σ0:Z4} (hb:σ0 b=none) {Q:ZT} (q:Q v σ0):wpSs C body ρ (upd σ0 b l) fun o _ σ'=>∃σ'',ZG σ'' σ'∧Q (ZbJ o) σ'':=
 Zl (s:=sB b) body ρ ⟨none,some l⟩ t _ _ _ (h.symm▸x) ⟨trivial,Z9 σ0 b l⟩ fun o ρ1 κ1 t' e k=>by
  obtain ⟨c1,c2⟩:=κ1
  obtain ⟨e1,e2⟩:=e
  cases c1 with
  |some _=>cases e1
  |none=>
   cases c2 with
   |none=>cases e2
   |some m=>
    refine ⟨σ0,?_,by rw [k];exact q⟩
    show ZG σ0 (upd (upd σ0 b l) b m)
    rw [Z0A]
    exact Ze1 Z0Z hb
theorem Z3R {f:MV→Loc→Z4→Zn→Prop} {b:Addr} {σ0:Z4} {J:Loc→Prop} {items outs:List MV}
  (h:All2 (fun u x=>∀ρ acc (Q:Zn),J ρ→acc.length<SL→(∀ρ',J ρ'→Q .next ρ' (upd σ0 b (acc++[x])))→f u ρ (upd σ0 b acc) Q) items outs):
  ∀{acc:List MV} {ρ:Loc} {Q:Zn},J ρ→acc.length+items.length≤SL→(∀ρ',J ρ'→Q .next ρ' (upd σ0 b (acc++outs)))→wpFor f items ρ (upd σ0 b acc) Q:=by
 induction h with
 |nil=>
  intro acc ρ Q hJ hl q
  have:=q ρ hJ
  rwa [List.append_nil] at this
 | @cons u x l m h hr ih=>
  intro acc ρ Q hJ hl q
  have hl:acc.length+(l.length+1)≤SL:=hl
  refine h ρ acc _ hJ (by lia) fun ρ' hJ'=>?_
  refine ih hJ' (by rw [List.length_append];show acc.length+1+l.length≤SL;lia) fun ρ2 hJ2=>?_
  have:=q ρ2 hJ2
  rwa [List.append_assoc]
theorem Z6X {C:Zv} {x:Nat} {it:CE} {body rest:List CS} {ρ:Loc} {σ:Z4} {Q:Zn} {v:MV} {items:List MV} (hi:iterOf v=some items)
  (h:evE C ⟨0,1,Nat.zero_ne_one⟩ it ρ ⟨none,none⟩ [] (fun w _ _=>w=v)=(v=v))
  (k:wpFor (fun u ρ1 σ1 Q1=>wpSs C body (ρ1.set x (some u)) σ1 Q1) items ρ σ fun o ρ' σ'=>match o with| .next=>wpSs C rest ρ' σ' Q| .ret z=>Q (.ret z) ρ' σ'):wpSs C (.for x it body::rest) ρ σ Q:=by
 unfold wpSs wpS
 refine Z0E [] (A:=v=v) rfl h ?_
 rw [hi];exact k
theorem Z5a {C:Zv} {xs:List Nat} {it:CE} {body rest:List CS} {ρ:Loc} {σ:Z4} {Q:Zn} {v:MV} {items:List MV} (hi:iterOf v=some items)
  (h:evE C ⟨0,1,Nat.zero_ne_one⟩ it ρ ⟨none,none⟩ [] (fun w _ _=>w=v)=(v=v))
  (k:wpFor (fun u ρ1 σ1 Q1=>match u with| .tup l=>l.length=xs.length∧wpSs C body (setMany ρ1 xs l) σ1 Q1|_=>False) items ρ σ fun o ρ' σ'=>match o with| .next=>wpSs C rest ρ' σ' Q| .ret z=>Q (.ret z) ρ' σ'):wpSs C (.forT xs it body::rest) ρ σ Q:=by
 unfold wpSs wpS
 refine Z0E [] (A:=v=v) rfl h ?_
 rw [hi];exact k
noncomputable abbrev txs (ps:List (List Pc)):List MV:=ps.map fun p=>MV.str (spell p)
theorem Z0h:∀ps,Z1R (txs ps)=some (ps.map spell)
 |[]=>rfl
 |p::ps=>by
  show (Z1R (txs ps)).map _=_
  rw [Z0h ps];rfl
theorem ZM:∀ps,joinL [44,32] (ps.map spell)=spell (Z2 ps)
 |[]=>rfl
 |[p]=>rfl
 |p::q::ps=>by
  show spell p++[44,32]++joinL [44,32] ((q::ps).map spell)=_
  rw [ZM (q::ps)]
  show _=spell (p++[.op [44],.sp]++Z2 (q::ps))
  rw [Z0,Z0];rfl
theorem ZR:∀ps:List (List Pc),ps.length≤(spell (Z2 ps)).length+1
 |[]=>Nat.zero_le _
 |[p]=>Nat.succ_le_succ (Nat.zero_le _)
 |p::q::ps=>by
  have ih:=ZR (q::ps)
  show ps.length+1+1≤(spell (p++[.op [44],.sp]++Z2 (q::ps))).length+1
  rw [Z0,Z0,List.length_append,List.length_append]
  have:(spell [.op [44],.sp]).length=2:=rfl
  simp only [List.length_cons] at ih
  lia
theorem Z68 {C:Zv} {x:Nat} {elt it:CE} {ρ:Loc} {v:MV} {items outs:List MV} (hi:iterOf v=some items) (hl:items.length<SL)
  (h:evE C ⟨0,1,Nat.zero_ne_one⟩ it ρ ⟨none,none⟩ [] (fun w _ _=>w=v)=(v=v))
  (k:All2 (fun u o=>∀σ (Q:ZT),Q o σ→wpE C elt (ρ.set x (some u)) σ Q) items outs):CmT C (.comp x elt it) ρ (.fl outs):=by
 intro σ Q q
 unfold wpE
 refine Z0E [] (A:=v=v) rfl h ?_
 rw [hi]
 refine ⟨hl,fun a ha=>?_⟩
 have go:∀{items outs},All2 (fun u o=>∀σ (Q:ZT),Q o σ→wpE C elt (ρ.set x (some u)) σ Q) items outs→∀acc,Q (.fl (acc++outs)) σ→
   Z2X a (fun u σ'' Q'=>wpE C elt (ρ.set x (some u)) σ'' Q') items acc (upd σ a acc) (fun vs σ''=>Q (.fl vs) (rem σ'' a)):=by
  intro items outs k
  induction k with
  |nil=>
   intro acc q
   rw [List.append_nil] at q
   show Q (.fl acc) (rem (upd σ a acc) a)
   have:rem (upd σ a acc) a=σ:=by
    funext b;unfold rem upd
    by_cases e:b=a
    ·rw [if_pos e,e,ha]
    ·rw [if_neg e,if_neg e]
   rw [this];exact q
  | @cons u o l m hu _ ih=>
   intro acc q
   refine hu _ _ ⟨Z9 σ a acc,?_⟩
   rw [Z0A]
   exact ih (acc++[o]) (by rw [List.append_assoc];exact q)
 exact go k [] q
end Mine
namespace Mine
theorem Z1I {C:Zv} {c:CS} {rest:List CS} {ρ:Loc} (t:List TE) {ρ':Loc} {A:Prop→Prop} (x:∀F:Prop,F→A F) (h:evS C ⟨0,1,Nat.zero_ne_one⟩ c ρ ⟨none,none⟩ t (fun o ρ1 _ _=>o=.next∧ρ1=ρ')=A (Out.next=.next∧ρ'=ρ'))
  {σ:Z4} {Q:Zn} (k:wpSs C rest ρ' σ Q):wpSs C (c::rest) ρ σ Q:=by
 unfold wpSs
 exact Z43 c ρ ⟨none,none⟩ t _ σ _ (ZD (x _ ⟨rfl,rfl⟩) h) ⟨trivial,trivial⟩ fun o ρ1 κ' t' e z=>by
  obtain ⟨c1,c2⟩:=κ'
  obtain ⟨e1,e2⟩:=e
  cases c1<;>cases c2<;>first|(cases e1;done)|(cases e2;done)|(obtain ⟨rfl,rfl⟩:=z;exact k)
theorem Z04 {C:Zv} {b:Addr} {body:List CS} {ρ:Loc} {acc:List MV} {x:MV} {ρ':Loc} (t:List TE) {A:Prop→Prop} (a:∀F:Prop,F→A F)
  (h:Z3h C (sB b) body ρ ⟨none,some acc⟩ t (fun o ρ1 κ1 _=>o=.next∧ρ1=ρ'∧κ1.c2=some (acc++[x]))=A (Out.next=.next∧ρ'=ρ'∧some (acc++[x])=some (acc++[x])))
  {σ0:Z4} {Q:Zn} (q:Q .next ρ' (upd σ0 b (acc++[x]))):wpSs C body ρ (upd σ0 b acc) Q:=
 Zl (s:=sB b) body ρ ⟨none,some acc⟩ t _ _ Q (ZD (a _ ⟨rfl,rfl,rfl⟩) h) ⟨trivial,Z9 σ0 b acc⟩ fun o ρ1 κ1 t' e k=>by
  obtain ⟨c1,c2⟩:=κ1
  obtain ⟨rfl,rfl,k⟩:=k
  obtain ⟨e1,e2⟩:=e
  cases c1 with
  |some _=>cases e1
  |none=>
   cases k
   show Q .next ρ1 (upd (upd σ0 b acc) b (acc++[x]))
   rw [Z0A];exact q
theorem sL {a:List Nat} {p:List Pc} (h:Sm p) (ha:a.length≤1000):(a++spell p).length≤SL:=by
 have:=h.1;rw [List.length_append];unfold SL;lia
theorem Z4w {R:Z0c} {D a k p} (ok:ROK R D) (h:Par R a k p):(spell p).length≤1000002:=by
 obtain ⟨L,q,h,rfl⟩:=h
 have:=(ok.sm h).1
 split
 ·rw [Zh];simp only [List.length_append,List.length_cons,List.length_nil];lia
 ·lia
theorem Z5l {R:Z0c} {as ps} (h:Args R as ps):as.length=ps.length:=by
 induction h<;>first|rfl|exact congrArg Nat.succ (by assumption)
theorem c23 {R:Z0c} {D e:Nat} {as:List MV} {ps:List (List Pc)} (ok:ROK R D) (h:Args R as ps) (hs:(spell (argText ps)).length≤1000000) (he:D≤e):B3 (e+1) 23 (.tup as) (spell (argText ps)):=by
 intro σ0 Q q
 refine Z03 Zj1 rfl ?_
 unfold b23
 refine Z1I [] (ρ':=ZeS 3 8 [] [.tup as,.none,.int 0]) (fun _ f=>f) (by kernel_rfl) (Z0Q fun b hb=>?_)
 have hlen:=Z5l h
 have hs2:([40]++spell (Z2 ps)++[41]).length≤1000000:=by rw [←Zh];exact hs
 have hc:=ZR ps
 have hs3:=hs2
 simp only [List.length_append,List.length_cons,List.length_nil] at hs3
 refine Z5a (v:=.tup as) (items:=as) rfl (by kernel_rfl) (Z3R (outs:=txs ps) (J:=fun ρ=>∃x4 x5 x6 x7,ρ=[some (.tup as),some .none,some (.int 0),some (.lst b),x4,x5,x6,x7]) ?_ ⟨none,none,none,none,rfl⟩ (by show 0+_≤SL;unfold SL;lia) fun ρ' hρ=>?_)
 ·clear q hs hs2 hs3 hc hlen
  generalize MV.tup as=V
  induction h with
  |nil=>exact .nil
  | @val v L p r ps hv _ ih=>
   refine .cons (fun ρ acc Q hJ hl hq=>?_) ih
   obtain ⟨x4,x5,x6,x7,rfl⟩:=hJ
   exact ⟨rfl,Z04 [.v (.str (spell p))] (x:=.str (spell (p))) (ρ':=[some V,some .none,some (.int 0),some (.lst b),some v,some (.bool false),some .none,some (.str [])]) (fun _ f=>ai6 (Eq.refl b) (Z4W ok hv he) (sL (a:=[]) (ok.sm hv) (by decide)) (Eq.refl b) hl f) (by kernel_rfl) (hq _ ⟨_,_,_,_,rfl⟩)⟩
  | @spread v L p r ps hv _ ih=>
   refine .cons (fun ρ acc Q hJ hl hq=>?_) ih
   obtain ⟨x4,x5,x6,x7,rfl⟩:=hJ
   exact ⟨rfl,Z04 [.v (.str (spell p))] (x:=.str (spell (.op [46,46,46]::p))) (ρ':=[some V,some .none,some (.int 0),some (.lst b),some v,some (.bool true),some .none,some (.str [46,46,46])]) (fun _ f=>ai6 (Eq.refl b) (Z4W ok hv he) (sL (a:=[46,46,46]) (ok.sm hv) (by decide)) (Eq.refl b) hl f) (by kernel_rfl) (hq _ ⟨_,_,_,_,rfl⟩)⟩
  | @named v L p r ps hv _ ih=>
   refine .cons (fun ρ acc Q hJ hl hq=>?_) ih
   obtain ⟨x4,x5,x6,x7,rfl⟩:=hJ
   exact ⟨rfl,Z04 [.v (.str (spell p))] (x:=.str (spell (.word [110,97,109,101]:: .op [58]:: .sp::p))) (ρ':=[some V,some .none,some (.int 0),some (.lst b),some v,some (.bool false),some (.str [110,97,109,101]),some (.str [110,97,109,101,58,32])]) (fun _ f=>ai7 (by decide:([110,97,109,101]++[58,32]).length≤SL) (Eq.refl b) (Z4W ok hv he) (sL (a:=[110,97,109,101,58,32]) (ok.sm hv) (by decide)) (Eq.refl b) hl f) (by kernel_rfl) (hq _ ⟨_,_,_,_,rfl⟩)⟩
 ·obtain ⟨x4,x5,x6,x7,rfl⟩:=hρ
  rw [List.nil_append]
  have hj:(joinL [44,32] (ps.map spell)).length+2≤SL:=by rw [ZM];unfold SL;lia
  have hs4:([40]++joinL [44,32] (ps.map spell)++[41]).length≤SL:=by rw [ZM];exact Nat.le_trans hs2 (by decide)
  have hv:spell (argText ps)=[40]++joinL [44,32] (ps.map spell)++[41]:=by rw [ZM];exact Zh _
  rw [hv] at q
  exact Z45 [.j (ps.map spell)] (ai6 (Eq.refl b) (Z0h ps) hj (pl hs4) hs4 (Eq.refl (MV.str ([40]++joinL [44,32] (ps.map spell)++[41])))) (by kernel_rfl) hb q
end Mine
namespace Mine
theorem sL2 {t a:List Nat} {p:List Pc} (ht:t.length≤1000010) (ha:a.length≤1000) (h:(spell p).length≤1000002):(t++a++spell p).length≤SL:=by
 simp only [List.length_append,SL];omega
theorem Z3z (pk p:List Pc):spell (pk++[.sp,.op [61,62],.sp]++p)=spell pk++[32,61,62,32]++[]++spell p:=by
 rw [Z0,Z0,List.append_nil];rfl
theorem Z5z (pk p:List Pc):spell (pk++[.sp,.op [61,62],.sp]++p)=spell pk++[32,61,62,32]++spell p:=by
 rw [Z0,Z0];rfl
theorem Z2O (pk p:List Pc):spell (pk++[.sp,.op [61,62],.sp,.op [38]]++p)=spell pk++[32,61,62,32]++[38]++spell p:=by
 rw [Z0,Z0];simp [Z8,ZW,Pc.sp1]
theorem Zg7 (e:Nat):B3 (e+1) 24 .none []:=Z4Y ZhZ [] (by kernel_rfl)
theorem c24 {R:Z0c} {D e:Nat} {k:MV} {pk:List Pc} (ok:ROK R D) (h:Par R k 5 pk) (he:D≤e):B3 (e+1) 24 k (spell pk++[32,61,62,32]):=by
 have h45:=ok.pr he h
 have hl:(spell pk++[32,61,62,32]).length≤SL:=by have:=Z4w ok h;simp only [List.length_append,List.length_cons,List.length_nil,SL];omega
 obtain ⟨t,f,r,-,rfl⟩:=Z0O ok h
 exact Z23 ZhZ [.v (.str (spell pk))] h45 hl (by kernel_rfl)
theorem sm2 {p:List Pc} (h:Sm p):(spell p).length≤1000002:=Nat.le_trans h.1 (by decide)
theorem Z5U {R:Z0c} {as ps} (h:Items R as ps):as.length=ps.length:=by
 induction h<;>first|rfl|exact congrArg Nat.succ (by assumption)
theorem Z9D {ps:List (List Pc)} {n:Nat} (hs:(spell (Z2 ps)).length≤n) (hn:n≤1000000):ps.length≤SL∧(joinL [44,32] (ps.map spell)).length+2≤SL:=by
 have hc:=ZR ps
 rw [ZM]
 unfold SL
 omega
theorem c25 {R:Z0c} {D e:Nat} {as:List MV} {ps:List (List Pc)} (ok:ROK R D) (h:Items R as ps) (hs:([91]++spell (Z2 ps)++[93]).length≤1000000) (he:D≤e):
  B3 (e+2) 25 (.tup as) ([91]++spell (Z2 ps)++[93]):=by
 intro σ0 Q q
 refine Z03 Zj0 rfl ?_
 unfold b25
 obtain ⟨hn,hj⟩:=Z9D (pr' (pl hs)) (Nat.le_refl _)
 rw [←Z5U h] at hn
 refine Z0Q fun b hb=>?_
 refine Z5a (v:=.tup as) (items:=as) rfl (by kernel_rfl) (Z3R (outs:=txs ps) (J:=fun ρ=>∃x4 x5 x6 x7 x8,ρ=[some (.tup as),some .none,some (.int 0),some (.lst b),x4,x5,x6,x7,x8]) ?_ ⟨none,none,none,none,none,rfl⟩ (by show 0+_≤SL;omega) fun ρ' hρ=>?_)
 ·clear q hs hj hn
  generalize MV.tup as=V
  induction h with
  |nil=>exact .nil
  | @val v L p r ps hv _ ih=>
   refine .cons (fun ρ acc Q hJ hl hq=>?_) ih
   obtain ⟨x4,x5,x6,x7,x8,rfl⟩:=hJ
   exact ⟨rfl,Z04 [.v (.str []),.v (.str (spell p))] (x:=.str (spell p)) (ρ':=[some V,some .none,some (.int 0),some (.lst b),some .none,some v,some (.bool false),some (.bool false),some (.str [])])
    (fun _ f=>ai8 (Eq.refl b) (Zg7 e) (by decide:([]++[]:List Nat).length≤SL) (Z4W ok hv (Nat.le_succ_of_le he)) (sL2 (t:=[]) (a:=[]) (by decide) (by decide) (sm2 (ok.sm hv))) (Eq.refl b) hl f) (by kernel_rfl) (hq _ ⟨_,_,_,_,_,rfl⟩)⟩
  | @key k v pk L p r ps hk hv _ ih=>
   refine .cons (fun ρ acc Q hJ hl hq=>?_) ih
   obtain ⟨x4,x5,x6,x7,x8,rfl⟩:=hJ
   have hkl:=Z4w ok hk
   have h3:(spell pk++[32,61,62,32]++[]++spell p).length≤SL:=sL2 (t:=spell pk++[32,61,62,32]) (a:=[]) (by simp only [List.length_append,List.length_cons,List.length_nil];omega) (by decide) (sm2 (ok.sm hv))
   dsimp only at hq
   rw [Z3z] at hq
   exact ⟨rfl,Z04 [.v (.str (spell pk++[32,61,62,32])),.v (.str (spell p))] (x:=.str (spell pk++[32,61,62,32]++[]++spell p)) (ρ':=[some V,some .none,some (.int 0),some (.lst b),some k,some v,some (.bool false),some (.bool false),some (.str [])])
    (fun _ f=>ai8 (Eq.refl b) (c24 ok hk he) (pl h3) (Z4W ok hv (Nat.le_succ_of_le he)) h3 (Eq.refl b) hl f) (by kernel_rfl) (hq _ ⟨_,_,_,_,_,rfl⟩)⟩
  | @keyref k v pk L p r ps hk hv _ ih=>
   refine .cons (fun ρ acc Q hJ hl hq=>?_) ih
   obtain ⟨x4,x5,x6,x7,x8,rfl⟩:=hJ
   have hkl:=Z4w ok hk
   have h3:(spell pk++[32,61,62,32]++[38]++spell p).length≤SL:=sL2 (t:=spell pk++[32,61,62,32]) (a:=[38]) (by simp only [List.length_append,List.length_cons,List.length_nil];omega) (by decide) (sm2 (ok.sm hv))
   dsimp only at hq
   rw [Z2O] at hq
   exact ⟨rfl,Z04 [.v (.str (spell pk++[32,61,62,32])),.v (.str (spell p))] (x:=.str (spell pk++[32,61,62,32]++[38]++spell p)) (ρ':=[some V,some .none,some (.int 0),some (.lst b),some k,some v,some (.bool true),some (.bool false),some (.str [38])])
    (fun _ f=>ai8 (Eq.refl b) (c24 ok hk he) (pl h3) (Z4W ok hv (Nat.le_succ_of_le he)) h3 (Eq.refl b) hl f) (by kernel_rfl) (hq _ ⟨_,_,_,_,_,rfl⟩)⟩
  | @spread v L p r ps hv _ ih=>
   refine .cons (fun ρ acc Q hJ hl hq=>?_) ih
   obtain ⟨x4,x5,x6,x7,x8,rfl⟩:=hJ
   exact ⟨rfl,Z04 [.v (.str []),.v (.str (spell p))] (x:=.str (spell (.op [46,46,46]::p))) (ρ':=[some V,some .none,some (.int 0),some (.lst b),some .none,some v,some (.bool false),some (.bool true),some (.str [46,46,46])])
    (fun _ f=>ai8 (Eq.refl b) (Zg7 e) (by decide:([]++[46,46,46]:List Nat).length≤SL) (Z4W ok hv (Nat.le_succ_of_le he)) (sL2 (t:=[]) (a:=[46,46,46]) (by decide) (by decide) (sm2 (ok.sm hv))) (Eq.refl b) hl f) (by kernel_rfl) (hq _ ⟨_,_,_,_,_,rfl⟩)⟩
 ·obtain ⟨x4,x5,x6,x7,x8,rfl⟩:=hρ
  rw [List.nil_append]
  rw [←ZM] at q hs
  have hs4:=Nat.le_trans hs (by decide:1000000≤SL)
  exact Z45 [.j (ps.map spell)] (ai6 (Eq.refl b) (Z0h ps) hj (pl hs4) hs4 (Eq.refl (MV.str ([91]++joinL [44,32] (ps.map spell)++[93])))) (by kernel_rfl) hb q
end Mine
namespace Mine
theorem ai9 {A B C D E F G H I:Prop} (a:A) (b:B) (c:C) (d:D) (e:E) (f:F) (g:G) (h:H) (i:I):A∧B∧C∧D∧E∧F∧G∧H∧I:=⟨a,b,c,d,e,f,g,h,i⟩
theorem c17 {R:Z0c} {D e:Nat} {as:List MV} {ps:List (List Pc)} (ok:ROK R D) (h:Raws R as ps) (hs:(spell (Z2 ps)).length≤1000000) (he:D≤e):
  B3 (e+1) 17 (.tup as) (spell (Z2 ps)):=by
 obtain ⟨hn,hj⟩:=Z9D hs (Nat.le_refl _)
 have hlen:as.length=ps.length:=by
  clear hs hn hj
  induction h with
  |nil=>rfl
  |cons _ _ ih=>exact congrArg Nat.succ ih
 have hn':as.length<SL:=by
  have:=ZR ps
  rw [hlen];unfold SL;lia
 have hc:CmT (Z3 FT e) (.comp 3 (.call 45 [.var 3,.cst (.int 0),.var 1,.var 2]) (.var 0)) (ZeS 3 4 [] [.tup as,.none,.int 0]) (.fl (txs ps)):=by
  refine Z68 (v:=.tup as) (items:=as) rfl hn' (by kernel_rfl) ?_
  clear hs hn hj hlen hn'
  generalize MV.tup as=V
  induction h with
  |nil=>exact .nil
  | @cons v L p r ps hv _ ih=>
   exact .cons (fun σ Q q=>Z0E [.v (.str (spell p))] (ai2 (Z4W ok hv he) (Eq.refl (MV.str (spell p)))) (by kernel_rfl) q) ih
 rw [←ZM]
 exact ZcL Zj2 [.g (.fl (txs ps)),.j (ps.map spell)] hc (Z0h ps) hj (by kernel_rfl)
theorem Z7B {l:List MV} {v:MV} (h:l.getLast? =some v):PrT .getitem [.tup l,.int (-1)] v:=by
 have hl:l≠[]:=by rintro rfl;cases h
 have hp:0<l.length:=List.length_pos_iff.2 hl
 have e:pyIdx (-1) l.length=some (l.length-1):=by
  unfold pyIdx
  rw [if_neg (by decide),if_pos (by lia)]
  rw [m1N]
 have:l[l.length-1]? =some v:=by rw [←h,List.getLast?_eq_getElem?]
 refine Z5K (w:=v) ?_ rfl
 show orE (orE (b0 ((pyIdx (-1) l.length).bind (l[·]?)) ok) (orE none none)) none=_
 rw [e]
 show orE (orE (b0 (l[l.length-1]?) ok) (orE none none)) none=_
 rw [this];rfl
theorem ZP {R:Z0c} {G:MV→List Pc→Prop} {as ps} (h:Pats R G as ps):as.length=ps.length:=by
 induction h<;>first|rfl|exact congrArg Nat.succ (by assumption)
noncomputable def Z48 (b:Bool):List Nat:=if b then [44] else []
theorem c26 {R:Z0c} {D e:Nat} {as:List MV} {ps:List (List Pc)} {G:MV→List Pc→Prop} (ok:ROK R D) (h:Pats R G as ps) (hG:∀v p,G v p→E45 (e+1) v 0 (spell p)∧(spell p).length≤1000002) (hne:as≠[])
  (hs:([91]++spell (Z2 ps)++Z48 (lastNone as)++[93]).length≤1000000) (he:D≤e):
  B3 (e+2) 26 (.tup as) ([91]++spell (Z2 ps)++Z48 (lastNone as)++[93]):=by
 intro σ0 Q q
 refine Z03 ZiZ rfl ?_
 unfold b26
 obtain ⟨hn,hj⟩:=Z9D (pr' (pl (pl hs))) (Nat.le_refl _)
 rw [←ZP h] at hn
 refine Z0Q fun b hb=>?_
 refine Z6X (v:=.tup as) (items:=as) rfl (by kernel_rfl) (Z3R (outs:=txs ps) (J:=fun ρ=>∃x4 x5 x6 x7 x8,ρ=[some (.tup as),some .none,some (.int 0),some (.lst b),x4,x5,x6,x7,x8]) ?_ ⟨none,none,none,none,none,rfl⟩ (by show 0+_≤SL;lia) fun ρ' hρ=>?_)
 ·clear q hs hj hn hne
  generalize MV.tup as=V
  induction h with
  |nil=>exact .nil
  | @gap r ps _ ih=>
   refine .cons (fun ρ acc Q hJ hl hq=>?_) ih
   obtain ⟨x4,x5,x6,x7,x8,rfl⟩:=hJ
   exact Z04 [] (x:=.str []) (ρ':=[some V,some .none,some (.int 0),some (.lst b),some .none,x5,x6,x7,x8]) (fun _ f=>ai4 (Eq.refl b) (Eq.refl b) hl f) (by kernel_rfl) (hq _ ⟨_,_,_,_,_,rfl⟩)
  | @val v p r ps hv _ ih=>
   refine .cons (fun ρ acc Q hJ hl hq=>?_) ih
   obtain ⟨x4,x5,x6,x7,x8,rfl⟩:=hJ
   obtain ⟨hg,hgl⟩:=hG v p hv
   exact Z04 [.v (.str []),.v (.str (spell p))] (x:=.str (spell p)) (ρ':=[some V,some .none,some (.int 0),some (.lst b),some (.tup [.none,v,.bool false]),some .none,some v,some (.bool false),x8])
    (fun _ f=>ai8 (Eq.refl b) (Zg7 e) (by decide:([]++[]:List Nat).length≤SL) hg (sL2 (t:=[]) (a:=[]) (by decide) (by decide) hgl) (Eq.refl b) hl f) (by kernel_rfl) (hq _ ⟨_,_,_,_,_,rfl⟩)
  | @ref v p r ps hv _ ih=>
   refine .cons (fun ρ acc Q hJ hl hq=>?_) ih
   obtain ⟨x4,x5,x6,x7,x8,rfl⟩:=hJ
   obtain ⟨hg,hgl⟩:=hG v p hv
   exact Z04 [.v (.str []),.v (.str (spell p))] (x:=.str (spell (.op [38]::p))) (ρ':=[some V,some .none,some (.int 0),some (.lst b),some (.tup [.none,v,.bool true]),some .none,some v,some (.bool true),x8])
    (fun _ f=>ai8 (Eq.refl b) (Zg7 e) (by decide:([]++[38]:List Nat).length≤SL) hg (sL2 (t:=[]) (a:=[38]) (by decide) (by decide) hgl) (Eq.refl b) hl f) (by kernel_rfl) (hq _ ⟨_,_,_,_,_,rfl⟩)
  | @key k v pk p r ps hk hv _ ih=>
   refine .cons (fun ρ acc Q hJ hl hq=>?_) ih
   obtain ⟨x4,x5,x6,x7,x8,rfl⟩:=hJ
   obtain ⟨hg,hgl⟩:=hG v p hv
   have hkl:=Z4w ok hk
   have h3:(spell pk++[32,61,62,32]++[]++spell p).length≤SL:=sL2 (t:=spell pk++[32,61,62,32]) (a:=[]) (by simp only [List.length_append,List.length_cons,List.length_nil];lia) (by decide) hgl
   dsimp only at hq
   rw [Z3z] at hq
   exact Z04 [.v (.str (spell pk++[32,61,62,32])),.v (.str (spell p))] (x:=.str (spell pk++[32,61,62,32]++[]++spell p)) (ρ':=[some V,some .none,some (.int 0),some (.lst b),some (.tup [k,v,.bool false]),some k,some v,some (.bool false),x8])
    (fun _ f=>ai8 (Eq.refl b) (c24 ok hk he) (pl h3) hg h3 (Eq.refl b) hl f) (by kernel_rfl) (hq _ ⟨_,_,_,_,_,rfl⟩)
  | @keyref k v pk p r ps hk hv _ ih=>
   refine .cons (fun ρ acc Q hJ hl hq=>?_) ih
   obtain ⟨x4,x5,x6,x7,x8,rfl⟩:=hJ
   obtain ⟨hg,hgl⟩:=hG v p hv
   have hkl:=Z4w ok hk
   have h3:(spell pk++[32,61,62,32]++[38]++spell p).length≤SL:=sL2 (t:=spell pk++[32,61,62,32]) (a:=[38]) (by simp only [List.length_append,List.length_cons,List.length_nil];lia) (by decide) hgl
   dsimp only at hq
   rw [Z2O] at hq
   exact Z04 [.v (.str (spell pk++[32,61,62,32])),.v (.str (spell p))] (x:=.str (spell pk++[32,61,62,32]++[38]++spell p)) (ρ':=[some V,some .none,some (.int 0),some (.lst b),some (.tup [k,v,.bool true]),some k,some v,some (.bool true),x8])
    (fun _ f=>ai8 (Eq.refl b) (c24 ok hk he) (pl h3) hg h3 (Eq.refl b) hl f) (by kernel_rfl) (hq _ ⟨_,_,_,_,_,rfl⟩)
 ·obtain ⟨x4,x5,x6,x7,x8,rfl⟩:=hρ
  rw [List.nil_append]
  rw [←ZM] at q hs
  have hs4:=Nat.le_trans hs (by decide:1000000≤SL)
  have hp:0<as.length:=List.length_pos_iff.2 hne
  have e0:MV.bool (decide ((0:Int)<as.length))=.bool true:=ltT (i:=0) hp
  obtain ⟨last,hlast⟩:∃v,as.getLast? =some v:=⟨_,List.getLast?_eq_some_getLast hne⟩
  have e1:lastNone as=last.isNil:=by unfold lastNone;rw [hlast];cases last<;>rfl
  rw [e1] at q hs4
  cases hβ:last.isNil with
  |true=>
   have e2:MV.bool (last.isNil !=false)=.bool true:=by rw [hβ];rfl
   rw [hβ] at q hs4
   exact Z45 [.t true,.g last,.t true,.j (ps.map spell)] (ai9 e0 (Z7B hlast) e2 (Eq.refl b) (Z0h ps) hj (pl (pl hs4)) (pl hs4) (And.intro hs4 (Eq.refl (MV.str ([91]++joinL [44,32] (ps.map spell)++Z48 true++[93]))))) (by kernel_rfl) hb q
  |false=>
   have e2:MV.bool (last.isNil !=false)=.bool false:=by rw [hβ];rfl
   rw [hβ] at q hs4
   exact Z45 [.t true,.g last,.t false,.j (ps.map spell)] (ai9 e0 (Z7B hlast) e2 (Eq.refl b) (Z0h ps) hj (pl (pl hs4)) (pl hs4) (And.intro hs4 (Eq.refl (MV.str ([91]++joinL [44,32] (ps.map spell)++Z48 false++[93]))))) (by kernel_rfl) hb q
end Mine
namespace Mine
theorem Z7W {R:Z0c} {as ps} (h:Arms R as ps):as.length=ps.length:=by
 induction h<;>first|rfl|exact congrArg Nat.succ (by assumption)
theorem Z5x {R:Z0c} {as ps} (h:Tests R as ps):as.length=ps.length:=by
 induction h<;>first|rfl|exact congrArg Nat.succ (by assumption)
theorem ZdW {R:Z0c} {D e:Nat} {ts:List MV} {tp:List (List Pc)} (ok:ROK R D) (h:Tests R ts tp) (hs:(spell (Z2 tp)).length≤1000000) (he:D≤e) {V:MV} {b:Addr} {x5 x6 x7:Option MV}:
  CmT (Z3 FT e) (.comp 7 (.call 45 [.var 7,.cst (.int 5),.var 1,.var 2]) (.var 4)) [some V,some .none,some (.int 0),some (.lst b),some (.tup ts),x5,x6,x7] (.fl (txs tp)):=by
 have hc:=ZR tp
 have hl:=Z5x h
 refine Z68 (v:=.tup ts) (items:=ts) rfl (by unfold SL;lia) (by kernel_rfl) ?_
 clear hs hc hl
 generalize MV.tup ts=W
 induction h with
 | @one v p hv=>exact .cons (fun σ Q q=>Z0E [.v (.str (spell p))] (ai2 (ok.pr he hv) (Eq.refl (MV.str (spell p)))) (by kernel_rfl) q) .nil
 | @cons v p r ps hv _ ih=>exact .cons (fun σ Q q=>Z0E [.v (.str (spell p))] (ai2 (ok.pr he hv) (Eq.refl (MV.str (spell p)))) (by kernel_rfl) q) ih
set_option tactic.hygienic true in
theorem c35 {R:Z0c} {D e L:Nat} {s:MV} {as:List MV} {pe:List Pc} {ps:List (List Pc)} (ok:ROK R D) (hv:R s L pe) (h:Arms R as ps)
  (hs:([109,97,116,99,104,32,40]++spell pe++[41,32,123]++spell (Z2 ps)++[125]).length≤1000000) (he:D≤e):
  B3 (e+1) 35 (.tup [.str [109,97,116,99,104],s,.tup as]) ([109,97,116,99,104,32,40]++spell pe++[41,32,123]++spell (Z2 ps)++[125]):=by
 intro σ0 Q q
 refine Z03 ZiY rfl ?_
 unfold b35
 obtain ⟨hn,hj⟩:=Z9D (pr' (pl hs)) (Nat.le_refl _)
 rw [←Z7W h] at hn
 refine Z0Q fun b hb=>?_
 refine Z5a (v:=.tup as) (items:=as) rfl (by kernel_rfl) (Z3R (outs:=txs ps) (J:=fun ρ=>∃x4 x5 x6 x7,ρ=[some (.tup [.str [109,97,116,99,104],s,.tup as]),some .none,some (.int 0),some (.lst b),x4,x5,x6,x7]) ?_ ⟨none,none,none,none,rfl⟩ (by show 0+_≤SL;lia) fun ρ' hρ=>?_)
 ·have hcs:(spell (Z2 ps)).length≤1000000:=pr' (pl hs)
  clear q hs hj hn
  generalize MV.tup [.str [109,97,116,99,104],s,.tup as]=V
  induction h with
  |nil=>exact .nil
  | @arm ts tp v L p r ps ht hv _ ih=>
   have hcs2:(spell (Z2 tp++[.sp,.op [61,62],.sp]++p)).length≤1000000∧(spell (Z2 ps)).length≤1000000:=by
    cases ps with
    |nil=>exact ⟨hcs,Nat.zero_le _⟩
    |cons a b=>
     have hcs:(spell ((Z2 tp++[.sp,.op [61,62],.sp]++p)++[.op [44],.sp]++Z2 (a::b))).length≤1000000:=hcs
     rw [Z0,Z0] at hcs
     exact ⟨pl (pl hcs),pr' hcs⟩
   refine .cons (fun ρ acc Q hJ hl hq=>?_) (ih hcs2.2)
   obtain ⟨x4,x5,x6,x7,rfl⟩:=hJ
   dsimp only at hq
   have h1:=hcs2.1
   rw [Z5z] at hq h1
   have h3:=Nat.le_trans h1 (by decide:1000000≤SL)
   have hj:=Z9D (pl (pl h1)) (Nat.le_refl _)
   have hct:=ZdW (V:=V) (b:=b) (x5:=some v) (x6:=x6) (x7:=x7) ok ht (pl (pl h1)) he
   rw [←ZM] at hq h3
   exact ⟨rfl,Z04 [.t false,.g (.fl (txs tp)),.j (tp.map spell),.v (.str (spell p))] (x:=.str (joinL [44,32] (tp.map spell)++[32,61,62,32]++spell p)) (ρ':=[some V,some .none,some (.int 0),some (.lst b),some (.tup ts),some v,some (.str (joinL [44,32] (tp.map spell))),x7])
    (fun _ f=>ai9 (Eq.refl (MV.bool false)) hct (Z0h tp) hj.2 (Eq.refl b) (pl h3) (Z4W ok hv he) h3 (ai3 (Eq.refl b) hl f)) (by kernel_rfl) (hq _ ⟨_,_,_,_,rfl⟩)⟩
  | @dflt v L p r ps hv _ ih=>
   have hcs2:(spell (Z2 ps)).length≤1000000:=by
    cases ps with
    |nil=>exact Nat.zero_le _
    |cons a b=>
     have hcs:(spell ((.word [100,101,102,97,117,108,116]:: .sp:: .op [61,62]:: .sp::p)++[.op [44],.sp]++Z2 (a::b))).length≤1000000:=hcs
     rw [Z0,Z0] at hcs
     exact pr' hcs
   refine .cons (fun ρ acc Q hJ hl hq=>?_) (ih hcs2)
   obtain ⟨x4,x5,x6,x7,rfl⟩:=hJ
   exact ⟨rfl,Z04 [.t true,.v (.str (spell p))] (x:=.str (spell (.word [100,101,102,97,117,108,116]:: .sp:: .op [61,62]:: .sp::p))) (ρ':=[some V,some .none,some (.int 0),some (.lst b),some .none,some v,some (.str [100,101,102,97,117,108,116]),x7])
    (fun _ f=>ai8 (Eq.refl (MV.bool true)) (Eq.refl b) (by decide:([100,101,102,97,117,108,116]++[32,61,62,32]).length≤SL) (Z4W ok hv he) (sL (a:=[100,101,102,97,117,108,116,32,61,62,32]) (ok.sm hv) (by decide)) (Eq.refl b) hl f) (by kernel_rfl) (hq _ ⟨_,_,_,_,rfl⟩)⟩
 ·obtain ⟨x4,x5,x6,x7,rfl⟩:=hρ
  rw [List.nil_append]
  rw [←ZM] at q hs
  have hs4:=Nat.le_trans hs (by decide:1000000≤SL)
  exact Z45 [.v (.str (spell pe)),.j (ps.map spell)] (ai8 (Z4W ok hv he) (pl (pl (pl hs4))) (pl (pl hs4)) (Eq.refl b) (Z0h ps) hj (pl hs4) (And.intro hs4 (Eq.refl (MV.str ([109,97,116,99,104,32,40]++spell pe++[41,32,123]++joinL [44,32] (ps.map spell)++[125]))))) (by kernel_rfl) hb q
end Mine
namespace Mine
theorem Z1U {d d' f:Nat} {vs:List MV} {v:MV} (h:Pct (Z3 FT d) f vs v) (hd:d≤d'):Pct (Z3 FT d') f vs v:=fun σ Q q=>
 Z3i FT hd f vs σ Q Q (fun _ _ x=>x) (h σ Q q)
theorem Z4X {f np nl df b} {A:Prop} (ft:FT f=some ⟨np,nl,df,b⟩) {d:Nat} {vs:List MV} {v:MV} (q:A) (h:Z1r (Z3 FT d) np nl df b vs [.v v] v=(A∧v=v)):Pct (Z3 FT (d+1)) f vs v:=
 Z4h ft [.v v] q h
theorem Zer {f np nl df b} {A:Prop} (ft:FT f=some ⟨np,nl,df,b⟩) {d:Nat} {vs us:List MV} {v w:MV} {g:Nat} (q0:Pct (Z3 FT d) g us w) (q:A) (h:Z1r (Z3 FT d) np nl df b vs [.v w,.v v] v=(Pct (Z3 FT d) g us w∧A∧v=v)):Pct (Z3 FT (d+1)) f vs v:=
 Z23 ft [.v w,.v v] q0 q h
noncomputable def Bd (d:Nat) (v:MV) (p:List Pc):Prop:=∃t f r,(t,f)∈grpTab∧v=.tup (.str t::r)∧B3 d f v (spell p)
theorem bd {d:Nat} {t:List Nat} {r:List MV} {p:List Pc} {T:List Nat} (f:Nat) (e:spell p=T) (m:(grpTab.any fun x=>x.1==t&&x.2==f)=true) (h:B3 d f (tn t r) T):Bd d (tn t r) p:=by
 obtain ⟨x,hx,hm⟩:=List.any_eq_true.1 m
 have hm:=Bool.and_eq_true_iff.1 hm
 obtain ⟨x1,x2⟩:=x
 obtain rfl:=eq_of_beq hm.1
 obtain rfl:=eq_of_beq hm.2
 exact ⟨x1,x2,r,hx,rfl,e▸h⟩
theorem Z06 {d d':Nat} {v p} (h:Bd d v p) (hd:d≤d'):Bd d' v p:=by
 obtain ⟨t,f,r,m,e,h⟩:=h
 exact ⟨t,f,r,m,e,Z1U h hd⟩
section
variable {R:Z0c} {D e:Nat} (ok:ROK R D) (he:D≤e)
include ok he
theorem Zit {o a p} (ho:o∈[[43],[45],[126]]) (h:Par R a 19 p) (hs:Sm (Z29 o p)):Bd (e+2) (tn [117,110] [.str o,a]) (Z29 o p):=by
 have e1:spell (Z29 o p)=o++(if headIs o p then [32] else [])++spell p:=by
  unfold Z29
  cases headIs o p<;>simp [Z8,Pc.sp1]
 have hl:=ZO hs e1
 have h36:=c36 (ok.pr he h) (rfl:((spell p).take 1==o)=headIs o p) hl
 refine bd 43 e1 (by decide+kernel) ?_
 refine Zak (P:=fun o=>Pct (Z3 FT (e+1)) 36 [.str o,a,.int (19:Nat),.none,.int 0] (.str (o++(if headIs o p then [32] else [])++spell p))→B3 (e+2) 43 (tn [117,110] [.str o,a]) (o++(if headIs o p then [32] else [])++spell p)) ho ?_ ?_ ?_ h36<;>exact fun h36=>Z4X Z9N h36 (by kernel_rfl)
theorem ZgT {a p} (h:Par R a 18 p) (hs:Sm (Z29 [33] p)):Bd (e+2) (tn [117,110] [.str [33],a]) (Z29 [33] p):=by
 have e1:spell (Z29 [33] p)=[33]++(if headIs [33] p then [32] else [])++spell p:=by
  unfold Z29
  cases headIs [33] p<;>simp [Z8,Pc.sp1]
 have hl:=ZO hs e1
 have h36:=c36 (ok.pr he h) (rfl:((spell p).take 1==[33])=headIs [33] p) hl
 exact bd 43 e1 (by decide+kernel) (Z4h Z9N [.v (.str ([33]++(if headIs [33] p then [32] else [])++spell p))] h36 (by kernel_rfl))
theorem ZeN {t a p} (h:Par R a 19 p) (hs:Sm (.cast t::p)):Bd (e+1) (tn [99,97,115,116] [.str t,a]) (.cast t::p):=by
 have e1:spell (.cast t::p)=[40]++t++[41]++spell p:=by simp [Z8,Pc.sp1]
 have hl:=ZO hs e1
 exact bd 43 e1 (by decide+kernel) (Z22 Z9N [.v (.str (spell p))] (pl (pl hl)) (pl hl) (ok.pr he h) hl (by kernel_rfl))
theorem ZgR {a p} (h:Par R a 19 p) (hs:Sm (.op [64]::p)):Bd (e+1) (tn [115,105,108,101,110,99,101] [a]) (.op [64]::p):=by
 have e1:spell (.op [64]::p)=[64]++spell p:=rfl
 exact bd 43 e1 (by decide+kernel) (Z23 Z9N [.v (.str (spell p))] (ok.pr he h) (ZO hs e1) (by kernel_rfl))
theorem ZgS {w l a p} (hw:(w,l)∈preTab) (h:Par R a l p) (hs:Sm (.word w:: .sp::p)):Bd (e+1) (tn w [a]) (.word w:: .sp::p):=by
 have h45:=ok.pr he h
 simp only [preTab,List.mem_cons,Prod.mk.injEq,List.not_mem_nil,or_false] at hw
 rcases hw with hw|hw|hw<;>obtain ⟨rfl,rfl⟩:=hw
 ·exact bd (T:=[112,114,105,110,116,32]++spell p) 43 rfl (by decide+kernel) (Z23 Z9N [.v (.str (spell p))] h45 (ZO hs (T:=[112,114,105,110,116,32]++spell p) rfl) (by kernel_rfl))
 ·exact bd (T:=[99,108,111,110,101,32]++spell p) 43 rfl (by decide+kernel) (Z23 Z9N [.v (.str (spell p))] h45 (ZO hs (T:=[99,108,111,110,101,32]++spell p) rfl) (by kernel_rfl))
 ·exact bd (T:=[116,104,114,111,119,32]++spell p) 43 rfl (by decide+kernel) (Z23 Z9N [.v (.str (spell p))] h45 (ZO hs (T:=[116,104,114,111,119,32]++spell p) rfl) (by kernel_rfl))
theorem ZcR {a p} (h:Par R a 4 p) (hs:Sm (.word [121,105,101,108,100]:: .sp:: .word [102,114,111,109]:: .sp::p)):Bd (e+1) (tn [121,105,101,108,100,102,114,111,109] [a]) (.word [121,105,101,108,100]:: .sp:: .word [102,114,111,109]:: .sp::p):=
 bd (T:=[121,105,101,108,100,32,102,114,111,109,32]++spell p) 43 rfl (by decide+kernel) (Z23 Z9N [.v (.str (spell p))] (ok.pr he h) (ZO hs (T:=[121,105,101,108,100,32,102,114,111,109,32]++spell p) rfl) (by kernel_rfl))
omit ok he in
theorem ZeD:Bd (e+2) (tn [121,105,101,108,100] [.none,.none]) [.word [121,105,101,108,100]]:=
 bd (T:=[121,105,101,108,100]) 43 rfl (by decide+kernel) (Z4h Z9N [.v (.str [121,105,101,108,100])] (Zja e) (by kernel_rfl))
omit he in
theorem Z6J {a k p} (h:Par R a k p):Ze (spell p)=true∧(spell p).length≤5592405:=by
 have h1:=Z4w ok h
 obtain ⟨L,q,h,rfl⟩:=h
 refine ⟨?_,by omega⟩
 have:=(ok.sm h).2
 split
 ·rw [Zh];unfold Ze at this ⊢;simp [this]
 ·exact this
theorem ZgP {a p} (h:Par R a 4 p):Bd (e+5) (tn [121,105,101,108,100] [.none,a]) (.word [121,105,101,108,100]:: .sp::Z1k p):=by
 have h45:=ok.pr (Nat.le_add_right_of_le he:D≤e+3) h
 have ha:=Z6J ok h
 have e1:spell (.word [121,105,101,108,100]:: .sp::Z1k p)=[121,105,101,108,100,32]++yparT (fromT (spell p)) (spell p)++[]:=by
  rw [←Z4q,List.append_nil];rfl
 obtain ⟨t,f,r,-,rfl⟩:=Z0O ok h
 exact bd 43 e1 (by decide+kernel) (Z4X Z9N (c42 h45 ha) (by kernel_rfl))
theorem ZeC {k a pk p} (hk:Par R k 5 pk) (h:Par R a 4 p):Bd (e+5) (tn [121,105,101,108,100] [k,a]) (.word [121,105,101,108,100]:: .sp::(Z1k pk++[.sp,.op [61,62],.sp]++p)):=by
 have h45:=ok.pr (Nat.le_add_right_of_le he:D≤e+3) h
 have k45:=ok.pr (Nat.le_add_right_of_le he:D≤e+3) hk
 have ha:=Z6J ok h
 have ka:=Z6J ok hk
 have e1:spell (.word [121,105,101,108,100]:: .sp::(Z1k pk++[.sp,.op [61,62],.sp]++p))=[121,105,101,108,100,32]++yparT (fromT (spell pk)) (spell pk)++([32,61,62,32]++spell p):=by
  rw [←Z4q];simp [Z8,Z0,Pc.sp1]
 obtain ⟨t,f,r,-,rfl⟩:=Z0O ok h
 obtain ⟨t',f',r',-,rfl⟩:=Z0O ok hk
 exact bd 43 e1 (by decide+kernel) (Z4X Z9N (Zjb h45 k45 ka ha.2) (by kernel_rfl))
theorem ZgY {o l la lb m a b pa pb} (ho:(o,l,la,lb,m)∈opTab) (ha:Par R a la pa) (hb:Par R b lb pb) (hs:Sm (pa++[.sp,Z8d o,.sp]++pb)):Bd (e+2) (tn [98,105,110] [.str o,a,b]) (pa++[.sp,Z8d o,.sp]++pb):=by
 have e1:spell (pa++[.sp,Z8d o,.sp]++pb)=spell pa++[32]++o++[32]++spell pb:=by
  unfold Z8d;split<;>simp [Z8,Z0,Pc.sp1]
 have h37:=c37 (ok.pr he ha) (ok.pr he hb) (ZO hs e1)
 refine bd 38 e1 (by decide+kernel) ?_
 generalize spell pa++[32]++o++[32]++spell pb=T at h37 ⊢
 refine Za ZhX (t:=[.v (.int l),.v (.str T)]) ?_
 have h8:Pct (Z3 FT (e+1)) 8 [.str o] (.int l):=c8 e ho
 have:=Z00 (tab:=opTab) (F:=fun x=>Z1r (Z3 FT (e+1)) 3 6 [] b38 [tn [98,105,110] [.str x.1,a,b],.none,.int 0] [.v (.int x.2.1),.v (.str T)] (.str T))
  (G:=fun x=>Pct (Z3 FT (e+1)) 8 [.str x.1] (.int x.2.1)∧Pct (Z3 FT (e+1)) 37 [a,.str x.1,b,.int x.2.2.1,.int x.2.2.2.1,.none,.int 0] (.str T)∧MV.str T=.str T) (by kernel_rfl) ho (by dsimp only;exact ai3 h8 h37 (Eq.refl (MV.str T)))
 exact this
theorem Ziu {t o l la lb m a b pa pb} (ho:(t,o,l,la,lb,m)∈lgTab) (ha:Par R a la pa) (hb:Par R b lb pb) (hs:Sm (pa++[.sp,.op o,.sp]++pb)):Bd (e+3) (tn t [a,b]) (pa++[.sp,.op o,.sp]++pb):=by
 have e1:spell (pa++[.sp,.op o,.sp]++pb)=spell pa++[32]++o++[32]++spell pb:=by simp [Z8,Z0,Pc.sp1]
 have h37:=c37 (ok.pr (Nat.le_succ_of_le he) ha) (ok.pr (Nat.le_succ_of_le he) hb) (ZO hs e1)
 have h10:=c10 ok (Node.lg ho ha hb) e
 have hg:∀x∈lgTab,(grpTab.any fun y=>y.1==x.1&&y.2==38)=true:=by decide+kernel
 refine bd 38 e1 (hg _ ho) ?_
 revert h37
 revert h10
 refine Zak (P:=fun x=>L10 (e+2) (tn x.1 [a,b]) x.2.2.1→Pct (Z3 FT (e+2)) 37 [a,.str x.2.1,b,.int x.2.2.2.1,.int x.2.2.2.2.1,.none,.int 0] (.str (spell pa++[32]++x.2.1++[32]++spell pb))→B3 (e+3) 38 (tn x.1 [a,b]) (spell pa++[32]++x.2.1++[32]++spell pb)) ho
  ?_ ?_ ?_<;>exact fun h10 h37=>Zer ZhX h10 h37 (by kernel_rfl)
theorem ZcT {c x pc pe} (hc:Par R c 6 pc) (h:Par R x 6 pe) (hs:Sm (pc++[.sp,.op [63],.op [58],.sp]++pe)):Bd (e+1) (tn [105,102] [c,.none,x]) (pc++[.sp,.op [63],.op [58],.sp]++pe):=by
 have e1:spell (pc++[.sp,.op [63],.op [58],.sp]++pe)=spell pc++[32,63,58,32]++spell pe:=by rw [Z0,Z0];rfl
 have hl:=ZO hs e1
 exact bd 44 e1 (by decide+kernel) (Z22 Z9M [.v (.str (spell pc)),.v (.str (spell pe))] (ok.pr he hc) (pl hl) (ok.pr he h) hl (by kernel_rfl))
theorem ZeE {c m x pc pm pe} (hc:Par R c 6 pc) (hm:Par R m 6 pm) (h:Par R x 6 pe) (hs:Sm (pc++[.sp,.op [63],.sp]++pm++[.sp,.op [58],.sp]++pe)):
  Bd (e+1) (tn [105,102] [c,m,x]) (pc++[.sp,.op [63],.sp]++pm++[.sp,.op [58],.sp]++pe):=by
 have e1:spell (pc++[.sp,.op [63],.sp]++pm++[.sp,.op [58],.sp]++pe)=spell pc++([32,63,32]++spell pm++[32,58,32])++spell pe:=by
  simp [Z8,Z0,Pc.sp1]
 have hl:=ZO hs e1
 have hm':=ok.pr he hm
 obtain ⟨t,f,r,-,rfl⟩:=Z0O ok hm
 exact bd 44 e1 (by decide+kernel) (Zet Z9M [.v (.str (spell pm)),.v (.str (spell pc)),.v (.str (spell pe))] hm' (pl (pr' (pl hl))) (pr' (pl hl)) (ok.pr he hc) (pl hl) (ok.pr he h) hl (by kernel_rfl))
end
end Mine
namespace Mine
section
variable {R:Z0c} {D e:Nat} (ok:ROK R D) (he:D≤e)
include ok he
theorem Z21 {t pt d} (h:Z0z R t pt) (hd:e≤d):E45 d t 0 (spell pt)∧(spell pt).length≤1000002:=by
 obtain ⟨_,L,h⟩:=h
 exact ⟨Z4W ok h (Nat.le_trans he hd),sm2 (ok.sm h)⟩
theorem Z8J {as:List MV} {ps:List (List Pc)}:spell (.op [91]::(Z2 ps++(if lastNone as then [.op [44]] else [])++[.op [93]]))=[91]++spell (Z2 ps)++Z48 (lastNone as)++[93]:=by
 cases lastNone as<;>simp [Z8,Z0,Pc.sp1,Z48,ZW]
theorem Zeq {G:MV→List Pc→Prop} {t pt} (h:Z76 R G t pt) (hG:∀v p,G v p→E45 (e+1) v 0 (spell p)∧(spell p).length≤1000002) (hs:(spell pt).length≤1000000):E45 (e+4) t 0 (spell pt):=by
 obtain ⟨as,ps,rfl,h,hne,rfl⟩:=h
 have e1:=Z8J ok he (as:=as) (ps:=ps)
 rw [e1] at hs ⊢
 have h26:=c26 ok h hG hne hs he
 have h44:B3 (e+3) 44 (tn [108,105,115,116] [.tup as]) ([91]++spell (Z2 ps)++Z48 (lastNone as)++[93]):=Z4X Z9M h26 (by kernel_rfl)
 have h10:L10 (e+3) (tn [108,105,115,116] [.tup as]) 21:=Z4Y Zbc [] (by kernel_rfl)
 have hg:([108,105,115,116],44)∈grpTab:=by
  have:(grpTab.any fun x=>x.1==[108,105,115,116]&&x.2==44)=true:=by decide+kernel
  obtain ⟨x,hx,hm⟩:=List.any_eq_true.1 this
  have hm:=Bool.and_eq_true_iff.1 hm
  obtain ⟨x1,x2⟩:=x
  obtain rfl:=eq_of_beq hm.1
  obtain rfl:=eq_of_beq hm.2
  exact hx
 have:=c45 (above:=0) hg h44 h10 (by simp only [List.length_append,List.length_cons,List.length_nil,SL] at hs ⊢;lia)
 exact this
theorem Z6u {a b c:List Pc} {n} (h:(spell (a++b++c)).length≤n):(spell a).length≤n:=by
 rw [Z0,Z0] at h;exact pl (pl h)
theorem Ziq {t pt} (h:Zca R t pt) (hs:(spell pt).length≤1000000):E45 (e+7) t 0 (spell pt):=by
 refine Zeq (e:=e+3) ok (Nat.le_add_right_of_le he) h (fun v p hv=>?_) hs
 rcases hv with hv|⟨hv,hsm⟩
 ·exact Z21 ok he hv (Nat.le_add_right e 4)
 ·exact ⟨Zeq ok he hv (fun v p hv=>Z21 ok he hv (Nat.le_succ e)) hsm.1,sm2 hsm⟩
theorem ZeO {t a pt p} (d:Nat) (ht:E45 d t 0 (spell pt)) (hd:D≤d) (h:Par R a 4 p) (hs:Sm (pt++[.sp,.op [61],.sp]++p)):Bd (d+2) (tn [97,115,115,105,103,110] [t,a]) (pt++[.sp,.op [61],.sp]++p):=by
 have e1:spell (pt++[.sp,.op [61],.sp]++p)=spell pt++[32]++[61]++[32]++spell p:=by simp [Z8,Z0,Pc.sp1,ZW]
 exact bd 39 e1 (by decide+kernel) (Z4X Zfh (c37 (la:=0) ht (ok.pr hd h) (ZO hs e1)) (by kernel_rfl))
theorem ZeP {t a pt L p} (ht:Z0z R t pt) (h:R a L p) (hs:Sm (pt++[.sp,.op [61],.sp,.op [38]]++p)):Bd (e+1) (tn [97,115,115,105,103,110,114,101,102] [t,a]) (pt++[.sp,.op [61],.sp,.op [38]]++p):=by
 have e1:spell (pt++[.sp,.op [61],.sp,.op [38]]++p)=spell pt++[32,61,32,38]++spell p:=by rw [Z0,Z0];rfl
 have hl:=ZO hs e1
 exact bd 39 e1 (by decide+kernel) (Z22 Zfh [.v (.str (spell pt)),.v (.str (spell p))] (Z21 ok he ht (Nat.le_refl e)).1 (pl hl) (Z4W ok h he) hl (by kernel_rfl))
theorem Zh0 {o t a pt p} (ht:Z0z R t pt) (h:Par R a 4 p) (hs:Sm (pt++[.sp,.op (o++[61]),.sp]++p)):Bd (e+2) (tn [97,115,115,105,103,110,111,112] [.str o,t,a]) (pt++[.sp,.op (o++[61]),.sp]++p):=by
 have e1:spell (pt++[.sp,.op (o++[61]),.sp]++p)=spell pt++[32]++(o++[61])++[32]++spell p:=by simp [Z8,Z0,Pc.sp1,ZW]
 have hl:=ZO hs e1
 have h37:=c37 (la:=0) (Z21 ok he ht (Nat.le_refl e)).1 (ok.pr he h) hl
 exact bd 39 e1 (by decide+kernel) (Z23 Zfh [.v (.str (spell pt++[32]++(o++[61])++[32]++spell p))] (pr' (pl (pl hl))) h37 (by kernel_rfl))
theorem ZeK {o t pt} (ht:Z0z R t pt) (hs:Sm (.op o::pt)):Bd (e+1) (tn [105,110,99,100,101,99] [.str o,.bool true,t]) (.op o::pt):=by
 have e1:spell (.op o::pt)=o++spell pt:=rfl
 exact bd 39 e1 (by decide+kernel) (Z23 Zfh [.v (.str (spell pt))] (Z21 ok he ht (Nat.le_refl e)).1 (ZO hs e1) (by kernel_rfl))
theorem ZeJ {o t pt} (ht:Z0z R t pt) (hs:Sm (pt++[.op o])):Bd (e+1) (tn [105,110,99,100,101,99] [.str o,.bool false,t]) (pt++[.op o]):=by
 have e1:spell (pt++[.op o])=spell pt++o:=by simp [Z8,Z0,Pc.sp1,ZW]
 exact bd 39 e1 (by decide+kernel) (Z23 Zfh [.v (.str (spell pt))] (Z21 ok he ht (Nat.le_refl e)).1 (ZO hs e1) (by kernel_rfl))
theorem ZeI {x c px pc} (hx:Par R x 19 px) (hc:(c,pc)∈clsTab) (hs:Sm (px++[.sp,.word [105,110,115,116,97,110,99,101,111,102],.sp]++pc)):Bd (e+2) (tn [105,110,115,116,97,110,99,101,111,102] [x,c]) (px++[.sp,.word [105,110,115,116,97,110,99,101,111,102],.sp]++pc):=by
 have e1:spell (px++[.sp,.word [105,110,115,116,97,110,99,101,111,102],.sp]++pc)=spell px++[32,105,110,115,116,97,110,99,101,111,102,32]++spell pc:=by rw [Z0,Z0];rfl
 have hl:=ZO hs e1
 exact bd 44 e1 (by decide+kernel) (Z22 Z9M [.v (.str (spell px)),.v (.str (spell pc))] (ok.pr (Nat.le_succ_of_le he) hx) (pl hl) (Zjc hc e) hl (by kernel_rfl))
theorem ZgV {x c px L pc} (hx:Par R x 19 px) (hc:R c L pc) (hs:Sm (px++[.sp,.word [105,110,115,116,97,110,99,101,111,102],.sp]++(if tagOf c=[118,97,114] then pc else Zm pc))):
  Bd (e+2) (tn [105,110,115,116,97,110,99,101,111,102] [x,c]) (px++[.sp,.word [105,110,115,116,97,110,99,101,111,102],.sp]++(if tagOf c=[118,97,114] then pc else Zm pc)):=by
 have h20:=c20 ok hc he
 generalize (if tagOf c=[118,97,114] then pc else Zm pc)=pc at hs h20 ⊢
 have e1:spell (px++[.sp,.word [105,110,115,116,97,110,99,101,111,102],.sp]++pc)=spell px++[32,105,110,115,116,97,110,99,101,111,102,32]++spell pc:=by rw [Z0,Z0];rfl
 have hl:=ZO hs e1
 exact bd 44 e1 (by decide+kernel) (Z22 Z9M [.v (.str (spell px)),.v (.str (spell pc))] (ok.pr (Nat.le_succ_of_le he) hx) (pl hl) h20 hl (by kernel_rfl))
omit ok he in
theorem ZgQ {n} (hs:Sm [.var n]):Bd (e+1) (tn [118,97,114] [.str n]) [.var n]:=by
 have e1:spell [.var n]=[36]++n:=by simp [Z8,Pc.sp1,ZW]
 exact bd 40 e1 (by decide+kernel) (Z4h Zfg [] (ZO hs e1) (by kernel_rfl))
omit ok he in
theorem ZgU {v p} (h:(v,p)∈litTab):Bd (e+3) (tn [108,105,116] [v]) [p]:=
 bd 44 (show spell [p]=p.sp1 from List.append_nil _) (by decide+kernel) (Z4X Z9M (c13 e h) (by kernel_rfl))
omit ok he in
theorem ZgX {n p} (h:(n,p)∈cstTab):Bd (e+2) (tn [99,111,110,115,116] [.str n]) p:=
 bd 44 rfl (by decide+kernel) (Z4X Z9M (c14 e h) (by kernel_rfl))
end
end Mine
namespace Mine
noncomputable def Z1j (ns:Bool):List Nat:=if ns then [63,45,62] else [45,62]
theorem Z7i (ns:Bool):(arrow ns).sp1=Z1j ns:=by cases ns<;>rfl
section
variable {R:Z0c} {D e:Nat} (ok:ROK R D) (he:D≤e)
include ok he
theorem ZcS {o m as ns po pm ps} (ho:Z1E R o po) (hm:Member R m pm) (ha:Args R as ps) (h4:4≤e) (hs:Sm (po++[arrow ns]++pm++argText ps)):
  Bd (e+2) (tn [109,99,97,108,108] [o,m,.tup as,.bool ns]) (po++[arrow ns]++pm++argText ps):=by
 have e1:spell (po++[arrow ns]++pm++argText ps)=spell po++Z1j ns++spell pm++spell (argText ps):=by
  rw [Z0,Z0,Z0,←Z7i,Z8,ZW,List.append_nil]
 have hl:=ZO hs e1
 have hs1:(spell (argText ps)).length≤1000000:=by have:=hs.1;rw [e1] at this;exact pr' this
 have h18:=c18 ok ho he
 have h21:=c21 ok hm he h4
 have h23:=c23 ok ha hs1 he
 refine bd 41 e1 (by decide+kernel) ?_
 generalize spell po=A at*
 generalize spell pm=B at*
 generalize spell (argText ps)=C at*
 cases ns with
 |true=>exact ZaX Zff [.v (.str A),.v (.str B),.v (.str C)] h18 (pl (pl hl)) h21 (pl hl) h23 hl (by kernel_rfl)
 |false=>exact ZaX Zff [.v (.str A),.v (.str B),.v (.str C)] h18 (pl (pl hl)) h21 (pl hl) h23 hl (by kernel_rfl)
theorem ZeF {o m ns po pm} (ho:Z1E R o po) (hm:Member R m pm) (h4:4≤e) (hs:Sm (po++[arrow ns]++pm)):Bd (e+2) (tn [112,114,111,112] [o,m,.bool ns]) (po++[arrow ns]++pm):=by
 have e1:spell (po++[arrow ns]++pm)=spell po++Z1j ns++spell pm:=by
  rw [Z0,Z0,←Z7i,Z8,ZW,List.append_nil]
 have hl:=ZO hs e1
 have h18:=c18 ok ho he
 have h21:=c21 ok hm he h4
 refine bd 40 e1 (by decide+kernel) ?_
 generalize spell po=A at*
 generalize spell pm=B at*
 cases ns with
 |true=>exact Z22 Zfg [.v (.str A),.v (.str B)] h18 (pl hl) h21 hl (by kernel_rfl)
 |false=>exact Z22 Zfg [.v (.str A),.v (.str B)] h18 (pl hl) h21 hl (by kernel_rfl)
theorem ZgW {o i po L pi} (ho:Z1E R o po) (hi:R i L pi) (hs:Sm (po++[.op [91]]++pi++[.op [93]])):Bd (e+2) (tn [100,105,109] [o,i]) (po++[.op [91]]++pi++[.op [93]]):=by
 have e1:spell (po++[.op [91]]++pi++[.op [93]])=spell po++[91]++spell pi++[93]:=by
  rw [Z0,Z0,Z0];rfl
 have hl:=ZO hs e1
 have h18:=c18 ok ho he
 have hi':=Z4W ok hi (Nat.le_succ_of_le he)
 refine bd 40 e1 (by decide+kernel) ?_
 obtain ⟨t,f,r,-,rfl⟩:=ok.shp hi
 exact Zeu Zfg [.v (.str (spell pi)),.v (.str (spell po))] hi' h18 (pl (pl hl)) (pl hl) hl (by kernel_rfl)
theorem ZeM {o po} (ho:Z1E R o po) (hs:Sm (po++[.op [91],.op [93]])):Bd (e+2) (tn [100,105,109] [o,.none]) (po++[.op [91],.op [93]]):=by
 have e1:spell (po++[.op [91],.op [93]])=spell po++[91]++[]++[93]:=by
  rw [Z0,List.append_nil,List.append_assoc];rfl
 have hl:=ZO hs e1
 exact bd 40 e1 (by decide+kernel) (Z22 Zfg [.v (.str (spell po))] (c18 ok ho he) (pl (pl hl)) (pl hl) hl (by kernel_rfl))
theorem ZcV {as ps} (ha:Args R as ps) (hs:Sm (.word [102]::argText ps)):Bd (e+2) (tn [99,97,108,108] [tn [110,97,109,101] [.str [102]],.tup as]) (.word [102]::argText ps):=by
 have e1:spell (.word [102]::argText ps)=[102]++spell (argText ps):=rfl
 have hl:=ZO hs e1
 have hs1:(spell (argText ps)).length≤1000000:=by have:=hs.1;rw [e1] at this;exact pr' this
 exact bd 41 e1 (by decide+kernel) (Z23 Zff [.v (.str (spell (argText ps)))] (c23 ok ha hs1 he) hl (by kernel_rfl))
theorem ZcU {o as po ps} (ho:Z1E R o po) (ha:Args R as ps) (hs:Sm ((if tagOf o=[112,114,111,112] then Zm po else po)++argText ps)):
  Bd (e+2) (tn [99,97,108,108] [o,.tup as]) ((if tagOf o=[112,114,111,112] then Zm po else po)++argText ps):=by
 have e1:spell ((if tagOf o=[112,114,111,112] then Zm po else po)++argText ps)=Z3X (decide (tagOf o=[112,114,111,112])) (spell po)++spell (argText ps):=by
  rw [Z0];congr 1
  unfold Z3X
  by_cases h:tagOf o=[112,114,111,112]
  ·rw [if_pos h,if_pos (decide_eq_true h),Zh]
  ·rw [if_neg h,if_neg (by simpa using h)]
 have hl:=ZO hs e1
 have hs1:(spell (argText ps)).length≤1000000:=by have:=hs.1;rw [e1] at this;exact pr' this
 have h18:=c18 ok ho he
 have h23:=c23 ok ha hs1 he
 refine bd 41 e1 (by decide+kernel) ?_
 obtain ⟨L,q,hq,-⟩:=ho
 obtain ⟨t,f,r,ht,rfl,e2⟩:=Z3x ok hq
 have e3:∀x∈grpTab,[[112,114,111,112],[115,112,114,111,112],[99,99,111,110,115,116]].contains x.1=decide (x.1=[112,114,111,112]):=by decide+kernel
 have e3:=e3 _ ht
 have e4:MV.bool (([[112,114,111,112],[115,112,114,111,112],[99,99,111,110,115,116]].map MV.str).any (MV.str t).eqv)=.bool (decide (t=[112,114,111,112])):=by rw [Z2n,e3]
 have e5:decide (tagOf (.tup (.str t::r))=[112,114,111,112])=decide (t=[112,114,111,112]):=rfl
 rw [e5] at hl ⊢
 cases hβ:decide (t=[112,114,111,112]) with
 |true=>
  rw [hβ] at hl e4
  exact ZbI Zff [.t false,.t false,.t false,.t false,.v (.str (spell po)),.t true,.v (.str (spell (argText ps)))] (Eq.refl (MV.bool false)) (Eq.refl (MV.bool false)) (Eq.refl (MV.bool false)) e2 h18 e4 (pl (pl hl)) (pl hl) h23 hl (by kernel_rfl)
 |false=>
  rw [hβ] at hl e4
  exact Zes Zff [.t false,.t false,.t false,.t false,.v (.str (spell po)),.t false,.v (.str (spell (argText ps)))] (Eq.refl (MV.bool false)) (Eq.refl (MV.bool false)) (Eq.refl (MV.bool false)) e2 h18 e4 h23 hl (by kernel_rfl)
theorem ZgZ {is ps} (h:Items R is ps) (hs:Sm (.op [91]::(Z2 ps++[.op [93]]))):Bd (e+3) (tn [97,114,114,97,121] [.tup is]) (.op [91]::(Z2 ps++[.op [93]])):=by
 have e1:spell (.op [91]::(Z2 ps++[.op [93]]))=[91]++spell (Z2 ps)++[93]:=by
  rw [Z8,Z0,List.append_assoc];rfl
 have hs1:=hs.1
 rw [e1] at hs1
 exact bd 44 e1 (by decide+kernel) (Z4X Z9M (c25 ok h hs1 he) (by kernel_rfl))
theorem ZeG {x as L pe ps} (hv:R x L pe) (h:Arms R as ps) (hs:Sm (.word [109,97,116,99,104]:: .sp::(Zm pe++[.sp]++Z2l (Z2 ps)))):Bd (e+2) (tn [109,97,116,99,104] [x,.tup as]) (.word [109,97,116,99,104]:: .sp::(Zm pe++[.sp]++Z2l (Z2 ps))):=by
 have e1:spell (.word [109,97,116,99,104]:: .sp::(Zm pe++[.sp]++Z2l (Z2 ps)))=[109,97,116,99,104,32,40]++spell pe++[41,32,123]++spell (Z2 ps)++[125]:=by
  simp [Z8,Z0,Pc.sp1,ZW,Zh,Z16]
 have hs1:=hs.1
 rw [e1] at hs1
 exact bd 44 e1 (by decide+kernel) (Z4X Z9M (c35 ok hv h hs1 he) (by kernel_rfl))
theorem ZeL {x L pe} (hv:R x L pe) (hs:Sm (.word [101,109,112,116,121]::Zm pe)):Bd (e+1) (tn [101,109,112,116,121] [x]) (.word [101,109,112,116,121]::Zm pe):=by
 have e1:spell (.word [101,109,112,116,121]::Zm pe)=[101,109,112,116,121,40]++spell pe++[41]:=by
  rw [Z8,Zh];rfl
 have hl:=ZO hs e1
 exact bd 44 e1 (by decide+kernel) (ZcL Z9M [.v (.str (spell pe))] (Z4W ok hv he) (pl hl) hl (by kernel_rfl))
theorem ZeH {ts ps} (h:Raws R ts ps) (hs:Sm (.word [105,115,115,101,116]::Zm (Z2 ps))):Bd (e+2) (tn [105,115,115,101,116] [.tup ts]) (.word [105,115,115,101,116]::Zm (Z2 ps)):=by
 have e1:spell (.word [105,115,115,101,116]::Zm (Z2 ps))=[105,115,115,101,116,40]++spell (Z2 ps)++[41]:=by
  rw [Z8,Zh];rfl
 have hl:=ZO hs e1
 have hs1:(spell (Z2 ps)).length≤1000000:=by have:=hs.1;rw [e1] at this;exact pr' (pl this)
 exact bd 44 e1 (by decide+kernel) (ZcL Z9M [.v (.str (spell (Z2 ps)))] (c17 ok h hs1 he) (pl hl) hl (by kernel_rfl))
theorem ZeB {v L p} (n:Node R v L p) (hs:Sm p) (h4:4≤e):Bd (e+9) v p:=by
 induction n with
 |var h=>exact Z06 (ZgQ (e:=e) hs) (by lia)
 |lit h=>exact Z06 (ZgU (e:=e) h) (by lia)
 |cst h=>exact Z06 (ZgX (e:=e) h) (by lia)
 |un h1 h2=>exact Z06 (Zit ok he h1 h2 hs) (by lia)
 |not h=>exact Z06 (ZgT ok he h hs) (by lia)
 |cast _ h=>exact Z06 (ZeN ok he h hs) (by lia)
 |sil h=>exact Z06 (ZgR ok he h hs) (by lia)
 |pre h1 h=>exact Z06 (ZgS ok he h1 h hs) (by lia)
 |yfrom h=>exact Z06 (ZcR ok he h hs) (by lia)
 |yld0=>exact Z06 (ZeD (e:=e)) (by lia)
 |yld h=>exact Z06 (ZgP ok he h) (by lia)
 |yldk h1 h=>exact Z06 (ZeC ok he h1 h) (by lia)
 |bin h1 h2 h3=>exact Z06 (ZgY ok he h1 h2 h3 hs) (by lia)
 |lg h1 h2 h3=>exact Z06 (Ziu ok he h1 h2 h3 hs) (by lia)
 |elvis h1 h2=>exact Z06 (ZcT ok he h1 h2 hs) (by lia)
 |tern h1 h2 h3=>exact Z06 (ZeE ok he h1 h2 h3 hs) (by lia)
 |asg h1 h2=>exact Z06 (ZeO ok he e (Z21 ok he h1 (Nat.le_refl e)).1 he h2 hs) (by lia)
 |asgl h1 h2=>
  have hp:=hs.1
  exact ZeO ok he (e+7) (Ziq ok he h1 (Z6u ok he hp)) (by lia) h2 hs
 |aref h1 h2 h3=>exact Z06 (ZeP ok he h1 h3 hs) (by lia)
 |aop _ h1 h2=>exact Z06 (Zh0 ok he h1 h2 hs) (by lia)
 |incp _ h=>exact Z06 (ZeK ok he h hs) (by lia)
 |incs _ h=>exact Z06 (ZeJ ok he h hs) (by lia)
 |insn h1 h2=>exact Z06 (ZeI ok he h1 h2 hs) (by lia)
 |ins h1 h2=>exact Z06 (ZgV ok he h1 h2 hs) (by lia)
 |mcall h1 h2 h3=>exact Z06 (ZcS ok he h1 h2 h3 h4 hs) (by lia)
 |prop h1 h2=>exact Z06 (ZeF ok he h1 h2 h4 hs) (by lia)
 |dim h1 h2=>exact Z06 (ZgW ok he h1 h2 hs) (by lia)
 |dim0 h1=>exact Z06 (ZeM ok he h1 hs) (by lia)
 |callf h=>exact Z06 (ZcV ok he h hs) (by lia)
 |callo h1 h2=>exact Z06 (ZcU ok he h1 h2 hs) (by lia)
 |arr h=>exact Z06 (ZgZ ok he h hs) (by lia)
 |mtch h1 h2=>exact Z06 (ZeG ok he h1 h2 hs) (by lia)
 |empt h=>exact Z06 (ZeL ok he h hs) (by lia)
 |iset h=>exact Z06 (ZeH ok he h hs) (by lia)
end
theorem Z7j {R:Z0c} {D:Nat} (ok:ROK R D):ROK (Nd R) (D+14) where
 shp h:=by
  obtain ⟨t,f,r,m,e,-⟩:=ZeB (e:=D+4) ok (Nat.le_add_right D 4) h.1 h.2 (Nat.le_add_left 4 D)
  exact ⟨t,f,r,m,e⟩
 sm h:=h.2
 pr:=by
  intro a above p d hd h
  obtain ⟨L,q,⟨hn,hs⟩,rfl⟩:=h
  obtain ⟨t,f,r,m,rfl,hb⟩:=ZeB (e:=D+4) ok (Nat.le_add_right D 4) hn hs (Nat.le_add_left 4 D)
  have h10:=Z1U (c10 ok hn (D+11)) (Nat.le_refl (D+13))
  have h45:=c45 (above:=above) m hb h10 (Z4S hs)
  have e1:spell (if L<above then Zm q else q)=Z3X (decide (L<above)) (spell q):=by
   unfold Z3X
   by_cases h:L<above
   ·rw [if_pos h,if_pos (decide_eq_true h),Zh]
   ·rw [if_neg h,if_neg (by simpa using h)]
  rw [e1]
  exact Z1U h45 hd
theorem Zip:ROK (fun _ _ _=>False) 0:=⟨fun h=>h.elim,fun h=>h.elim,fun _ h=>by obtain ⟨_,_,h,_⟩:=h;exact h.elim⟩
theorem Zec {R R':Z0c} {D D':Nat} (o:ROK R D) (o':ROK R' D') (hD:D≤D'):ROK (fun v L p=>R v L p∨R' v L p) D' where
 shp h:=h.elim o.shp o'.shp
 sm h:=h.elim o.sm o'.sm
 pr hd h:=by
  obtain ⟨L,q,h,e⟩:=h
  rcases h with h|h
  ·exact o.pr (Nat.le_trans hD hd) ⟨L,q,h,e⟩
  ·exact o'.pr hd ⟨L,q,h,e⟩
theorem rok:∀h,ROK (PT h) (14*(h+1))
 |0=>Z7j Zip
 |h+1=>Zec (rok h) (Z7j (rok h)) (by lia)
theorem Zeo {h v L p} (t:PT h v L p) {d:Nat} (hd:14*(h+1)≤d):E45 d v 0 (spell p):=Z4W (rok h) t hd
end Mine
namespace Mine
noncomputable def Z3e (c:Nat):Bool:=c==95||(decide (97≤c)&&decide (c≤122))||(decide (65≤c)&&decide (c≤90))
noncomputable def Z8k (c:Nat):Bool:=decide (48≤c)&&decide (c≤57)
noncomputable def isLD (c:Nat):Bool:=Z3e c||Z8k c
theorem c56 {c:Nat} (h:c∈List.range 128) (d:Nat):Pct (Z3 FT (d+1)) 56 [.str [c]] (.bool (Z3e c)):=by
 refine Za ZiT (t:=[]) ?_
 have:=Z00 (tab:=List.range 128) (F:=fun c=>Z1r (Z3 FT d) 1 1 [] b56 [.str [c]] [] (.bool (Z3e c))) (G:=fun c=>MV.bool (Z3e c)=.bool (Z3e c)) (by kernel_rfl) h rfl
 exact this
theorem Zg4 {c:Nat} (h:c∈List.range 128):([48,49,50,51,52,53,54,55,56,57].contains c)=Z8k c:=by
 have:∀c∈List.range 128,([48,49,50,51,52,53,54,55,56,57].contains c)=Z8k c:=by decide+kernel
 exact this c h
theorem ltN {i n:Nat} {j:Int} (e:j=(i:Int)) (h:i<n):MV.bool (decide (j<(n:Int)))=.bool true:=by rw [e];exact ltT h
theorem c58 {T:List Nat} (ha:Ze T=true) (n d:Nat):Pct (Z3 FT (d+2)) 58 [.str T,.int n] (.int (n+runLen isLD (T.drop n):Nat)):=by
 intro σ Q q
 refine Z03 ZiR rfl ?_
 unfold b58
 refine Z1I [] (ρ':=[some (.str T),some (.int n),some (.int (n:Nat))]) (fun _ f=>f) (by kernel_rfl) ?_
 unfold wpSs
 refine Zgu (mk:=fun i=>[some (.str T),some (.int n),some (.int ((n+i:Nat):Int))]) (j:=runLen isLD (T.drop n)) (fun i hi σ Q q=>?_) (fun σ Q q=>?_) (fun i hi σ Q q=>?_) (i:=0) (Nat.zero_le _) ?_
 ·obtain ⟨c,hc,hn⟩:=Z3F hi
  rw [List.getElem?_drop] at hc
  have hr:=asc ha hc
  have h5:=c56 hr d
  have h6:=Zg4 hr
  obtain ⟨hl,-⟩:=List.getElem?_eq_some_iff.1 hc
  unfold isLD at hn
  cases hL:Z3e c with
  |true=>
   rw [hL] at h5
   exact Z0E [.t true,.g (.str [c]),.v (.bool true),.t true] (ai5 (ltT hl) (getT hc) h5 (Eq.refl (MV.bool true)) (Eq.refl (MV.bool true))) (by kernel_rfl) q
  |false=>
   rw [hL] at h5 hn
   have hi:MV.bool ([48,49,50,51,52,53,54,55,56,57].contains c)=.bool true:=by rw [h6,show Z8k c=true from hn]
   exact Z0E [.t true,.g (.str [c]),.v (.bool false),.t false,.g (.str [c])] (ai6 (ltT hl) (getT hc) h5 (Eq.refl (MV.bool false)) (getT hc) hi) (by kernel_rfl) q
 ·by_cases hl:n+runLen isLD (T.drop n)<T.length
  ·obtain ⟨c,hc⟩:∃c,T[n+runLen isLD (T.drop n)]? =some c:=⟨_,List.getElem?_eq_getElem hl⟩
   have hr:=asc ha hc
   have h5:=c56 hr d
   have h6:=Zg4 hr
   have hn:isLD c=false:=Z2v (s:=T.drop n) (by rw [List.getElem?_drop];exact hc)
   unfold isLD at hn
   obtain ⟨hL,hD⟩:=Bool.or_eq_false_iff.1 hn
   rw [hL] at h5
   have hi:MV.bool ([48,49,50,51,52,53,54,55,56,57].contains c)=.bool false:=by rw [h6,hD]
   exact Z0E [.t true,.g (.str [c]),.v (.bool false),.t false,.g (.str [c])] (ai6 (ltT hl) (getT hc) h5 (Eq.refl (MV.bool false)) (getT hc) hi) (by kernel_rfl) q
  ·exact Z0E [.t false] (ai2 (ltF hl) (Eq.refl (MV.bool false))) (by kernel_rfl) q
 ·exact Z5J [] (ai2 (Eq.refl Out.next) (Eq.refl [some (MV.str T),some (MV.int n),some (.int ((n+(i+1):Nat):Int))])) (by kernel_rfl) q
 ·exact ZaU [] (Eq.refl (Out.ret (.int ((n+runLen isLD (T.drop n):Nat):Int)))) (by kernel_rfl) fun ρ=>⟨σ,Z0Z,q⟩
noncomputable def signs:List (List Nat):=[[61,61,61],[33,61,61],[60,61,62],[42,42,61],[60,60,61],[63,63,61],[63,45,62],[46,46,46],[61,61],[33,61],[60,61],[62,61],[38,38],[124,124],[63,63],[43,43],[45,45],[43,61],[46,61],[38,61],[61,62],[45,62],[60,60],[62,62],[42,42]]
noncomputable def sgn (t:List Nat):List Nat:=if signs.contains (t.take 3) then t.take 3 else if signs.contains (t.take 2) then t.take 2 else t.take 1
theorem Z2x (T:List Nat) (n k:Nat):Z1s T (.int (n:Nat)) (.int ((n+k:Nat):Int))=(T.drop n).take k:=by
 have h1:∀(d m:Nat),pyBnd T.length d (.int (m:Nat))=min m T.length:=fun d m=>by
  show (if (0:Int)≤(m:Int) then min ((m:Int).toNat) T.length else ((m:Int)+T.length).toNat)=_
  rw [if_pos (Int.natCast_nonneg m)];rfl
 unfold Z1s
 rw [h1,h1]
 by_cases h:n≤T.length
 ·rw [Nat.min_eq_left h,List.drop_take]
  by_cases h2:n+k≤T.length
  ·rw [Nat.min_eq_left h2,Nat.add_sub_cancel_left]
  ·rw [Nat.min_eq_right (by lia),List.take_of_length_le (by rw [List.length_drop];lia),List.take_of_length_le (by rw [List.length_drop];lia)]
 ·rw [Nat.min_eq_right (by lia),Nat.min_eq_right (by lia),List.drop_of_length_le (by rw [List.length_take];lia),List.drop_of_length_le (by lia),List.take_nil]
theorem Z2L (t:List Nat) (l:List (List Nat)) {β:Bool} (h:l.contains t=β):MV.bool ((l.map MV.str).any (MV.str t).eqv)=.bool β:=by rw [Z2n,h]
theorem c59 (T:List Nat) (n d:Nat):Pct (Z3 FT (d+1)) 59 [.str T,.int n] (.str (sgn (T.drop n))):=by
 unfold sgn
 cases h3:signs.contains ((T.drop n).take 3) with
 |true=>
  have e3:=Z2L _ _ h3
  rw [←Z2x] at e3 ⊢
  exact Z23 Zhf [.t false,.t true] (Eq.refl (MV.bool false)) e3 (by kernel_rfl)
 |false=>
  have e3:=Z2L _ _ h3
  rw [←Z2x] at e3
  cases h2:signs.contains ((T.drop n).take 2) with
  |true=>
   have e2:=Z2L _ _ h2
   rw [←Z2x] at e2
   rw [if_neg (by decide),if_pos rfl,←Z2x]
   exact Z22 Zhf [.t false,.t false,.t false,.t true] (Eq.refl (MV.bool false)) e3 (Eq.refl (MV.bool false)) e2 (by kernel_rfl)
  |false=>
   have e2:=Z2L _ _ h2
   rw [←Z2x] at e2
   rw [if_neg (by decide),if_neg (by decide),←Z2x]
   exact Z22 Zhf [.t false,.t false,.t false,.t false] (Eq.refl (MV.bool false)) e3 (Eq.refl (MV.bool false)) e2 (by kernel_rfl)
end Mine
namespace Mine
theorem Z4G (a b:List Nat):esc (a++b)=esc a++esc b:=List.flatMap_append
theorem Z5c (c:Nat) (r:List Nat):esc (c::r)=Zdm c++esc r:=rfl
theorem Z0H (a b:List Nat):(a++b).drop a.length=b:=List.drop_left
theorem Z1i {T a b:List Nat} {n:Nat} (h:T=a++b) (hn:n=a.length) (k:Nat):T[n+k]? =b[k]?:=by
 rw [h,hn,List.getElem?_append_right (Nat.le_add_right _ _),Nat.add_sub_cancel_left]
theorem Zis {c:Nat} (k:Nat) (h:c≠k):MV.bool (([c]==[k]) !=true)=.bool true:=by
 rw [show ([c]==[k])=false from beq_eq_false_iff_ne.2 (by simpa using h)];rfl
theorem eqF {c:Nat} (k:Nat) (h:c≠k):MV.bool (([c]==[k]) !=false)=.bool false:=by
 rw [show ([c]==[k])=false from beq_eq_false_iff_ne.2 (by simpa using h)];rfl
theorem Zdl (s:List Nat):s.length≤(esc s).length:=by
 induction s with
 |nil=>exact Nat.le_refl 0
 |cons c r ih=>
  rw [Z5c,List.length_append,List.length_cons]
  have:1≤(Zdm c).length:=by
   unfold Zdm
   by_cases h1:c=92
   ·rw [if_pos h1];decide
   ·rw [if_neg h1]
    by_cases h2:c=39
    ·rw [if_pos h2];decide
    ·rw [if_neg h2];exact Nat.le_refl 1
  lia
theorem addT (a b:Int):PrT .add [.int a,.int b] (.int (a+b)):=Z5K rfl rfl
theorem c57 {T a s t:List Nat} (hT:T=a++(39::(esc s++39::t))) (hs:T.length≤1000000) (d:Nat):
  Pct (Z3 FT (d+1)) 57 [.str T,.int a.length] (.tup [tk [116,101,120,116] s,.int ((a.length+((esc s).length+2):Nat):Int)]):=by
 intro σ Q q
 refine Z03 ZiS rfl ?_
 unfold b57
 have hlen:s.length≤1000000:=by
  have:=Zdl s
  rw [hT] at hs;simp only [List.length_append,List.length_cons] at hs;lia
 refine Z1I [] (ρ':=[some (.str T),some (.int a.length),some (.str [])]) (fun _ f=>f) (by kernel_rfl) ?_
 refine Z1I [] (ρ':=[some (.str T),some (.int ((a.length+1:Nat):Int)),some (.str [])]) (fun _ f=>f) (by kernel_rfl) ?_
 unfold wpSs
 have pos:∀i,T=(a++39::esc (s.take i))++(esc (s.drop i)++39::t):=fun i=>by
  rw [hT]
  conv=>lhs;rw [←List.take_append_drop i s,Z4G]
  simp
 have posn:∀i,a.length+1+(esc (s.take i)).length=(a++39::esc (s.take i)).length:=fun i=>by
  simp only [List.length_append,List.length_cons];lia
 refine Zgu (mk:=fun i=>[some (.str T),some (.int ((a.length+1+(esc (s.take i)).length:Nat):Int)),some (.str (s.take i))]) (j:=s.length) (fun i hi σ Q q=>?_) (fun σ Q q=>?_) (fun i hi σ Q q=>?_) (i:=0) (Nat.zero_le _) ?_
 ·have hp:=Z1i (pos i) (posn i) 0
  rw [List.drop_eq_getElem_cons hi,Z5c] at hp
  generalize a.length+1+(esc (s.take i)).length=P at hp ⊢
  generalize s[i]=c at hp
  unfold Zdm at hp
  by_cases h1:c=92
  ·rw [if_pos h1] at hp
   exact Z0E [.g (.str [92])] (ai2 (getT (i:=P) hp) (Eq.refl (MV.bool true))) (by kernel_rfl) q
  ·rw [if_neg h1] at hp
   by_cases h2:c=39
   ·rw [if_pos h2] at hp
    exact Z0E [.g (.str [92])] (ai2 (getT (i:=P) hp) (Eq.refl (MV.bool true))) (by kernel_rfl) q
   ·rw [if_neg h2] at hp
    exact Z0E [.g (.str [c])] (ai2 (getT (i:=P) hp) (Zis 39 h2)) (by kernel_rfl) q
 ·have hp:=Z1i (pos s.length) (posn s.length) 0
  rw [List.drop_length] at hp
  generalize a.length+1+(esc (s.take s.length)).length=P at hp ⊢
  exact Z0E [.g (.str [39])] (ai2 (getT (i:=P) hp) (Eq.refl (MV.bool false))) (by kernel_rfl) q
 ·have hp:=Z1i (pos i) (posn i) 0
  have hp1:=Z1i (pos i) (posn i) 1
  have e1:s.take (i+1)=s.take i++[s[i]]:=List.take_succ_eq_append_getElem hi
  have e2:(esc (s.take (i+1))).length=(esc (s.take i)).length+(Zdm s[i]).length:=by
   rw [e1,Z4G,List.length_append];simp [esc]
  rw [List.drop_eq_getElem_cons hi,Z5c] at hp hp1
  have hl:(s.take i++[s[i]]).length≤SL:=by
   rw [←e1,List.length_take];unfold SL;lia
  rw [e2] at q
  rw [←Nat.add_assoc] at q
  rw [e1] at q
  generalize a.length+1+(esc (s.take i)).length=P at hp hp1 q ⊢
  generalize s[i]=c at hp hp1 q hl
  generalize s.take i=u at q hl ⊢
  unfold Zdm at hp hp1 q
  by_cases h1:c=92
  ·subst h1
   exact Z5J [.g (.str [92]),.t true,.g (.int ((P:Int)+1)),.g (.str [92]),.t true,.g (.int ((P:Int)+1)),.g (.str [92])] (ai9 (getT (i:=P) hp) (Eq.refl (MV.bool true)) (addT P 1) (getT (i:=P+1) hp1) (Eq.refl (MV.bool true)) (addT P 1) (getT (i:=P+1) hp1) hl (And.intro (Eq.refl Out.next) (Eq.refl [some (MV.str T),some (.int ((P+2:Nat):Int)),some (.str (u++[92]))]))) (by kernel_rfl) q
  ·rw [if_neg h1] at hp hp1 q
   by_cases h2:c=39
   ·subst h2
    exact Z5J [.g (.str [92]),.t true,.g (.int ((P:Int)+1)),.g (.str [39]),.t true,.g (.int ((P:Int)+1)),.g (.str [39])] (ai9 (getT (i:=P) hp) (Eq.refl (MV.bool true)) (addT P 1) (getT (i:=P+1) hp1) (Eq.refl (MV.bool true)) (addT P 1) (getT (i:=P+1) hp1) hl (And.intro (Eq.refl Out.next) (Eq.refl [some (MV.str T),some (.int ((P+2:Nat):Int)),some (.str (u++[39]))]))) (by kernel_rfl) q
   ·rw [if_neg h2] at hp q
    exact Z5J [.g (.str [c]),.t false,.g (.str [c])] (ai6 (getT (i:=P) hp) (eqF 92 h1) (getT (i:=P) hp) hl (Eq.refl Out.next) (Eq.refl [some (MV.str T),some (.int ((P+1:Nat):Int)),some (.str (u++[c]))])) (by kernel_rfl) q
 ·have e3:s.take s.length=s:=List.take_length
  rw [e3]
  have e4:a.length+1+(esc s).length+1=a.length+((esc s).length+2):=by lia
  rw [←e4] at q
  exact ZaU [] (Eq.refl (Out.ret (.tup [tk [116,101,120,116] s,.int ((a.length+1+(esc s).length+1:Nat):Int)]))) (by kernel_rfl) fun ρ=>⟨σ,Z0Z,q⟩
noncomputable def Z1Q:List (List Nat×MV):=[([105,110,116],.str [105,110,116]),([105,110,116,101,103,101,114],.str [105,110,116]),([98,111,111,108],.str [98,111,111,108]),([98,111,111,108,101,97,110],.str [98,111,111,108]),([115,116,114,105,110,103],.str [115,116,114,105,110,103]),([98,105,110,97,114,121],.str [115,116,114,105,110,103]),([97,114,114,97,121],.str [97,114,114,97,121]),([111,98,106,101,99,116],.str [111,98,106,101,99,116])]
theorem c61 (d:Nat):Pct (Z3 FT (d+1)) 61 [] (.dict Z1Q):=Z4Y ZiP [] (by kernel_rfl)
end Mine
namespace Mine
noncomputable def nLD (t:List Nat):Prop:=∀c,t.head? =some c→isLD c=false
noncomputable def adj (s:List Nat) (h:Option Nat):Bool:=match h with
 |none=>true
 |some c=>signs.all (fun t=> !((s++[c]).isPrefixOf t))&& !(s==[47]&&c==42)
noncomputable def casts:List (List Nat):=Z1Q.map Prod.fst
noncomputable def Z0v (t:List Nat):Bool:=casts.contains (lowerL (t.take (runLen isLD t)))&&(t.drop (runLen isLD t)).head? ==some 41
noncomputable def opC (c:Nat):Bool:= !(c==32||c==36||c==39||isLD c)
noncomputable def opS (s:List Nat):Bool:=(s.length==1||signs.contains s)&&s.all opC
noncomputable def ok1:Pc→List Nat→Prop
 | .sp,_=>True
 | .cmt,_=>True
 | .op s,t=>opS s=true∧adj s t.head? =true∧(s=[40]→Z0v t=false)
 | .word w,t=>w≠[]∧w.all Z3e=true∧nLD t
 | .var w,t=>w≠[]∧w.all isLD=true∧nLD t
 | .int w,t=>w≠[]∧w.all Z8k=true∧nLD t
 | .text _,_=>True
 | .cast s,_=>s∈castTab
noncomputable def Z31:List Pc→List Nat→Prop
 |[],_=>True
 |x::r,c=>ok1 x (spell r++c)∧Z31 r c
theorem Z12 {p q:List Pc} {c:List Nat}:Z31 (p++q) c↔Z31 p (spell q++c)∧Z31 q c:=by
 induction p with
 |nil=>exact ⟨fun h=>⟨trivial,h⟩,fun h=>h.2⟩
 |cons x r ih=>
  show ok1 x (spell (r++q)++c)∧Z31 (r++q) c↔(ok1 x (spell r++(spell q++c))∧Z31 r (spell q++c))∧Z31 q c
  rw [ih,Z0,List.append_assoc,and_assoc]
theorem Z2w {f:Nat→Bool} {w t:List Nat} (h:w.all f=true) (ht:∀c,t.head? =some c→f c=false):runLen f (w++t)=w.length:=by
 unfold runLen
 induction w with
 |nil=>
  cases t with
  |nil=>rfl
  |cons c r=>rw [List.nil_append,List.takeWhile_cons,ht c rfl];rfl
 |cons a w ih=>
  rw [List.all_cons,Bool.and_eq_true_iff] at h
  rw [List.cons_append,List.takeWhile_cons,h.1]
  exact congrArg Nat.succ (ih h.2)
theorem Z1T {C:Zv} {b:Addr} {body:List CS} {ρ:Loc} {l l':List MV} {ρ':Loc} (t:List TE) {A:Prop→Prop} (a:∀F:Prop,F→A F)
  (h:Z3h C (sB b) body ρ ⟨none,some l⟩ t (fun o ρ1 κ1 _=>o=.next∧ρ1=ρ'∧κ1.c2=some l')=A (Out.next=.next∧ρ'=ρ'∧some l'=some l'))
  {σ0:Z4} {Q:Zn} (q:Q .next ρ' (upd σ0 b l')):wpSs C body ρ (upd σ0 b l) Q:=
 Zl (s:=sB b) body ρ ⟨none,some l⟩ t _ _ Q (ZD (a _ ⟨rfl,rfl,rfl⟩) h) ⟨trivial,Z9 σ0 b l⟩ fun o ρ1 κ1 t' e k=>by
  obtain ⟨c1,c2⟩:=κ1
  obtain ⟨rfl,rfl,k⟩:=k
  obtain ⟨e1,e2⟩:=e
  cases c1 with
  |some _=>cases e1
  |none=>
   cases k
   show Q .next ρ1 (upd (upd σ0 b l) b l')
   rw [Z0A];exact q
noncomputable def lexW:CS:=match b60 with|[_,_,w,_]=>w|_=>.bad
noncomputable def Zd2:List CS:=match lexW with| .while _ b=>b|_=>[]
noncomputable def Zh2:CE:=match lexW with| .while t _=>t|_=>.var 0
noncomputable def Zbv (d:Nat) (T:List Nat) (b:Addr) (n n':Nat) (l l':List MV):Prop:=∀(x3 x4 x5:Option MV) (σ0:Z4) (Q:Zn),
 (∀y3 y4 y5,Q .next [some (.str T),some (.lst b),some (.int (n':Nat)),y3,y4,y5] (upd σ0 b l'))→wpSs (Z3 FT d) Zd2 [some (.str T),some (.lst b),some (.int (n:Nat)),x3,x4,x5] (upd σ0 b l) Q
theorem Zd6 {c} (h:opC c=true):c≠32∧c≠36∧c≠39∧Z3e c=false∧Z8k c=false:=by
 unfold opC isLD at h
 simp at h
 obtain ⟨⟨⟨h1,h2⟩,h3⟩,h4,h5⟩:=h
 exact ⟨h1,h2,h3,h4,h5⟩
theorem sl4 {T a u:List Nat} {c:Nat} (hT:T=a++c::u) (h:c≠47∨u.head?≠some 42):MV.bool ((Z1s T (.int a.length) (.int ((a.length+4:Nat):Int))==[47,42,42,47]) !=false)=.bool false:=by
 rw [Z2x,hT,Z0H,neF]
 congr 1
 refine beq_eq_false_iff_ne.2 fun e=>?_
 cases u with
 |nil=>cases e
 |cons x u=>
  have e1:c=47∧x=42:=by
   simp only [List.take_succ_cons] at e
   injection e with e1 e2
   injection e2 with e2 _
   exact ⟨e1,e2⟩
  rcases h with h|h
  ·exact h e1.1
  ·exact h (congrArg some e1.2)
section
variable {T a t:List Nat} (ha:Ze T=true) (hn:T.length≤1000000) (d:Nat) (b:Addr) {l:List MV} (hl:l.length≤a.length)
include ha hn hl
theorem Zij (hT:T=a++(32::t)):Zbv (d+3) T b a.length (a.length+1) l l:=fun x3 x4 x5 σ0 Q q=>
 Z1T [.g (.str [32]),.v (.int ((a.length+1+runLen isLD (T.drop (a.length+1)):Nat):Int))] (ρ':=[some (.str T),some (.lst b),some (.int ((a.length+1:Nat):Int)),some (.str [32]),some (.int ((a.length+1+runLen isLD (T.drop (a.length+1)):Nat):Int)),x5])
  (fun _ f=>ai3 (getT (i:=a.length) (Z1i hT rfl 0)) (c58 ha (a.length+1) (d+1)) f) (by kernel_rfl) (q _ _ _)
theorem Zgm (hT:T=a++(47::42::42::47::t)):Zbv (d+3) T b a.length (a.length+4) l l:=fun x3 x4 x5 σ0 Q q=>by
 have e4:MV.bool ((Z1s T (.int a.length) (.int ((a.length+4:Nat):Int))==[47,42,42,47]) !=false)=.bool true:=by
  rw [Z2x,hT,Z0H];rfl
 exact Z1T [.g (.str [47]),.v (.int ((a.length+1+runLen isLD (T.drop (a.length+1)):Nat):Int)),.t false,.t true] (ρ':=[some (.str T),some (.lst b),some (.int ((a.length+4:Nat):Int)),some (.str [47]),some (.int ((a.length+1+runLen isLD (T.drop (a.length+1)):Nat):Int)),x5])
  (fun _ f=>ai5 (getT (i:=a.length) (Z1i hT rfl 0)) (c58 ha (a.length+1) (d+1)) (Eq.refl (MV.bool false)) e4 f) (by kernel_rfl) (q _ _ _)
theorem ZfS {c:Nat} {w:List Nat} (hT:T=a++(c::(w++t))) (hw:w.all isLD=true) (ht:nLD t):a.length+1+runLen isLD (T.drop (a.length+1))=a.length+1+w.length:=by
 have:T.drop (a.length+1)=w++t:=by rw [hT,←List.drop_drop,Z0H];rfl
 rw [this,Z2w hw ht]
theorem ZbG {c:Nat} {w:List Nat} (hT:T=a++(c::(w++t))):Z1s T (.int ((a.length+1:Nat):Int)) (.int ((a.length+1+w.length:Nat):Int))=w:=by
 rw [Z2x,hT,←List.drop_drop,Z0H]
 exact List.take_left
theorem Z8X {c:Nat} {w:List Nat} (hT:T=a++(c::(w++t))):Z1s T (.int (a.length:Nat)) (.int ((a.length+1+w.length:Nat):Int))=c::w:=by
 rw [Nat.add_assoc,Z2x,hT,Z0H,Nat.add_comm 1,List.take_succ_cons,List.take_left]
theorem lenL (u:List Nat) (hT:T=a++u):l.length<SL:=by
 rw [hT,List.length_append] at hn;unfold SL;lia
theorem Zgk {w:List Nat} (hT:T=a++(36::(w++t))) (hw0:w≠[]) (hw:w.all isLD=true) (ht:nLD t):Zbv (d+3) T b a.length (a.length+1+w.length) l (l++[tk [118,97,114] w]):=fun x3 x4 x5 σ0 Q q=>by
 have h58:=c58 ha (a.length+1) (d+1)
 rw [ZfS ha hn hl hT hw ht] at h58
 have hs:=ZbG ha hn hl hT
 have hpos:0<w.length:=List.length_pos_iff.2 hw0
 generalize hr:a.length+1+w.length=r at h58 hs q
 have hgt:MV.bool (decide (((a.length+1:Nat):Int)<(r:Nat)))=.bool true:=ltT (by lia)
 rw [←hs] at q
 exact Z1T [.g (.str [36]),.v (.int (r:Nat)),.t false,.t false,.t true,.t true] (ρ':=[some (.str T),some (.lst b),some (.int (r:Nat)),some (.str [36]),some (.int (r:Nat)),x5])
  (fun _ f=>ai9 (getT (i:=a.length) (Z1i hT rfl 0)) h58 (Eq.refl (MV.bool false)) (sl4 hT (.inl (by decide))) (Eq.refl (MV.bool true)) hgt (Eq.refl b) (Eq.refl b) (And.intro (lenL ha hn hl _ hT) f)) (by kernel_rfl) (q _ _ _)
end
end Mine
namespace Mine
theorem Z8s {A B C D E F G H I J:Prop} (a:A) (b:B) (c:C) (d:D) (e:E) (f:F) (g:G) (h:H) (i:I) (j:J):A∧B∧C∧D∧E∧F∧G∧H∧I∧J:=⟨a,b,c,d,e,f,g,h,i,j⟩
theorem Zjo {A B C D E F G H I J K L M:Prop} (a:A) (b:B) (c:C) (d:D) (e:E) (f:F) (g:G) (h:H) (i:I) (j:J) (k:K) (l:L) (m:M):A∧B∧C∧D∧E∧F∧G∧H∧I∧J∧K∧L∧M:=⟨a,b,c,d,e,f,g,h,i,j,k,l,m⟩
theorem Zd5 {c:Nat} (h:Z3e c=true):c≠32∧c≠47∧c≠36∧c≠39∧c≠40:=by
 refine ⟨?_,?_,?_,?_,?_⟩<;>(rintro rfl;revert h;decide)
theorem Zd8 {c:Nat} (h:Z8k c=true):c≠32∧c≠47∧c≠36∧c≠39∧c≠40∧Z3e c=false:=by
 refine ⟨?_,?_,?_,?_,?_,?_⟩
 any_goals (rintro rfl;revert h;decide)
 unfold Z8k at h;unfold Z3e
 simp at h ⊢;lia
theorem neN {c k:Nat} (h:c≠k):MV.bool (([c]==[k]) !=false)=.bool false:=eqF k h
theorem ZhD {w:List Nat} (h:w.all Z3e=true):w.all isLD=true:=
 List.all_eq_true.2 fun c hc=>by unfold isLD;rw [List.all_eq_true.1 h c hc];rfl
theorem ZhF {w:List Nat} (h:w.all Z8k=true):w.all isLD=true:=
 List.all_eq_true.2 fun c hc=>by unfold isLD;rw [List.all_eq_true.1 h c hc,Bool.or_true]
theorem slT (T:List Nat) (n m:Nat):PrT .slice [.str T,.int (n:Nat),.int (m:Nat)] (.str (Z1s T (.int (n:Nat)) (.int (m:Nat)))):=Z5K (by
 have h:(Z0G (.int (n:Nat))&&Z1z (.int (m:Nat)))=true:=Bool.and_eq_true_iff.2 ⟨decide_eq_true (Int.natCast_nonneg n),decide_eq_true (show (-1:Int)≤(m:Int) by lia)⟩
 show orE (ifE (Z0G (.int (n:Nat))&&Z1z (.int (m:Nat))) (ok (.str (Z1s T (.int (n:Nat)) (.int (m:Nat)))))) none=_
 rw [h];rfl) rfl
section
variable {T a t:List Nat} (ha:Ze T=true) (hn:T.length≤1000000) (d:Nat) (b:Addr) {l:List MV} (hl:l.length≤a.length)
include ha hn hl
theorem ZdY {c:Nat} {w:List Nat} (hT:T=a++(c::(w++t))) (hc:Z3e c=true) (hw:w.all isLD=true) (ht:nLD t):Zbv (d+3) T b a.length (a.length+1+w.length) l (l++[tk [119,111,114,100] (c::w)]):=fun x3 x4 x5 σ0 Q q=>by
 have h58:=c58 ha (a.length+1) (d+1)
 rw [ZfS ha hn hl hT hw ht] at h58
 have hs:=Z8X ha hn hl hT
 have hg:=Z1i hT rfl 0
 have h56:=c56 (asc ha hg) (d+2)
 rw [hc] at h56
 obtain ⟨n1,n2,n3,n4,n5⟩:=Zd5 hc
 generalize a.length+1+w.length=r at h58 hs q
 rw [←hs] at q
 exact Z1T [.g (.str [c]),.v (.int (r:Nat)),.t false,.t false,.t false,.t false,.t false,.v (.bool true)] (ρ':=[some (.str T),some (.lst b),some (.int (r:Nat)),some (.str [c]),some (.int (r:Nat)),x5])
  (fun _ f=>Z8s (getT (i:=a.length) hg) h58 (neN n1) (sl4 hT (.inl n2)) (neN n3) (Eq.refl (MV.bool false)) (neN n4) h56 (Eq.refl b) (ai3 (Eq.refl b) (lenL ha hn hl _ hT) f)) (by kernel_rfl) (q _ _ _)
theorem Zgl {c:Nat} {w:List Nat} (hT:T=a++(c::(w++t))) (hc:Z8k c=true) (hw:w.all isLD=true) (ht:nLD t):Zbv (d+3) T b a.length (a.length+1+w.length) l (l++[tk [105,110,116] (c::w)]):=fun x3 x4 x5 σ0 Q q=>by
 have h58:=c58 ha (a.length+1) (d+1)
 rw [ZfS ha hn hl hT hw ht] at h58
 have hs:=Z8X ha hn hl hT
 have hg:=Z1i hT rfl 0
 have h56:=c56 (asc ha hg) (d+2)
 have h10:MV.bool ([48,49,50,51,52,53,54,55,56,57].contains c)=.bool true:=by rw [Zg4 (asc ha hg),hc]
 obtain ⟨n1,n2,n3,n4,n5,n6⟩:=Zd8 hc
 rw [n6] at h56
 generalize a.length+1+w.length=r at h58 hs q
 rw [←hs] at q
 exact Z1T [.g (.str [c]),.v (.int (r:Nat)),.t false,.t false,.t false,.t false,.t false,.v (.bool false),.t false,.t true] (ρ':=[some (.str T),some (.lst b),some (.int (r:Nat)),some (.str [c]),some (.int (r:Nat)),x5])
  (fun _ f=>Z8s (getT (i:=a.length) hg) h58 (neN n1) (sl4 hT (.inl n2)) (neN n3) (Eq.refl (MV.bool false)) (neN n4) h56 (Eq.refl (MV.bool false)) (ai5 h10 (Eq.refl b) (Eq.refl b) (lenL ha hn hl _ hT) f)) (by kernel_rfl) (q _ _ _)
theorem ZdZ {s:List Nat} (hT:T=a++(39::(esc s++39::t))):Zbv (d+3) T b a.length (a.length+((esc s).length+2)) l (l++[tk [116,101,120,116] s]):=fun x3 x4 x5 σ0 Q q=>by
 have h58:=c58 ha (a.length+1) (d+1)
 have h57:=c57 hT hn (d+2)
 generalize a.length+((esc s).length+2)=m at h57 q
 exact Z1T [.g (.str [39]),.v (.int ((a.length+1+runLen isLD (T.drop (a.length+1)):Nat):Int)),.t false,.t false,.t false,.t false,.t true,.v (.tup [tk [116,101,120,116] s,.int (m:Nat)])] (ρ':=[some (.str T),some (.lst b),some (.int (m:Nat)),some (.str [39]),some (.int ((a.length+1+runLen isLD (T.drop (a.length+1)):Nat):Int)),some (tk [116,101,120,116] s)])
  (fun _ f=>Z8s (getT (i:=a.length) (Z1i hT rfl 0)) h58 (Eq.refl (MV.bool false)) (sl4 hT (.inl (by decide))) (Eq.refl (MV.bool false)) (Eq.refl (MV.bool false)) (Eq.refl (MV.bool true)) h57 (Eq.refl b) (ai3 (Eq.refl b) (lenL ha hn hl _ hT) f)) (by kernel_rfl) (q _ _ _)
omit ha hn hl in
theorem Zfx:∀w∈castTab,Ze w=true∧w.length≤5592405∧lowerL w=w∧(Zz (lowerL w) Z1Q).isSome=true∧w.all isLD=true:=by decide+kernel
end
end Mine
namespace Mine
theorem Zdt {w:List Nat} (h:w∈castTab):PrT .getitem [.dict Z1Q,.str w] (.str w):=by
 have h1:castTab.map (fun w=>Zz w Z1Q)=castTab.map (fun w=>some (MV.str w)):=by kernel_rfl
 have h2:Zz w Z1Q=some (.str w):=List.map_inj_left.1 h1 w h
 refine Z5K (w:=.str w) ?_ rfl
 show orE none (b0 (Zz w Z1Q) ok)=_
 rw [h2];rfl
theorem Zix {w:List Nat} (h1:Ze w=true) (h2:w.length≤5592405) (h3:lowerL w=w):PrT .lower [.str w] (.str w):=fun σ Q q=>Z44 rfl ⟨h1,h2⟩ (by rw [h3];exact q)
theorem Z1v (k:List Nat):∀l:List (List Nat×MV),(Zz k l).isSome=(l.map Prod.fst).contains k
 |[]=>rfl
 |(a,v)::r=>by
  rw [List.map_cons,List.contains_cons]
  show (if (k==a)=true then some v else Zz k r).isSome=_
  cases h:(k==a) with
  |true=>rfl
  |false=>exact (Z1v k r).trans (Bool.false_or _).symm
theorem lastTok (l:List MV) (x:MV):(pyIdx (-1) (l++[x]).length).bind ((l++[x])[·]?)=some x:=by
 have e:pyIdx (-1) (l++[x]).length=some l.length:=by
  unfold pyIdx
  rw [if_neg (by decide),List.length_append,if_pos (by simp only [List.length_cons,List.length_nil];lia)]
  congr 1;simp only [List.length_cons,List.length_nil];lia
 rw [e]
 show (l++[x])[l.length]? =some x
 rw [List.getElem?_append_right (Nat.le_refl _),Nat.sub_self];rfl
theorem Z8Y:∀s∈signs,s.length=2∨s.length=3:=by decide+kernel
theorem Ze5 {s t:List Nat} (h:opS s=true) (ha:adj s t.head? =true):sgn (s++t)=s:=by
 unfold opS at h
 have h:=(Bool.and_eq_true_iff.1 h).1
 have hc:s.length=1∨((s.length=2∨s.length=3)∧signs.contains s=true):=by
  rcases Bool.or_eq_true_iff.1 h with h|h
  ·exact .inl (eq_of_beq h)
  ·exact .inr ⟨Z8Y s (List.contains_iff_mem.1 h),h⟩
 cases t with
 |nil=>
  rw [List.append_nil]
  rcases hc with hc|⟨hc,hs⟩
  ·have e:∀k,1≤k→s.take k=s:=fun k hk=>List.take_of_length_le (by lia)
   have n:signs.contains s=false:=by
    cases hh:signs.contains s with
    |false=>rfl
    |true=>have:=Z8Y s (List.contains_iff_mem.1 hh);lia
   unfold sgn
   rw [e 3 (by lia),e 2 (by lia),e 1 (by lia),n];rfl
  ·unfold sgn
   rw [List.take_of_length_le (i:=3) (by lia),hs];rfl
 |cons c t=>
  have hn:∀k,s.length<k→signs.contains ((s++c::t).take k)=false:=by
   intro k hk
   cases hh:signs.contains ((s++c::t).take k) with
   |false=>rfl
   |true=>
    have hm:=List.contains_iff_mem.1 hh
    have ha':=(Bool.and_eq_true_iff.1 (show (signs.all (fun t=> !((s++[c]).isPrefixOf t))&& !(s==[47]&&c==42))=true from ha)).1
    have:=List.all_eq_true.1 ha' _ hm
    have hp:(s++[c]).isPrefixOf ((s++c::t).take k)=true:=by
     rw [List.isPrefixOf_iff_prefix,List.prefix_take_iff]
     exact ⟨⟨t,by simp⟩,by simp only [List.length_append,List.length_cons,List.length_nil];lia⟩
    rw [hp] at this;cases this
  have hs:(s++c::t).take s.length=s:=List.take_left
  unfold sgn
  rcases hc with hc|⟨hc|hc,hm⟩
  ·rw [hn 3 (by lia),hn 2 (by lia),←hc,hs];rfl
  ·rw [hn 3 (by lia),←hc,hs,hm];rfl
  ·rw [←hc,hs,hm];rfl
section
variable {T a t:List Nat} (ha:Ze T=true) (hn:T.length≤1000000) (d:Nat) (b:Addr) {l:List MV} (hl:l.length≤a.length)
include ha hn hl
theorem Ze0 {w:List Nat} (hT:T=a++(40::(w++41::t))) (hw:w∈castTab):Zbv (d+3) T b a.length (a.length+1+w.length+1) l (l++[tk [99,97,115,116] w]):=fun x3 x4 x5 σ0 Q q=>by
 obtain ⟨w1,w2,w3,w4,w5⟩:=Zfx w hw
 have h58:=c58 ha (a.length+1) (d+1)
 rw [ZfS ha hn hl hT w5 (by intro c h;cases h;rfl)] at h58
 have hs:=slT T (a.length+1) (a.length+1+w.length)
 rw [ZbG ha hn hl hT] at hs
 have hs2:PrT .slice [.str T,.int ((a.length+1+w.length:Nat):Int),.int ((a.length+1+w.length+1:Nat):Int)] (.str [41]):=by
  have:=slT T (a.length+1+w.length) (a.length+1+w.length+1)
  rw [Z2x] at this
  have e:T.drop (a.length+1+w.length)=41::t:=by
   rw [hT,Nat.add_assoc,←List.drop_drop,Z0H,Nat.add_comm,List.drop_succ_cons,Z0H]
  rw [e] at this
  exact this
 have hg:=Z1i hT rfl 0
 have h56:=c56 (c:=40) (by decide+kernel) (d+2)
 have hk:MV.bool (Zz (lowerL w) Z1Q).isSome=.bool true:=by rw [w4]
 have h61:=c61 (d+2)
 generalize a.length+1+w.length=r at h58 hs hs2 q
 exact Z1T [.g (.str [40]),.v (.int (r:Nat)),.t false,.t false,.t false,.t false,.t false,.v (.bool false),.t false,.t false,.t true,
   .g (.int ((a.length:Int)+1)),.g (.str w),.v (.dict Z1Q),.t true,.g (.int ((r:Int)+1)),.g (.str [41]),.t true,
   .v (.dict Z1Q),.g (.int ((a.length:Int)+1)),.g (.str w),.g (.str w),.g (.str w)] (ρ':=[some (.str T),some (.lst b),some (.int ((r+1:Nat):Int)),some (.str [40]),some (.int (r:Nat)),x5])
  (fun _ f=>Z8s (getT (i:=a.length) hg) h58 (Eq.refl (MV.bool false)) (sl4 hT (.inl (by decide))) (Eq.refl (MV.bool false)) (Eq.refl (MV.bool false)) (Eq.refl (MV.bool false)) h56 (Eq.refl (MV.bool false))
   (Z8s (Eq.refl (MV.bool false)) (Eq.refl (MV.bool true)) (addT a.length 1) hs (And.intro w1 w2) h61 hk (addT r 1) hs2
   (ai9 (Eq.refl (MV.bool true)) (Eq.refl b) h61 (addT a.length 1) hs (Zix w1 w2 w3) (Zdt hw) (Eq.refl b) (And.intro (lenL ha hn hl _ hT) f)))) (by kernel_rfl) (q _ _ _)
end
end Mine
namespace Mine
theorem mkT (vs:List MV):PrT .mkTup vs (.tup vs):=Z5K rfl rfl
theorem Zex:∀s∈signs,s.head?≠some 40∧s.head?≠some 47:=by decide+kernel
section
variable {T a t:List Nat} (ha:Ze T=true) (hn:T.length≤1000000) (d:Nat) (b:Addr) {l:List MV} (hl:l.length≤a.length)
include ha hn hl
theorem Zik {s:List Nat} (hT:T=a++(s++t)) (hs:opS s=true) (had:adj s t.head? =true) (hcl:s=[40]→Z0v t=false):Zbv (d+3) T b a.length (a.length+s.length) l (l++[tk [111,112] s]):=fun x3 x4 x5 σ0 Q q=>by
 have hsg:=Ze5 hs had
 obtain ⟨c,s',rfl⟩:∃c s',s=c::s':=by
  cases s with
  |nil=>exact absurd hs (by decide)
  |cons c s'=>exact ⟨c,s',rfl⟩
 have hs0:=Bool.and_eq_true_iff.1 (show (((c::s').length==1||signs.contains (c::s'))&&(c::s').all opC)=true from hs)
 have hone:(c=40∨c=47)→s'=[]:=by
  intro hc
  rcases Bool.or_eq_true_iff.1 hs0.1 with h|h
  ·have:=eq_of_beq h
   exact List.length_eq_zero_iff.1 (Nat.succ.inj this)
  ·have:=Zex _ (List.contains_iff_mem.1 h)
   rcases hc with rfl|rfl
   ·exact absurd rfl this.1
   ·exact absurd rfl this.2
 obtain ⟨n1,n2,n3,n4,n5⟩:=Zd6 ((Bool.and_eq_true_iff.1 (show (opC c&&s'.all opC)=true from hs0.2)).1)
 have hT2:T=a++c::(s'++t):=hT
 have h47:c≠47∨(s'++t).head?≠some 42:=by
  by_cases hc:c=47
  ·obtain rfl:=hone (.inr hc)
   subst hc
   refine .inr fun h=>?_
   rw [List.nil_append] at h
   rw [h] at had
   revert had;decide
  ·exact .inl hc
 have h58:=c58 ha (a.length+1) (d+1)
 have hg:=Z1i hT2 rfl 0
 have h56:=c56 (asc ha hg) (d+2)
 rw [n4] at h56
 have h10:MV.bool ([48,49,50,51,52,53,54,55,56,57].contains c)=.bool false:=by rw [Zg4 (asc ha hg),n5]
 have h59:=c59 T a.length (d+2)
 rw [hT,Z0H,hsg,←hT] at h59
 have hlen:=lenL ha hn hl _ hT
 have hlast:=lastTok l (tk [111,112] (c::s'))
 have h61:=c61 (d+2)
 have hq:=fun y3 y4=>q y3 y4 x5
 by_cases hc:c=40
 ·obtain rfl:=hone (.inl hc)
  subst hc
  have hcl:=hcl rfl
  have hrun:T.drop (a.length+1)=t:=by rw [hT,←List.drop_drop,Z0H];rfl
  rw [hrun] at h58
  have hsl:=slT T (a.length+1) (a.length+1+runLen isLD t)
  rw [Z2x,hrun] at hsl
  have hsl2:=slT T (a.length+1+runLen isLD t) (a.length+1+runLen isLD t+1)
  rw [Z2x,←List.drop_drop,hrun] at hsl2
  have hlow:Ze (t.take (runLen isLD t))=true∧(t.take (runLen isLD t)).length≤5592405:=by
   refine ⟨?_,?_⟩
   ·have h1:Ze t=true:=by
     rw [←hrun];unfold Ze at ha ⊢
     exact List.all_eq_true.2 fun x hx=>List.all_eq_true.1 ha x (List.mem_of_mem_drop hx)
    unfold Ze at h1 ⊢
    exact List.all_eq_true.2 fun x hx=>List.all_eq_true.1 h1 x (List.mem_of_mem_take hx)
   ·have h1:t.length≤T.length:=by rw [hT];simp only [List.length_append];lia
    rw [List.length_take];lia
  unfold Z0v at hcl
  have hlk:=Z1v (lowerL (t.take (runLen isLD t))) Z1Q
  rw [show Z1Q.map Prod.fst=casts from rfl] at hlk
  generalize runLen isLD t=rn at*
  generalize t.take rn=w at*
  generalize hr:a.length+1+rn=r at*
  cases hcc:casts.contains (lowerL w) with
  |false=>
   rw [hcc] at hlk
   have hk:MV.bool (Zz (lowerL w) Z1Q).isSome=.bool false:=by rw [hlk]
   exact Z1T [.g (.str [40]),.v (.int (r:Nat)),.t false,.t false,.t false,.t false,.t false,.v (.bool false),.t false,.t false,.t true,
     .g (.int ((a.length:Int)+1)),.g (.str w),.v (.dict Z1Q),.t false,.t false,.v (.str [40]),.g (tk [111,112] [40]),.g (tk [111,112] [40])] (ρ':=[some (.str T),some (.lst b),some (.int ((a.length+1:Nat):Int)),some (.str [40]),some (.int (r:Nat)),x5])
    (fun _ f=>Z8s (getT (i:=a.length) hg) h58 (neN n1) (sl4 hT2 h47) (neN n2) (Eq.refl (MV.bool false)) (neN n3) h56 (Eq.refl (MV.bool false))
     (Z8s h10 (Eq.refl (MV.bool true)) (addT a.length 1) hsl hlow h61 hk (Eq.refl (MV.bool false)) (Eq.refl b)
     (ai7 h59 (mkT [.str [111,112],.str [40]]) (Eq.refl b) hlen (Eq.refl b) hlast f))) (by kernel_rfl) (hq _ _)
  |true=>
   rw [hcc] at hlk hcl
   have hk:MV.bool (Zz (lowerL w) Z1Q).isSome=.bool true:=by rw [hlk]
   have hx:MV.bool (((t.drop rn).take (1)==[41]) !=false)=.bool false:=by
    rw [neF];congr 1
    have hcl:((t.drop rn).head? ==some 41)=false:=hcl
    cases h:t.drop rn with
    |nil=>rfl
    |cons x y=>
     rw [h] at hcl
     have:x≠41:=fun e=>by rw [e] at hcl;cases hcl
     exact beq_eq_false_iff_ne.2 (by simpa using this)
   exact Z1T [.g (.str [40]),.v (.int (r:Nat)),.t false,.t false,.t false,.t false,.t false,.v (.bool false),.t false,.t false,.t true,
     .g (.int ((a.length:Int)+1)),.g (.str w),.v (.dict Z1Q),.t true,.g (.int ((r:Int)+1)),.g (.str ((t.drop rn).take 1)),.t false,.v (.str [40]),.g (tk [111,112] [40]),.g (tk [111,112] [40])] (ρ':=[some (.str T),some (.lst b),some (.int ((a.length+1:Nat):Int)),some (.str [40]),some (.int (r:Nat)),x5])
    (fun _ f=>Z8s (getT (i:=a.length) hg) h58 (neN n1) (sl4 hT2 h47) (neN n2) (Eq.refl (MV.bool false)) (neN n3) h56 (Eq.refl (MV.bool false))
     (Z8s h10 (Eq.refl (MV.bool true)) (addT a.length 1) hsl hlow h61 hk (addT r 1) hsl2
     (ai9 hx (Eq.refl b) h59 (mkT [.str [111,112],.str [40]]) (Eq.refl b) hlen (Eq.refl b) hlast f))) (by kernel_rfl) (hq _ _)
 ·generalize a.length+1+runLen isLD (T.drop (a.length+1))=r at h58
  exact Z1T [.g (.str [c]),.v (.int (r:Nat)),.t false,.t false,.t false,.t false,.t false,.v (.bool false),.t false,.t false,.t false,.t false,
    .v (.str (c::s')),.g (tk [111,112] (c::s')),.g (tk [111,112] (c::s'))] (ρ':=[some (.str T),some (.lst b),some (.int ((a.length+(c::s').length:Nat):Int)),some (.str [c]),some (.int (r:Nat)),x5])
   (fun _ f=>Z8s (getT (i:=a.length) hg) h58 (neN n1) (sl4 hT2 h47) (neN n2) (Eq.refl (MV.bool false)) (neN n3) h56 (Eq.refl (MV.bool false))
    (Z8s h10 (neN hc) (Eq.refl (MV.bool false)) (Eq.refl b) h59 (mkT [.str [111,112],.str (c::s')]) (Eq.refl b) hlen (Eq.refl b) (And.intro hlast f))) (by kernel_rfl) (hq _ _)
end
end Mine
namespace Mine
theorem Zct {x:Pc} {t:List Nat} (h:ok1 x t):0<x.sp1.length:=by
 cases x with
 |op s=>
  cases s with
  |nil=>exact absurd h.1 (by decide)
  |cons c s=>exact Nat.succ_pos _
 |word w=>exact List.length_pos_iff.2 h.1
 |int w=>exact List.length_pos_iff.2 h.1
 |_=>exact Nat.succ_pos _
theorem Zih {T a t:List Nat} (ha:Ze T=true) (hn:T.length≤1000000) (d:Nat) (b:Addr) {l:List MV} (hl:l.length≤a.length) {x:Pc} (h:ok1 x t) (hT:T=a++(x.sp1++t)):
  Zbv (d+3) T b a.length (a.length+x.sp1.length) l (l++x.tk1.toList):=by
 cases x with
 |sp=>rw [show l++(Pc.tk1 .sp).toList=l from List.append_nil l];exact Zij ha hn d b hl hT
 |cmt=>rw [show l++(Pc.tk1 .cmt).toList=l from List.append_nil l];exact Zgm ha hn d b hl hT
 |op s=>exact Zik ha hn d b hl hT h.1 h.2.1 h.2.2
 |word w=>
  obtain ⟨c,w',rfl⟩:∃c w',w=c::w':=by
   cases w with
   |nil=>exact absurd rfl h.1
   |cons c w'=>exact ⟨c,w',rfl⟩
  have hw:=Bool.and_eq_true_iff.1 (show (Z3e c&&w'.all Z3e)=true from h.2.1)
  have:=ZdY ha hn d b hl hT hw.1 (ZhD hw.2) h.2.2
  rw [show a.length+1+w'.length=a.length+(Pc.word (c::w')).sp1.length from by show _=a.length+(w'.length+1);lia] at this
  exact this
 |var w=>
  have:=Zgk ha hn d b hl hT h.1 h.2.1 h.2.2
  rw [show a.length+1+w.length=a.length+(Pc.var w).sp1.length from by show _=a.length+(w.length+1);lia] at this
  exact this
 |int w=>
  obtain ⟨c,w',rfl⟩:∃c w',w=c::w':=by
   cases w with
   |nil=>exact absurd rfl h.1
   |cons c w'=>exact ⟨c,w',rfl⟩
  have hw:=Bool.and_eq_true_iff.1 (show (Z8k c&&w'.all Z8k)=true from h.2.1)
  have:=Zgl ha hn d b hl hT hw.1 (ZhF hw.2) h.2.2
  rw [show a.length+1+w'.length=a.length+(Pc.int (c::w')).sp1.length from by show _=a.length+(w'.length+1);lia] at this
  exact this
 |text s=>
  have:=ZdZ (s:=s) (t:=t) ha hn d b hl (by rw [hT];simp [Pc.sp1])
  rw [show a.length+((esc s).length+2)=a.length+(Pc.text s).sp1.length from by show _=a.length+((esc s++[39]).length+1);rw [List.length_append];rfl] at this
  exact this
 |cast s=>
  have:=Ze0 (w:=s) (t:=t) ha hn d b hl (by rw [hT];simp [Pc.sp1]) h
  rw [show a.length+1+s.length+1=a.length+(Pc.cast s).sp1.length from by show _=a.length+((s++[41]).length+1);rw [List.length_append];show _=a.length+(s.length+1+1);lia] at this
  exact this
theorem Z1n (x:Pc) (r:List Pc):toks (x::r)=x.tk1.toList++toks r:=by
 unfold toks
 rw [List.filterMap_cons]
 cases x.tk1<;>rfl
theorem Zcn (x:Pc):x.tk1.toList.length≤1:=by cases x.tk1<;>simp
theorem c60 {ps:List Pc} (hl:Z31 ps []) (hs:Sm ps) (d:Nat):Pct (Z3 FT (d+4)) 60 [.str (spell ps)] (.fl (toks ps++[tk [101,110,100] []])):=by
 intro σ0 Q q
 refine Z03 ZiQ rfl ?_
 unfold b60
 refine Z0Q fun b hb=>?_
 refine Z1I [] (ρ':=[some (.str (spell ps)),some (.lst b),some (.int ((0:Nat):Int)),none,none,none]) (fun _ f=>f) (by kernel_rfl) ?_
 unfold wpSs wpS
 refine ⟨fun m ρ σ=>∃done todo x3 x4 x5,ps=done++todo∧ρ=[some (.str (spell ps)),some (.lst b),some (.int ((spell done).length:Nat)),x3,x4,x5]∧σ=upd σ0 b (toks done)∧(toks done).length≤(spell done).length∧m=todo.length,
  ⟨_,[],ps,none,none,none,rfl,rfl,rfl,Nat.le_refl 0,rfl⟩,?_⟩
 rintro m ρ σ ⟨done,todo,x3,x4,x5,hps,rfl,rfl,hle,rfl⟩
 have hok:Z31 todo []:=by rw [hps,Z12] at hl;exact hl.2
 cases todo with
 |nil=>
  have hlen:¬(spell done).length<(spell ps).length:=by rw [hps,List.append_nil];exact Nat.lt_irrefl _
  refine Z0E [] (v:=.bool false) (A:=MV.bool (decide (((spell done).length:Int)<((spell ps).length:Nat)))=.bool false) (ltF hlen) (by kernel_rfl) ?_
  show wpSs _ _ _ _ _
  have hp:ps=done:=by rw [hps,List.append_nil]
  rw [←hp] at hle ⊢
  have hs1:=hs.1
  have hb2:(toks ps++[tk [101,110,100] []]).length≤SL:=by rw [List.length_append];show _+1≤SL;unfold SL;lia
  exact Z45 [] (ai3 (Eq.refl b) hb2 (Eq.refl (MV.fl (toks ps++[tk [101,110,100] []])))) (by kernel_rfl) hb q
 |cons x r=>
  have hT:spell ps=spell done++(x.sp1++spell r):=by rw [hps,Z0,Z8]
  have h1:ok1 x (spell r):=by have:=hok.1;rwa [List.append_nil] at this
  have hpos:=Zct h1
  have hlen:(spell done).length<(spell ps).length:=by rw [hT,List.length_append,List.length_append];lia
  refine Z0E [] (v:=.bool true) (A:=MV.bool (decide (((spell done).length:Int)<((spell ps).length:Nat)))=.bool true) (ltT hlen) (by kernel_rfl) ?_
  have:=Zih hs.2 hs.1 d b hle h1 hT x3 x4 x5 σ0
  refine this _ fun y3 y4 y5=>?_
  refine ⟨r.length,Nat.lt_succ_self _,done++[x],r,y3,y4,y5,by rw [hps];simp,?_,?_,?_,rfl⟩
  ·rw [Z0,List.length_append,show spell [x]=x.sp1 from List.append_nil _]
  ·rw [Z1,Z1n];show upd σ0 b (toks done++x.tk1.toList)=upd σ0 b (toks done++(x.tk1.toList++[]))
   rw [List.append_nil]
  ·rw [Z1,Z0,List.length_append,List.length_append,show spell [x]=x.sp1 from List.append_nil _,Z1n]
   have:=Zcn x
   rw [List.length_append];show _+(_+0)≤_;lia
end Mine
namespace Mine
noncomputable def Zg2 (x:Nat):Bool:=[32,41,93,44,125,91,45,63,40,43].contains x
noncomputable def stC (x:Nat):Bool:=isLD x||[36,39,40,43,45,126,33,64,91].contains x
noncomputable def Fol (c:List Nat):Prop:=∀x,c.head? =some x→Zg2 x=true
noncomputable def LX (p:List Pc):Prop:=∀c,Fol c→Z31 p c
noncomputable def NC (p:List Pc):Prop:=∀c,Fol c→Z0v (spell p++c)=false
noncomputable def Stt (p:List Pc):Prop:=∃x r,spell p=x::r∧stC x=true∧x<128
structure TL (p:List Pc):Prop where
 lx:LX p
 nc:NC p
 st:Stt p
theorem Zfi {x:Nat} (h:Zg2 x=true):isLD x=false:=by
 have:∀x∈[32,41,93,44,125,91,45,63,40,43],isLD x=false:=by decide+kernel
 exact this x (List.contains_iff_mem.1 h)
theorem Z1A {c:List Nat} (h:Fol c):nLD c:=fun x hx=>Zfi (h x hx)
theorem Z6l (x:Nat) (c:List Nat) (h:Zg2 x=true):Fol (x::c):=fun y hy=>by cases hy;exact h
theorem Z1h {x:Nat} {t:List Nat} (h:isLD x=false):Z0v (x::t)=false:=by
 unfold Z0v
 have:runLen isLD (x::t)=0:=by unfold runLen;rw [List.takeWhile_cons,h];rfl
 rw [this];rfl
theorem Z6L {w t:List Nat} (hw:w.all isLD=true) (ht:nLD t) (h:casts.contains (lowerL w)=false∨t.head?≠some 41):Z0v (w++t)=false:=by
 unfold Z0v
 rw [Z2w hw ht,List.take_left,List.drop_left]
 rcases h with h|h
 ·rw [h];rfl
 ·rw [show (t.head? ==some 41)=false from beq_eq_false_iff_ne.2 h,Bool.and_false]
theorem Z9m {p q:List Pc} (h:NC p) (hq:∀c,Fol c→Fol (spell q++c)):NC (p++q):=fun c hc=>by
 rw [Z0,List.append_assoc];exact h _ (hq c hc)
theorem Z7h {p q:List Pc} (h:Stt p):Stt (p++q):=by
 obtain ⟨x,r,e,hx⟩:=h
 exact ⟨x,r++spell q,by rw [Z0,e];rfl,hx⟩
theorem Z9q {p q:List Pc} (hp:LX p) (hq:LX q) (hf:∀c,Fol c→Fol (spell q++c)):LX (p++q):=fun c hc=>Z12.2 ⟨hp _ (hf c hc),hq c hc⟩
theorem Z5S:LX []:=fun _ _=>trivial
theorem Zh1 {p:List Pc} (h:LX p):LX (.sp::p):=fun c hc=>⟨trivial,h c hc⟩
noncomputable def preS:List (List Nat):=[[40],[91],[123],[64],[126],[43,43],[45,45],[38],[46,46,46]]
theorem ZgJ:∀s∈preS,opS s=true∧∀x∈List.range 128,stC x=true→adj s (some x)=true:=by decide+kernel
theorem Z9j {s:List Nat} {p:List Pc} {c:List Nat} (h:preS.contains s=true) (hp:Stt p) (hc:s=[40]→Z0v (spell p++c)=false):ok1 (.op s) (spell p++c):=by
 obtain ⟨x,r,e,hx,hlt⟩:=hp
 have:=ZgJ s (List.contains_iff_mem.1 h)
 refine ⟨this.1,?_,hc⟩
 rw [e]
 exact this.2 x (List.mem_range.2 hlt) hx
noncomputable def fixS:List (List Nat):=[[44],[41],[93],[125],[61,62],[63],[58],[61],[45,62],[63,45,62],[43,43],[45,45],[40],[91],[123]]++opTab.map Prod.fst++[[38,38],[124,124],[63,63]]++aopTab.map fun o=>o++[61]
theorem fixOk:∀s∈fixS,s=[120,111,114]∨(opS s=true∧adj s (some 32)=true):=by decide+kernel
theorem Z9i {s:List Nat} {t:List Nat} (h:s∈fixS) (hx:s≠[120,111,114]) (hp:s≠[40]):ok1 (.op s) (32::t):=by
 rcases fixOk s h with h|h
 ·exact absurd h hx
 ·exact ⟨h.1,h.2,fun e=>absurd e hp⟩
noncomputable def endS:List (List Nat):=[[41],[93],[125],[43,43],[45,45]]
theorem Zhq:∀s∈endS,opS s=true∧∀x∈[32,41,93,44,125,91,45,63,40,43],adj s (some x)=true:=by decide+kernel
theorem ZbK {s:List Nat} {c:List Nat} (h:endS.contains s=true) (hc:Fol c):ok1 (.op s) c:=by
 have:=Zhq s (List.contains_iff_mem.1 h)
 refine ⟨this.1,?_,?_⟩
 ·cases hh:c.head? with
  |none=>rfl
  |some x=>exact this.2 x (List.contains_iff_mem.1 (hc x hh))
 ·rintro rfl;exact absurd h (by decide)
theorem Z7q {s:List Nat} (h:endS.contains s=true):LX [.op s]:=fun c hc=>⟨ZbK h hc,trivial⟩
theorem Z51 {p:List Pc} (hl:LX p) (hn:NC p):LX (Zm p):=fun c hc=>by
 have hf:Fol (spell [.op [41]]++c):=Z6l 41 c (by decide)
 refine ⟨?_,Z12.2 ⟨hl _ hf,Z7q (by decide) c hc⟩⟩
 have e:spell (p++[.op [41]])++c=spell p++41::c:=by rw [Z0,List.append_assoc];rfl
 rw [e]
 refine ⟨by decide,?_,fun _=>hn _ hf⟩
 cases (spell p++41::c).head? with
 |none=>rfl
 |some x=>
  show (signs.all fun t=> !(([40]++[x]).isPrefixOf t))&& !([40]==[47]&&x==42)=true
  have h1:(signs.all fun t=> !(([40]++[x]).isPrefixOf t))=true:=by
   have:(signs.all fun t=> !([40].isPrefixOf t))=true:=by decide+kernel
   refine List.all_eq_true.2 fun t ht=>?_
   have:=List.all_eq_true.1 this t ht
   cases t with
   |nil=>rfl
   |cons y t=>
    simp [List.isPrefixOf] at this ⊢
    exact .inl this
  rw [h1];rfl
theorem Z1G {p:List Pc} (h:TL p):TL (Zm p):=⟨Z51 h.lx h.nc,fun c _=>Z1h (by decide),⟨40,_,rfl,by decide,by decide⟩⟩
theorem ZS (p q:List Pc) (ps:List (List Pc)):Z2 (p::q::ps)=p++[.op [44],.sp]++Z2 (q::ps):=rfl
theorem Z13:∀{ps:List (List Pc)},(∀p∈ps,LX p)→LX (Z2 ps)
 |[],_=>Z5S
 |[p],h=>h p (List.mem_singleton.2 rfl)
 |p::q::ps,h=>by
  have ih:=Z13 (ps:=q::ps) fun x hx=>h x (List.mem_cons_of_mem _ hx)
  intro c hc
  refine Z12.2 ⟨Z12.2 ⟨h p (List.mem_cons_self ..) _ (Z6l 44 _ (by decide)),⟨by decide,(by show adj [44] (some 32)=true;decide),fun e=>absurd e (by decide)⟩,trivial,trivial⟩,ih c hc⟩
theorem Zg1 {t:List Nat} {x:Nat} (h:Zg2 x=true):∀c,Fol c→Fol ((x::t)++c):=fun c _=>Z6l x _ h
theorem Z5Q:∀{ps:List (List Pc)},(∀p∈ps,NC p)→NC (Z2 ps)
 |[],_=>fun c hc=>by
  show Z0v c=false
  cases c with
  |nil=>decide
  |cons x c=>exact Z1h (Zfi (hc x rfl))
 |[p],h=>h p (List.mem_singleton.2 rfl)
 |p::q::ps,h=>by
  rw [ZS,List.append_assoc]
  refine Z9m (h p (List.mem_cons_self ..)) fun c hc=>?_
  have e:spell ([.op [44],.sp]++Z2 (q::ps))++c=44::32::(spell (Z2 (q::ps))++c):=by rw [Z0];rfl
  rw [e]
  exact Z6l 44 _ (by decide)
end Mine
namespace Mine
noncomputable def Zbd (s:List Nat):Bool:=opS s&&(signs.all fun t=> !(s.isPrefixOf t)||t==s)&& !(s==[47])
theorem ZdC {s:List Nat} (h:Zbd s=true) (o:Option Nat):adj s o=true:=by
 cases o with
 |none=>rfl
 |some x=>
  unfold Zbd at h
  obtain ⟨h,h3⟩:=Bool.and_eq_true_iff.1 h
  obtain ⟨-,h2⟩:=Bool.and_eq_true_iff.1 h
  refine Bool.and_eq_true_iff.2 ⟨List.all_eq_true.2 fun t ht=>?_,?_⟩
  ·rcases Bool.or_eq_true_iff.1 (List.all_eq_true.1 h2 t ht) with h|h
   ·cases hp:(s++[x]).isPrefixOf t with
    |false=>rfl
    |true=>
     have:s.isPrefixOf t=true:=by
      rw [List.isPrefixOf_iff_prefix] at hp ⊢
      exact List.IsPrefix.trans (List.prefix_append s [x]) hp
     rw [this] at h;cases h
   ·have e:=eq_of_beq h
    subst e
    cases hp:(t++[x]).isPrefixOf t with
    |false=>rfl
    |true=>
     have:=(List.isPrefixOf_iff_prefix.1 hp).length_le
     rw [List.length_append] at this
     exact absurd this (by show ¬(t.length+1≤t.length);lia)
  ·rw [show (s==[47])=false from by revert h3;cases (s==[47])<;>simp];rfl
theorem Z3K {s t:List Nat} (h:Zbd s=true) (hp:s≠[40]):ok1 (.op s) t:=by
 have h1:=(Bool.and_eq_true_iff.1 (Bool.and_eq_true_iff.1 h).1).1
 exact ⟨h1,ZdC h _,fun e=>absurd e hp⟩
theorem Zaj {x:Nat} {t:List Nat} (h:isLD x=false):nLD (x::t):=fun y hy=>by cases hy;exact h
theorem okw {w:List Nat} {t:List Nat} (h:(!w.isEmpty&&w.all Z3e)=true) (ht:nLD t):ok1 (.word w) t:=by
 obtain ⟨h1,h2⟩:=Bool.and_eq_true_iff.1 h
 refine ⟨fun e=>?_,h2,ht⟩
 rw [e] at h1;cases h1
theorem Z1o {w:List Nat} {p:List Pc} (hw:(!w.isEmpty&&w.all Z3e&&(w.all fun x=>decide (x<128)))=true) (hn:casts.contains (lowerL w)=false) (hp:LX p) (hf:∀c,Fol c→nLD (spell p++c)):TL (.word w::p):=by
 obtain ⟨h1,h3⟩:=Bool.and_eq_true_iff.1 hw
 have hall:=ZhD (Bool.and_eq_true_iff.1 h1).2
 refine ⟨fun c hc=>⟨okw h1 (hf c hc),hp c hc⟩,fun c hc=>?_,?_⟩
 ·rw [Z8,List.append_assoc];exact Z6L hall (hf c hc) (.inl hn)
 ·cases w with
  |nil=>cases h1
  |cons x w=>
   refine ⟨x,w++spell p,rfl,?_,of_decide_eq_true (List.all_eq_true.1 h3 x (List.mem_cons_self ..))⟩
   unfold stC;rw [List.all_eq_true.1 hall x (List.mem_cons_self ..)];rfl
theorem Z3w {w:List Nat} {p:List Pc} (hw:(!w.isEmpty&&w.all Z3e&&(w.all fun x=>decide (x<128)))=true) (hn:casts.contains (lowerL w)=false) (hp:LX p):TL (.word w:: .sp::p):=
 Z1o hw hn (Zh1 hp) fun c _=>Zaj (by decide)
theorem mid {pa m pb:List Pc} (ha:TL pa) (hb:LX pb) (hm:∀c,Fol c→Z31 m (spell pb++c)):TL (pa++ .sp::m++pb):=by
 rw [List.append_assoc]
 have hf:∀c,Fol c→Fol (spell (.sp::m++pb)++c):=fun c _=>by
  rw [show spell (.sp::m++pb)=32::spell (m++pb) from rfl];exact Z6l 32 _ (by decide)
 refine ⟨Z9q ha.lx (fun c hc=>?_) hf,Z9m ha.nc hf,Z7h ha.st⟩
 exact ⟨trivial,Z12.2 ⟨hm c hc,hb c hc⟩⟩
theorem suf {pa q:List Pc} (ha:TL pa) (hq:LX q) (hf:∀c,Fol c→Fol (spell q++c)):TL (pa++q):=⟨Z9q ha.lx hq hf,Z9m ha.nc hf,Z7h ha.st⟩
theorem sp2 {s t:List Nat} (h:s∈fixS) (hx:s≠[120,111,114]) (hp:s≠[40]):Z31 [.op s,.sp] t:=⟨Z9i h hx hp,trivial,trivial⟩
theorem Zb5 {o s:List Nat} {p:List Pc} (ho:Zbd o=true) (hp:o≠[40]) (hs:endS.contains s=true) (hf:∀c,Fol (s++c)) (h:LX p):LX (.op o::(p++[.op s])):=fun c hc=>
 ⟨Z3K ho hp,Z12.2 ⟨h _ (by have:=hf c;rwa [show spell [.op s]++c=s++c from by rw [Z8,ZW,List.append_nil];rfl]),Z7q hs c hc⟩⟩
theorem Zdj (c:List Nat):Fol ([93]++c):=Z6l 93 _ (by decide)
theorem Zfj (c:List Nat):Fol ([125]++c):=Z6l 125 _ (by decide)
theorem Z7r {p:List Pc} (h:LX p):LX (Z2l p):=Zb5 (by decide+kernel) (by decide) (by decide) Zfj h
theorem Z52 {ps:List (List Pc)} (h:∀p∈ps,LX p∧NC p):LX (argText ps):=Z51 (Z13 fun p hp=>(h p hp).1) (Z5Q fun p hp=>(h p hp).2)
theorem Z5Z {p:List Pc} (c:List Nat):Fol (spell (Zm p)++c):=Z6l 40 _ (by decide)
theorem ZaM:∀o∈[[43],[45],[126],[33]],opS o=true∧adj o (some 32)=true∧o≠[40]∧(∃y,o=[y]∧isLD y=false∧stC y=true∧y<128)∧∀x∈List.range 128,stC x=true→([x]==o)=false→adj o (some x)=true:=by
 intro o ho
 have h1:∀o∈[[43],[45],[126],[33]],opS o=true∧adj o (some 32)=true∧o≠[40]∧∀x∈List.range 128,stC x=true→([x]==o)=false→adj o (some x)=true:=by decide+kernel
 obtain ⟨a,b,c,d⟩:=h1 o ho
 refine ⟨a,b,c,?_,d⟩
 simp only [List.mem_cons,List.not_mem_nil,or_false] at ho
 rcases ho with rfl|rfl|rfl|rfl<;>exact ⟨_,rfl,by decide,by decide,by decide⟩
theorem Z8C {o:List Nat} {p:List Pc} (ho:o∈[[43],[45],[126],[33]]) (h:TL p):TL (Z29 o p):=by
 obtain ⟨h1,h2,h3,⟨y,rfl,hy,hs,hl⟩,h4⟩:=ZaM o ho
 unfold Z29
 refine ⟨fun c hc=>?_,fun c hc=>Z1h hy,⟨y,_,rfl,hs,hl⟩⟩
 cases hh:headIs [y] p with
 |true=>exact ⟨⟨h1,h2,fun e=>absurd e h3⟩,trivial,h.lx c hc⟩
 |false=>
  refine ⟨⟨h1,?_,fun e=>absurd e h3⟩,h.lx c hc⟩
  obtain ⟨x,r,e,hx,hlt⟩:=h.st
  unfold headIs at hh
  rw [e] at hh
  show adj [y] (spell p++c).head? =true
  rw [e]
  exact h4 x (List.mem_range.2 hlt) hx hh
end Mine
namespace Mine
theorem ZdU:∀x∈litTab,TL [x.2]:=by
 intro x hx
 refine Z54 (P:=fun x=>TL [x.2]) (fun x h=>?_) (fun x h=>?_) (fun s _=>?_) hx
 ·have key:∀s:List Nat,(!s.isEmpty&&s.all Z8k&&(s.all fun x=>decide (x<128))&& !(casts.contains (lowerL s)))=true→TL [.int s]:=fun s hs=>by
   obtain ⟨h1,h4⟩:=Bool.and_eq_true_iff.1 hs
   obtain ⟨h2,h3⟩:=Bool.and_eq_true_iff.1 h1
   obtain ⟨h5,h6⟩:=Bool.and_eq_true_iff.1 h2
   refine ⟨fun c hc=>⟨⟨fun e=>(by rw [e] at h5;cases h5),h6,Z1A hc⟩,trivial⟩,fun c hc=>?_,?_⟩
   ·rw [show spell [.int s]=s from List.append_nil s]
    exact Z6L (ZhF h6) (Z1A hc) (.inl (by revert h4;cases casts.contains (lowerL s)<;>simp))
   ·cases s with
    |nil=>cases h5
    |cons y s=>exact ⟨y,s++[],rfl,by unfold stC;rw [List.all_eq_true.1 (ZhF h6) y (List.mem_cons_self ..)];rfl,of_decide_eq_true (List.all_eq_true.1 h3 y (List.mem_cons_self ..))⟩
  refine Zak (P:=fun x:MV×Pc=>TL [x.2]) h ?_ ?_ ?_<;>exact key _ (by decide+kernel)
 ·have key:∀w:List Nat,((!w.isEmpty&&w.all Z3e&&(w.all fun x=>decide (x<128)))&& !casts.contains (lowerL w))=true→TL [.word w]:=fun w hw=>Z1o (Bool.and_eq_true_iff.1 hw).1 (Bool.not_eq_true' _▸(Bool.and_eq_true_iff.1 hw).2) Z5S fun c hc=>Z1A hc
  refine Zak (P:=fun x:MV×Pc=>TL [x.2]) h ?_ ?_ ?_<;>exact key _ (by decide+kernel)
 ·exact ⟨fun c hc=>⟨trivial,trivial⟩,fun c hc=>Z1h (by decide),⟨39,_,rfl,by decide,by decide⟩⟩
theorem ZdV:∀x∈cstTab,TL x.2:=by
 intro x hx
 refine Z6Z (P:=fun x=>TL x.2) (fun n hn=>?_) (fun n hn=>?_) hx
 ·have:∀w∈cst1,(!w.isEmpty&&w.all Z3e&&(w.all fun x=>decide (x<128)))=true∧casts.contains (lowerL w)=false:=by decide+kernel
  exact Z1o (this n hn).1 (this n hn).2 Z5S fun c hc=>Z1A hc
 ·have key:∀w:List Nat,(!w.isEmpty&&w.all Z3e&&(w.all fun x=>decide (x<128)))=true→TL [.word w,.cmt]:=fun w hw=>by
   obtain ⟨h1,h3⟩:=Bool.and_eq_true_iff.1 hw
   have hall:=ZhD (Bool.and_eq_true_iff.1 h1).2
   refine ⟨fun c hc=>⟨okw h1 (Zaj (by decide)),trivial,trivial⟩,fun c hc=>?_,?_⟩
   ·rw [Z8,List.append_assoc];exact Z6L hall (Zaj (by decide)) (.inr (by show some 47≠some 41;decide))
   ·cases w with
    |nil=>cases h1
    |cons x w=>
     refine ⟨x,w++spell [.cmt],rfl,?_,of_decide_eq_true (List.all_eq_true.1 h3 x (List.mem_cons_self ..))⟩
     unfold stC;rw [List.all_eq_true.1 hall x (List.mem_cons_self ..)];rfl
  exact key n ((by decide+kernel:∀w∈cst2,(!w.isEmpty&&w.all Z3e&&(w.all fun x=>decide (x<128)))=true) n hn)
section
variable {R:Z0c} (hR:∀v L p,R v L p→TL p)
include hR
theorem ZE {a k p} (h:Par R a k p):TL p:=by
 obtain ⟨L,q,h,rfl⟩:=h
 split
 ·exact Z1G (hR _ _ _ h)
 ·exact hR _ _ _ h
theorem Z2t {a p} (h:Z1E R a p):TL p:=by
 obtain ⟨L,q,h,rfl⟩:=h
 split
 ·exact hR _ _ _ h
 ·exact Z1G (hR _ _ _ h)
theorem Z0C {a p} (h:Z0z R a p):TL p:=by
 obtain ⟨-,L,h⟩:=h;exact hR _ _ _ h
theorem Z8A {p} (h:TL p):TL (Z1k p):=by
 unfold Z1k;split
 ·exact Z1G h
 ·exact h
theorem Z4B {s:List Nat} {p:List Pc} (hs:preS.contains s=true) (hp:s≠[40]) (h:TL p):LX (.op s::p):=fun c hc=>⟨Z9j hs h.st fun e=>absurd e hp,h.lx c hc⟩
theorem Z6N {as ps} (h:Args R as ps):∀p∈ps,LX p∧NC p:=by
 induction h with
 |nil=>intro p hp;cases hp
 | @val v L q r ps hv _ ih=>
  intro p hp
  rcases List.mem_cons.1 hp with rfl|hp
  ·exact ⟨(hR _ _ _ hv).lx,(hR _ _ _ hv).nc⟩
  ·exact ih p hp
 | @spread v L q r ps hv _ ih=>
  intro p hp
  rcases List.mem_cons.1 hp with rfl|hp
  ·exact ⟨Z4B hR (by decide) (by decide) (hR _ _ _ hv),fun c hc=>Z1h (by decide)⟩
  ·exact ih p hp
 | @named v L q r ps hv _ ih=>
  intro p hp
  rcases List.mem_cons.1 hp with rfl|hp
  ·have:=Z1o (w:=[110,97,109,101]) (p:=.op [58]:: .sp::q) (by decide) (by decide+kernel) (fun c hc=>⟨Z3K (by decide+kernel) (by decide),trivial,(hR _ _ _ hv).lx c hc⟩) fun c hc=>Zaj (by decide)
   exact ⟨this.lx,this.nc⟩
  ·exact ih p hp
theorem ZbN {k pk p} (hk:Par R k 5 pk) (h:TL p):LX (pk++[.sp,.op [61,62],.sp]++p):=(mid (ZE hR hk) h.lx fun c _=>sp2 (by decide+kernel) (by decide) (by decide)).lx
theorem Z9p {k pk p} (hk:Par R k 5 pk) (h:TL p):LX (pk++[.sp,.op [61,62],.sp,.op [38]]++p):=
 (mid (m:=[.op [61,62],.sp,.op [38]]) (ZE hR hk) h.lx fun c _=>⟨Z9i (by decide+kernel) (by decide) (by decide),trivial,(show ok1 (.op [38]) (spell p++c) from Z9j (by decide) h.st fun e=>absurd e (by decide)),trivial⟩).lx
theorem Zb4 {as ps} (h:Items R as ps):∀p∈ps,LX p:=by
 induction h with
 |nil=>intro p hp;cases hp
 |val hv _ ih=>exact List.forall_mem_cons.2 ⟨(hR _ _ _ hv).lx,ih⟩
 |key hk hv _ ih=>exact List.forall_mem_cons.2 ⟨ZbN hR hk (hR _ _ _ hv),ih⟩
 |keyref hk hv _ ih=>exact List.forall_mem_cons.2 ⟨Z9p hR hk (hR _ _ _ hv),ih⟩
 |spread hv _ ih=>exact List.forall_mem_cons.2 ⟨Z4B hR (by decide) (by decide) (hR _ _ _ hv),ih⟩
theorem ZcX {G:MV→List Pc→Prop} (hG:∀v p,G v p→TL p) {as ps} (h:Pats R G as ps):∀p∈ps,LX p:=by
 induction h with
 |nil=>intro p hp;cases hp
 |gap _ ih=>exact List.forall_mem_cons.2 ⟨Z5S,ih⟩
 |val hv _ ih=>exact List.forall_mem_cons.2 ⟨(hG _ _ hv).lx,ih⟩
 |ref hv _ ih=>exact List.forall_mem_cons.2 ⟨Z4B hR (by decide) (by decide) (hG _ _ hv),ih⟩
 |key hk hv _ ih=>exact List.forall_mem_cons.2 ⟨ZbN hR hk (hG _ _ hv),ih⟩
 |keyref hk hv _ ih=>exact List.forall_mem_cons.2 ⟨Z9p hR hk (hG _ _ hv),ih⟩
theorem ZbA {G:MV→List Pc→Prop} (hG:∀v p,G v p→TL p) {v p} (h:Z76 R G v p):TL p:=by
 obtain ⟨is,ps,rfl,h,-,rfl⟩:=h
 have h1:LX (Z2 ps):=Z13 (ZcX hR hG h)
 have h2:LX (Z2 ps++(if lastNone is then [.op [44]] else [])):=by
  split
  ·exact Z9q h1 (fun c hc=>⟨Z3K (by decide+kernel) (by decide),trivial⟩) fun c _=>Z6l 44 _ (by decide)
  ·rw [List.append_nil];exact h1
 exact ⟨Zb5 (by decide+kernel) (by decide) (by decide) Zdj h2,fun c _=>Z1h (by decide),⟨91,_,rfl,by decide,by decide⟩⟩
theorem Zb3 {as ps} (h:Tests R as ps):∀p∈ps,TL p:=by
 induction h with
 |one h=>exact List.forall_mem_cons.2 ⟨ZE hR h,fun p hp=>by cases hp⟩
 |cons h _ ih=>exact List.forall_mem_cons.2 ⟨ZE hR h,ih⟩
theorem ZaB {as ps} (h:Tests R as ps):TL (Z2 ps):=by
 have h1:=Zb3 hR h
 refine ⟨Z13 fun p hp=>(h1 p hp).lx,Z5Q fun p hp=>(h1 p hp).nc,?_⟩
 induction h with
 |one h=>exact (ZE hR h).st
 |cons h h2 _=>
  clear h1
  induction h2 with
  |one _=>rw [ZS,List.append_assoc];exact Z7h (ZE hR h).st
  |cons _ _ _=>rw [ZS,List.append_assoc];exact Z7h (ZE hR h).st
theorem ZcY {as ps} (h:Arms R as ps):∀p∈ps,LX p:=by
 induction h with
 |nil=>intro p hp;cases hp
 |arm ht hv _ ih=>exact List.forall_mem_cons.2 ⟨(mid (ZaB hR ht) (hR _ _ _ hv).lx fun c _=>sp2 (by decide+kernel) (by decide) (by decide)).lx,ih⟩
 | @dflt v L p r ps hv _ ih=>exact List.forall_mem_cons.2 ⟨(Z3w (w:=[100,101,102,97,117,108,116]) (p:=.op [61,62]:: .sp::p) (by decide) (by decide+kernel) (fun c hc=>⟨Z9i (by decide+kernel) (by decide) (by decide),trivial,(hR _ _ _ hv).lx c hc⟩)).lx,ih⟩
theorem ZcW {as ps} (h:Raws R as ps):∀p∈ps,LX p∧NC p:=by
 induction h with
 |nil=>intro p hp;cases hp
 |cons hv _ ih=>exact List.forall_mem_cons.2 ⟨⟨(hR _ _ _ hv).lx,(hR _ _ _ hv).nc⟩,ih⟩
theorem ZbM {m p} (h:Member R m p):LX p∧∀c,Fol c→ok1 (arrow true) (spell p++c):=by
 refine ⟨?_,fun c _=>Z3K (by decide+kernel) (by decide)⟩
 induction h with
 |plain h=>
  exact fun c hc=>⟨okw ((by decide+kernel:∀w∈memNames,(!w.isEmpty&&w.all Z3e)=true) _ h) (Z1A hc),trivial⟩
 |text _ _ h=>exact Z7r (hR _ _ _ h).lx
 |var _ h=>exact (hR _ _ _ h).lx
theorem Z60 (ns:Bool) (q:List Pc) (c:List Nat):Fol (spell (arrow ns::q)++c):=by
 cases ns
 ·exact Z6l 45 _ (by decide)
 ·exact Z6l 63 _ (by decide)
theorem Z8D {v L p} (n:Node R v L p):TL p:=by
 induction n with
 | @var n h=>
  have:(!n.isEmpty&&n.all isLD)=true:=by
   have:∀n∈varTab,(!n.isEmpty&&n.all isLD)=true:=by decide+kernel
   exact this n h
  obtain ⟨h1,h2⟩:=Bool.and_eq_true_iff.1 this
  exact ⟨fun c hc=>⟨⟨fun e=>(by rw [e] at h1;cases h1),h2,Z1A hc⟩,trivial⟩,fun c hc=>Z1h (by decide),⟨36,_,rfl,by decide,by decide⟩⟩
 |lit h=>exact ZdU _ h
 |cst h=>exact ZdV _ h
 |un h1 h2=>exact Z8C (List.mem_append_left [[33]] h1) (ZE hR h2)
 |not h=>exact Z8C (by decide) (ZE hR h)
 |cast ht h=>exact ⟨fun c hc=>⟨ht,(ZE hR h).lx c hc⟩,fun c hc=>Z1h (by decide),⟨40,_,rfl,by decide,by decide⟩⟩
 |sil h=>exact ⟨Z4B hR (by decide) (by decide) (ZE hR h),fun c hc=>Z1h (by decide),⟨64,_,rfl,by decide,by decide⟩⟩
 |pre hw h=>
  have:∀x∈preTab,(!x.1.isEmpty&&x.1.all Z3e&&(x.1.all fun x=>decide (x<128)))=true∧casts.contains (lowerL x.1)=false:=by decide+kernel
  exact Z3w (this _ hw).1 (this _ hw).2 (ZE hR h).lx
 |yfrom h=>exact Z3w (by decide) (by decide+kernel) (Z3w (by decide) (by decide+kernel) (ZE hR h).lx).lx
 |yld0=>exact Z1o (by decide) (by decide+kernel) Z5S fun c hc=>Z1A hc
 |yld h=>exact Z3w (by decide) (by decide+kernel) (Z8A hR (ZE hR h)).lx
 |yldk h1 h2=>exact Z3w (by decide) (by decide+kernel) (mid (Z8A hR (ZE hR h1)) (ZE hR h2).lx fun c _=>sp2 (by decide+kernel) (by decide) (by decide)).lx
 | @bin o l la lb m a b pa pb ho h1 h2=>
  refine mid (ZE hR h1) (ZE hR h2).lx fun c _=>?_
  unfold Z8d
  split
  ·exact ⟨okw (by subst o;decide) (Zaj (by decide)),trivial,trivial⟩
  ·exact sp2 (List.mem_append_left _ (List.mem_append_left _ (List.mem_append_right _ (List.mem_map.2 ⟨_,ho,rfl⟩)))) (by assumption) (by
    have:∀x∈opTab,x.1≠[40]:=by decide+kernel
    exact this _ ho)
 |lg ho h1 h2=>
  have h:∀x∈lgTab,x.2.1∈fixS∧x.2.1≠[120,111,114]∧x.2.1≠[40]:=by decide+kernel
  obtain ⟨g1,g2,g3⟩:=h _ ho
  exact mid (ZE hR h1) (ZE hR h2).lx fun c _=>sp2 g1 g2 g3
 |elvis h1 h2=>exact mid (ZE hR h1) (ZE hR h2).lx fun c _=>⟨⟨by decide,by show adj [63] (some 58)=true;decide+kernel,fun e=>absurd e (by decide)⟩,Z9i (by decide+kernel) (by decide) (by decide),trivial,trivial⟩
 |tern h1 h2 h3=>exact mid (mid (ZE hR h1) (ZE hR h2).lx fun c _=>sp2 (by decide+kernel) (by decide) (by decide)) (ZE hR h3).lx fun c _=>sp2 (by decide+kernel) (by decide) (by decide)
 |asg h1 h2=>exact mid (Z0C hR h1) (ZE hR h2).lx fun c _=>sp2 (by decide+kernel) (by decide) (by decide)
 |asgl h1 h2=>
  refine mid (ZbA hR (fun v p h=>?_) h1) (ZE hR h2).lx fun c _=>sp2 (by decide+kernel) (by decide) (by decide)
  rcases h with h|h
  ·exact Z0C hR h
  ·exact ZbA hR (fun v p h=>Z0C hR h) h.1
 | @aref t a pt L p h1 _ h2=>exact mid (Z0C hR h1) (hR _ _ _ h2).lx fun c _=>⟨Z9i (by decide+kernel) (by decide) (by decide),trivial,(show ok1 (.op [38]) (spell p++c) from Z9j (by decide) (hR _ _ _ h2).st fun e=>absurd e (by decide)),trivial⟩
 | @aop o t a pt p ho h1 h2=>
  have h:∀o∈aopTab,o++[61]∈fixS∧o++[61]≠[120,111,114]∧o++[61]≠[40]:=by decide+kernel
  obtain ⟨g1,g2,g3⟩:=h o ho
  exact mid (Z0C hR h1) (ZE hR h2).lx fun c _=>sp2 g1 g2 g3
 | @incp o t pt ho h=>
  refine ZfZ (P:=fun o=>TL (.op o::pt)) ho ?_ ?_
  ·exact ⟨Z4B hR (by decide) (by decide) (Z0C hR h),fun c hc=>Z1h (by decide),⟨43,_,rfl,by decide,by decide⟩⟩
  ·exact ⟨Z4B hR (by decide) (by decide) (Z0C hR h),fun c hc=>Z1h (by decide),⟨45,_,rfl,by decide,by decide⟩⟩
 | @incs o t pt ho h=>
  refine ZfZ (P:=fun o=>TL (pt++[.op o])) ho ?_ ?_
  ·exact suf (Z0C hR h) (Z7q (by decide)) fun c _=>Z6l 43 _ (by decide)
  ·exact suf (Z0C hR h) (Z7q (by decide)) fun c _=>Z6l 45 _ (by decide)
 |insn h hc=>
  refine mid (ZE hR h) ?_ fun c _=>⟨okw (by decide) (Zaj (by decide)),trivial,trivial⟩
  refine ZfZ (P:=fun x:MV×List Pc=>LX x.2) hc ?_ ?_<;>exact fun c hc=>⟨okw (by decide) (Z1A hc),trivial⟩
 | @ins x c px L pc h hc=>
  have:TL (if tagOf c=[118,97,114] then pc else Zm pc):=by
   split
   ·exact hR _ _ _ hc
   ·exact Z1G (hR _ _ _ hc)
  exact mid (ZE hR h) this.lx fun c _=>⟨okw (by decide) (Zaj (by decide)),trivial,trivial⟩
 | @mcall o m as ns po pm ps h1 h2 h3=>
  rw [List.append_assoc,List.append_assoc]
  refine suf (q:=arrow ns::(pm++argText ps)) (Z2t hR h1) (fun c hc=>⟨?_,Z12.2 ⟨(ZbM hR h2).1 _ (Z5Z c),Z52 (Z6N hR h3) c hc⟩⟩) fun c _=>Z60 hR ns _ c
  cases ns<;>exact Z3K (by decide+kernel) (by decide)
 | @prop o m ns po pm h1 h2=>
  rw [List.append_assoc]
  refine suf (q:=arrow ns::pm) (Z2t hR h1) (fun c hc=>⟨?_,(ZbM hR h2).1 c hc⟩) fun c _=>Z60 hR ns _ c
  cases ns<;>exact Z3K (by decide+kernel) (by decide)
 |dim h1 h2=>
  rw [List.append_assoc,List.append_assoc]
  exact suf (Z2t hR h1) (Zb5 (by decide+kernel) (by decide) (by decide) Zdj (hR _ _ _ h2).lx) fun c _=>Z6l 91 _ (by decide)
 |dim0 h1=>exact suf (Z2t hR h1) (fun c hc=>⟨Z3K (by decide+kernel) (by decide),ZbK (by decide) hc,trivial⟩) fun c _=>Z6l 91 _ (by decide)
 |callf h=>exact Z1o (by decide) (by decide+kernel) (Z52 (Z6N hR h)) fun c _=>Zaj (by decide)
 | @callo o as po ps h1 h2=>
  have:TL (if tagOf o=[112,114,111,112] then Zm po else po):=by
   split
   ·exact Z1G (Z2t hR h1)
   ·exact Z2t hR h1
  exact suf this (Z52 (Z6N hR h2)) fun c _=>Z5Z c
 |arr h=>exact ⟨Zb5 (by decide+kernel) (by decide) (by decide) Zdj (Z13 (Zb4 hR h)),fun c _=>Z1h (by decide),⟨91,_,rfl,by decide,by decide⟩⟩
 |mtch h1 h2=>
  refine Z3w (by decide) (by decide+kernel) fun c hc=>Z12.2 ⟨Z12.2 ⟨Z51 (hR _ _ _ h1).lx (hR _ _ _ h1).nc _ (Z6l 32 _ (by decide)),trivial,trivial⟩,Z7r (Z13 (ZcY hR h2)) c hc⟩
 |empt h=>exact Z1o (by decide) (by decide+kernel) (Z1G (hR _ _ _ h)).lx fun c _=>Zaj (by decide)
 |iset h=>exact Z1o (by decide) (by decide+kernel) (Z52 (ZcW hR h)) fun c _=>Zaj (by decide)
end
theorem Z8B:∀{h v L p},PT h v L p→TL p
 |0,_,_,_,h=>Z8D (R:=fun _ _ _=>False) (fun _ _ _ h=>h.elim) h.1
 |h+1,_,_,_,.inl n=>Z8B n
 |h+1,_,_,_,.inr n=>Z8D (R:=PT h) (fun _ _ _ x=>Z8B x) n.1
end Mine
namespace Mine
noncomputable abbrev Cu (ts:List MV) (i:Nat):List MV:=[.fl ts,.int (i:Nat)]
theorem getF {ts:List MV} {i:Nat} {v:MV} (h:ts[i]? =some v):PrT .getitem [.fl ts,.int (i:Nat)] v:=Z5K (w:=v) (by
 show orE (orE none (orE (b0 (ts[i]?) ok) none)) none=_
 rw [h];rfl) rfl
theorem c62 {ts:List MV} {i:Nat} {v:MV} (a:Addr) (h:ts[i]? =some v) (d:Nat):Ct (Z3 FT (d+1)) a 62 [.lst a] (Cu ts i) v (Cu ts i):=
 Z74 ZiO [.g v] (Eq.refl a) (Eq.refl a) (getF h) (by kernel_rfl)
theorem Zil (i:Nat):PrT .sub [.int ((i+1:Nat):Int),.int 1] (.int (i:Nat)):=Z5K rfl (congrArg MV.int (show (((i+1:Nat):Int)-1)=(i:Nat) by lia))
theorem c64 {ts:List MV} {i:Nat} {v:MV} (a:Addr) (h:ts[i]? =some v) (d:Nat):Ct (Z3 FT (d+1)) a 64 [.lst a] (Cu ts i) v (Cu ts (i+1)):=
 ZfC ZiN [.g (.int ((i+1:Nat):Int)),.g (.int (i:Nat)),.g v] (Eq.refl a) (addT i 1) (Eq.refl a) (Eq.refl a) (Eq.refl a) (Zil i) (getF h) (by kernel_rfl)
theorem c63t {ts:List MV} {i:Nat} {s:List Nat} (a:Addr) (h:ts[i]? =some (tk [111,112] s)) (d:Nat):Ct (Z3 FT (d+2)) a 63 [.lst a,.str s] (Cu ts i) (.bool true) (Cu ts (i+1)):=by
 have e1:MV.bool ((MV.eqv (tk [111,112] s) (tk [111,112] s)) !=false)=.bool true:=by
  show MV.bool ((([111,112]==[111,112])&&(s==s)) !=false)=.bool true
  rw [beq_self_eq_true s];rfl
 exact Z27 ZhU [.c (tk [111,112] s) (Cu ts i),.t true] (c62 a h d) e1 (Eq.refl a) (Eq.refl a) (by kernel_rfl)
theorem c63f {ts:List MV} {i:Nat} {s k s':List Nat} (a:Addr) (h:ts[i]? =some (tk k s')) (hn:(k==[111,112]&&s'==s)=false) (d:Nat):Ct (Z3 FT (d+2)) a 63 [.lst a,.str s] (Cu ts i) (.bool false) (Cu ts i):=by
 have e1:MV.bool ((MV.eqv (tk k s') (tk [111,112] s)) !=false)=.bool false:=by
  show MV.bool (((k==[111,112])&&(s'==s)) !=false)=.bool false
  rw [hn];rfl
 exact Zdu ZhU [.c (tk k s') (Cu ts i),.t false] (c62 a h d) e1 (by kernel_rfl)
noncomputable def book:List (List Nat×Nat):=[([120,111,114],2),([63],5),([63,63],6),([124,124],7),([38,38],8),([124],9),([94],10),([38],11),([61,61],12),([33,61],12),([61,61,61],12),([33,61,61],12),([60,61,62],12),([60],13),([60,61],13),([62],13),([62,61],13),([46],14),([60,60],15),([62,62],15),([43],16),([45],16),([42],17),([47],17),([37],17),([105,110,115,116,97,110,99,101,111,102],18),([42,42],20)]
noncomputable def Z8o:List (List Nat×MV):=book.map fun x=>(x.1,.int (x.2:Nat))
noncomputable def look (s:List Nat):List (List Nat×Nat)→Nat
 |[]=>0
 |(k,n)::r=>if s==k then n else look s r
noncomputable def lv (k s:List Nat):Nat:=if [[111,112],[119,111,114,100]].contains k then look s book else 0
theorem Z9t (s:List Nat):∀l:List (List Nat×Nat),(Zz s (l.map fun x=>(x.1,MV.int (x.2:Nat)))).getD (.int 0)=.int (look s l:Nat)
 |[]=>rfl
 |(k,n)::r=>by
  show (if (s==k)=true then some (MV.int n) else Zz s _).getD (.int 0)=.int ((if (s==k)=true then n else look s r:Nat))
  cases h:(s==k) with
  |true=>rfl
  |false=>exact Z9t s r
theorem c65 (k s:List Nat) (d:Nat):Pct (Z3 FT (d+1)) 65 [tk k s] (.int (lv k s:Nat)):=by
 unfold lv
 have e1:=Z2n k [[111,112],[119,111,114,100]]
 cases h:[[111,112],[119,111,114,100]].contains k with
 |true=>
  rw [h] at e1
  have e2:PrT .dget [.dict Z8o,.str s,.int 0] (.int (look s book:Nat)):=Z5K rfl (by
   show (Zz s Z8o).getD (.int 0)=_
   unfold Z8o;rw [Z9t])
  have e3:PrT .isdict [.dict Z8o] (.dict Z8o):=Z5K rfl rfl
  have e4:PrT .getitem [tk k s,.int 1] (.str s):=Z5K rfl rfl
  exact Z22 ZhT [.t true,.g (.dict Z8o),.g (.str s),.g (.int (look s book:Nat))] (congrArg MV.bool e1) e3 e4 e2 (by kernel_rfl)
 |false=>
  rw [h] at e1
  exact Z4h ZhT [.t false] (congrArg MV.bool e1) (by kernel_rfl)
end Mine
namespace Mine
theorem Z34 {C:Zv} {t:CE} {b:List CS} {ρ:Loc} {σ σ1:Z4} {Q:Zn} (hT:∀Q:ZT,Q (.bool false) σ1→wpE C t ρ σ Q) (q:Q .next ρ σ1):wpS C (.while t b) ρ σ Q:=by
 unfold wpS
 refine ⟨fun n ρ1 σ'=>ρ1=ρ∧σ'=σ,⟨0,rfl,rfl⟩,?_⟩
 rintro n _ _ ⟨rfl,rfl⟩
 exact hT _ q
theorem Zcj {C:Zv} {t:CE} {b:List CS} {ρ ρ':Loc} {σ σ1 σ':Z4} {w:MV} {Q:Zn} (hT:∀Q:ZT,Q (.bool true) σ1→wpE C t ρ σ Q) (hB:∀Q:Zn,Q (.ret w) ρ' σ'→wpSs C b ρ σ1 Q)
  (q:Q (.ret w) ρ' σ'):wpS C (.while t b) ρ σ Q:=by
 unfold wpS
 refine ⟨fun n ρ1 σ'=>ρ1=ρ∧σ'=σ,⟨0,rfl,rfl⟩,?_⟩
 rintro n _ _ ⟨rfl,rfl⟩
 exact hT _ (hB _ q)
theorem Z5s {C:Zv} (hC:Z4c C C) {t:CE} {b:List CS} {ρ ρ':Loc} {σ σ1 σ':Z4} {Q:Zn} (hT:∀Q:ZT,Q (.bool true) σ1→wpE C t ρ σ Q) (hB:∀Q:Zn,Q .next ρ' σ'→wpSs C b ρ σ1 Q)
  (k:wpS C (.while t b) ρ' σ' Q):wpS C (.while t b) ρ σ Q:=by
 unfold wpS at k ⊢
 obtain ⟨I,⟨n,hn⟩,hI⟩:=k
 refine ⟨fun k ρ1 σ2=>I k ρ1 σ2∨(k=n+1∧ρ1=ρ∧σ2=σ),⟨n+1,.inr ⟨rfl,rfl,rfl⟩⟩,?_⟩
 rintro k ρ1 σ2 (h|⟨rfl,rfl,rfl⟩)
 ·refine Zi hC t ρ1 σ2 (fun v σ3 hv=>?_) (hI k ρ1 σ2 h)
  cases v with
  |bool β=>
   cases β with
   |true=>
    refine Z0m hC b ρ1 σ3 (fun o ρ4 σ4 ho=>?_) hv
    cases o with
    |next=>obtain ⟨m,hm,h⟩:=ho;exact ⟨m,hm,.inl h⟩
    |ret x=>exact ho
   |false=>exact hv
  |_=>exact hv
 ·exact hT _ (hB _ ⟨n,Nat.lt_succ_self n,.inl hn⟩)
noncomputable abbrev sA (a:Addr):St2:=⟨a,a+1,Nat.ne_of_lt (Nat.lt_succ_self a)⟩
theorem Zi6 {C:Zv} {a:Addr} {e:CE} {ρ:Loc} {l l':List MV} {t:List TE} {v:MV} (h:evE C (sA a) e ρ ⟨some l,none⟩ t (fun w κ _=>w=v∧κ.c1=some l')) {σ:Z4} (hs:σ a=some l) (Q:ZT) (q:Q v (upd σ a l')):wpE C e ρ σ Q:=
 Zj (s:=sA a) e ρ ⟨some l,none⟩ t _ σ Q h ⟨hs,trivial⟩ fun w κ t' e k=>by
  obtain ⟨c1,c2⟩:=κ
  obtain ⟨rfl,k⟩:=k
  obtain ⟨e1,e2⟩:=e
  cases k
  cases c2 with
  |none=>exact q
  |some _=>cases e2
theorem Z0R {C:Zv} {a:Addr} {b:List CS} {ρ ρ':Loc} {l l':List MV} {t:List TE} (h:Z3h C (sA a) b ρ ⟨some l,none⟩ t (fun o ρ1 κ _=>o=.next∧ρ1=ρ'∧κ.c1=some l')) {σ:Z4} (hs:σ a=some l) (Q:Zn) (q:Q .next ρ' (upd σ a l')):wpSs C b ρ σ Q:=
 Zl (s:=sA a) b ρ ⟨some l,none⟩ t _ σ Q h ⟨hs,trivial⟩ fun o ρ1 κ t' e k=>by
  obtain ⟨c1,c2⟩:=κ
  obtain ⟨rfl,rfl,k⟩:=k
  obtain ⟨e1,e2⟩:=e
  cases k
  cases c2 with
  |none=>exact q
  |some _=>cases e2
theorem Zi5 {C:Zv} {a:Addr} {b:List CS} {ρ:Loc} {l l':List MV} {t:List TE} {v:MV} (h:Z3h C (sA a) b ρ ⟨some l,none⟩ t (fun o _ κ _=>o=.ret v∧κ.c1=some l')) {σ:Z4} (hs:σ a=some l) (Q:Zn) (q:∀ρ,Q (.ret v) ρ (upd σ a l')):wpSs C b ρ σ Q:=
 Zl (s:=sA a) b ρ ⟨some l,none⟩ t _ σ Q h ⟨hs,trivial⟩ fun o ρ1 κ t' e k=>by
  obtain ⟨c1,c2⟩:=κ
  obtain ⟨rfl,k⟩:=k
  obtain ⟨e1,e2⟩:=e
  cases k
  cases c2 with
  |none=>exact q ρ1
  |some _=>cases e2
theorem Z35 {σ:Z4} {a:Addr} {l:List MV} (h:σ a=some l):upd σ a l=σ:=by
 funext b;unfold upd
 by_cases e:b=a
 ·rw [if_pos e,e,h]
 ·rw [if_neg e]
noncomputable def w66:CS:=match b66 with|[_,w,_]=>w|_=>.bad
noncomputable def t66:CE:=match w66 with| .while t _=>t|_=>.var 0
noncomputable def l66:List CS:=match w66 with| .while _ b=>b|_=>[]
noncomputable def EL (d:Nat) (a:Addr) (ts:List MV) (m:Nat) (v:MV) (i:Nat) (w:MV) (j:Nat):Prop:=∀(x3 x4 x5 x6 x7 x8:Option MV) (σ:Z4) (Q:Zn),σ a=some (Cu ts i)→
 (∀y3 y4 y5 y6 y7 y8,Q .next [some (.lst a),some (.int (m:Nat)),some w,y3,y4,y5,y6,y7,y8] (upd σ a (Cu ts j)))→
 wpS (Z3 FT d) (.while t66 l66) [some (.lst a),some (.int (m:Nat)),some v,x3,x4,x5,x6,x7,x8] σ Q
theorem testEq (m l:Nat) {β:Bool} (h:decide (max m 1≤l)=β):MV.bool (decide ((if (m:Int)<1 then (1:Int) else m)≤(l:Int)))=.bool β:=by
 rw [←h]
 congr 1
 by_cases hm:m<1
 ·rw [if_pos (by omega),Nat.max_eq_right (by omega)]
  exact decide_eq_decide.2 (by omega)
 ·rw [if_neg (by omega),Nat.max_eq_left (by omega)]
  exact decide_eq_decide.2 (by omega)
theorem ZbB {a:Addr} {ts:List MV} {m:Nat} {v:MV} {i:Nat} {k s:List Nat} {β:Bool} (d:Nat) (h:ts[i]? =some (tk k s)) (hβ:decide (max m 1≤lv k s)=β) {x3 x4 x5 x6 x7 x8:Option MV} {σ:Z4} (hs:σ a=some (Cu ts i)) (Q:ZT)
  (q:Q (.bool β) σ):wpE (Z3 FT (d+1)) t66 [some (.lst a),some (.int (m:Nat)),some v,x3,x4,x5,x6,x7,x8] σ Q:=by
 refine Zi6 (a:=a) (l:=Cu ts i) (l':=Cu ts i) (t:=[.c (tk k s) (Cu ts i),.v (.int (lv k s:Nat))]) (v:=.bool β)
  (ZD (And.intro (c62 a h d) (And.intro (c65 k s d) (And.intro (testEq m (lv k s) hβ) (Eq.refl (some (Cu ts i)))))) (by kernel_rfl)) hs Q ?_
 rw [Z35 hs];exact q
theorem Z7Z {d:Nat} {a:Addr} {ts:List MV} {m:Nat} {v:MV} {i:Nat} {k s:List Nat} (h:ts[i]? =some (tk k s)) (hl:lv k s<max m 1):EL (d+1) a ts m v i v i:=by
 intro x3 x4 x5 x6 x7 x8 σ Q hs q
 refine Z34 (σ1:=σ) (fun Q q=>ZbB d h (decide_eq_false (by omega)) hs Q q) ?_
 have:=q x3 x4 x5 x6 x7 x8
 rwa [Z35 hs] at this
theorem Z2M {d:Nat} {a:Addr} {ts:List MV} {m:Nat} {v u w:MV} {i i' j:Nat} {k s:List Nat} (h:ts[i]? =some (tk k s)) (hl:max m 1≤lv k s)
  (hB:∀x3 x4 x5 x6 x7 x8,∃y3 y4 y5 y6 y7 y8,∀σ,σ a=some (Cu ts i)→∀Q:Zn,Q .next [some (.lst a),some (.int (m:Nat)),some u,y3,y4,y5,y6,y7,y8] (upd σ a (Cu ts i'))→wpSs (Z3 FT (d+1)) l66 [some (.lst a),some (.int (m:Nat)),some v,x3,x4,x5,x6,x7,x8] σ Q)
  (k:EL (d+1) a ts m u i' w j):EL (d+1) a ts m v i w j:=by
 intro x3 x4 x5 x6 x7 x8 σ Q hs q
 obtain ⟨y3,y4,y5,y6,y7,y8,hB⟩:=hB x3 x4 x5 x6 x7 x8
 refine Z5s (Zs FT (d+1)) (σ1:=σ) (fun Q q=>ZbB d h (decide_eq_true hl) hs Q q) (hB σ hs) (k y3 y4 y5 y6 y7 y8 _ Q (Z9 σ a _) fun z3 z4 z5 z6 z7 z8=>?_)
 rw [Z0A];exact q z3 z4 z5 z6 z7 z8
end Mine
namespace Mine
theorem Zdq {C:Zv} {a:Addr} {c:CS} {rest:List CS} {ρ ρ':Loc} {l l':List MV} {t:List TE} (h:evS C (sA a) c ρ ⟨some l,none⟩ t (fun o ρ1 κ _=>o=.next∧ρ1=ρ'∧κ.c1=some l')) {σ:Z4} (hs:σ a=some l) {Q:Zn}
  (k:wpSs C rest ρ' (upd σ a l') Q):wpSs C (c::rest) ρ σ Q:=by
 unfold wpSs
 exact Z43 (s:=sA a) c ρ ⟨some l,none⟩ t _ σ _ h ⟨hs,trivial⟩ fun o ρ1 κ t' e z=>by
  obtain ⟨c1,c2⟩:=κ
  obtain ⟨rfl,rfl,z⟩:=z
  obtain ⟨e1,e2⟩:=e
  cases z
  cases c2 with
  |none=>exact k
  |some _=>cases e2
theorem fin3' {o:Out} {ρ:Loc} {l:List MV}:Out.next=.next∧ρ=ρ∧some l=some l:=⟨rfl,rfl,rfl⟩
noncomputable abbrev E66 (d:Nat) (a:Addr) (ts:List MV) (m:Nat) (i:Nat) (w:MV) (j:Nat):Prop:=Ct (Z3 FT d) a 66 [.lst a,.int (m:Nat)] (Cu ts i) w (Cu ts j)
noncomputable abbrev U67 (d:Nat) (a:Addr) (ts:List MV) (i:Nat) (w:MV) (j:Nat):Prop:=Ct (Z3 FT d) a 67 [.lst a] (Cu ts i) w (Cu ts j)
theorem Z6j {d:Nat} {a:Addr} {ts:List MV} {m i j k:Nat} {v w:MV} (h:U67 d a ts i v j) (hl:EL d a ts m v j w k):E66 (d+1) a ts m i w k:=by
 intro σ Q hs q
 refine Z03 ZiM rfl ?_
 show wpSs _ [_,.while t66 l66,_] _ _ _
 refine Zdq (t:=[.c v (Cu ts j)]) (ρ':=[some (.lst a),some (.int (m:Nat)),some v,none,none,none,none,none,none]) (l':=Cu ts j)
  (ZD (And.intro h (fin3' (o:=.next) (ρ:=[some (.lst a),some (.int (m:Nat)),some v,none,none,none,none,none,none]) (l:=Cu ts j))) (by kernel_rfl)) hs ?_
 unfold wpSs
 refine hl none none none none none none _ _ (Z9 σ a _) fun y3 y4 y5 y6 y7 y8=>?_
 rw [Z0A]
 exact Zi5 (a:=a) (l:=Cu ts k) (l':=Cu ts k) (t:=[]) (v:=w) (ZD (And.intro (Eq.refl (Out.ret w)) (Eq.refl (some (Cu ts k)))) (by kernel_rfl)) (Z9 σ a _) _ fun ρ=>by
  rw [Z0A];exact ⟨_,Z0Z,q⟩
noncomputable def kOf (o:List Nat):List Nat:=if o=[120,111,114] then [119,111,114,100] else [111,112]
noncomputable def Z2U:MV:=.dict [([38,38],.str [97,110,100]),([124,124],.str [111,114]),([63,63],.str [99,111,97,108,101,115,99,101])]
theorem ZeR:∀x∈opTab,lv (kOf x.1) x.1=x.2.1:=by decide+kernel
theorem ZfP {d:Nat} {a:Addr} {ts:List MV} {m i j1 j:Nat} {v r w:MV} {o:List Nat} {l la lb m':Nat} (ho:(o,l,la,lb,m')∈opTab) (h:ts[i]? =some (tk (kOf o) o)) (hm:max m 1≤l)
  (hr:E66 (d+1) a ts m' (i+1) r j1) (k:EL (d+1) a ts m (.tup [.str [98,105,110],.str o,v,r]) j1 w j):EL (d+1) a ts m v i w j:=by
 refine Z2M h (by rw [ZeR _ ho];exact hm) (fun x3 x4 x5 x6 x7 x8=>⟨some (.int (l:Nat)),some (.str o),x5,x6,some r,some Z2U,fun σ hs Q q=>?_⟩) k
 have h65:=c65 (kOf o) o d
 rw [ZeR _ ho] at h65
 have:=Z00 (tab:=opTab) (F:=fun x=>Z3h (Z3 FT (d+1)) (sA a) l66 [some (.lst a),some (.int (m:Nat)),some v,x3,x4,x5,x6,x7,x8] ⟨some (Cu ts i),none⟩ [.c (tk (kOf x.1) x.1) (Cu ts i),.v (.int (x.2.1:Nat)),.c (tk (kOf x.1) x.1) (Cu ts (i+1)),.c r (Cu ts j1)]
   (fun o ρ1 κ _=>o=.next∧ρ1=[some (.lst a),some (.int (m:Nat)),some (.tup [.str [98,105,110],.str x.1,v,r]),some (.int (x.2.1:Nat)),some (.str x.1),x5,x6,some r,some Z2U]∧κ.c1=some (Cu ts j1)))
  (G:=fun x=>Ct (Z3 FT (d+1)) a 62 [.lst a] (Cu ts i) (tk (kOf x.1) x.1) (Cu ts i)∧Pct (Z3 FT (d+1)) 65 [tk (kOf x.1) x.1] (.int (x.2.1:Nat))∧Ct (Z3 FT (d+1)) a 64 [.lst a] (Cu ts i) (tk (kOf x.1) x.1) (Cu ts (i+1))∧
   E66 (d+1) a ts x.2.2.2.2 (i+1) r j1∧Out.next=.next∧[some (.lst a),some (.int (m:Nat)),some (.tup [.str [98,105,110],.str x.1,v,r]),some (.int (x.2.1:Nat)),some (.str x.1),x5,x6,some r,some Z2U]=[some (.lst a),some (.int (m:Nat)),some (.tup [.str [98,105,110],.str x.1,v,r]),some (.int (x.2.1:Nat)),some (.str x.1),x5,x6,some r,some Z2U]∧some (Cu ts j1)=some (Cu ts j1))
  (by kernel_rfl) ho (by dsimp only;exact ⟨c62 a h d,h65,c64 a h d,hr,rfl,rfl,rfl⟩)
 exact Z0R this hs Q q
theorem ZhL:∀x∈lgTab,lv [111,112] x.2.1=x.2.2.1:=by decide+kernel
theorem ZhE {d:Nat} {a:Addr} {ts:List MV} {m i j1 j:Nat} {v r w:MV} {t o:List Nat} {l la lb m':Nat} (ho:(t,o,l,la,lb,m')∈lgTab) (h:ts[i]? =some (tk [111,112] o)) (hm:max m 1≤l)
  (hr:E66 (d+1) a ts m' (i+1) r j1) (k:EL (d+1) a ts m (.tup [.str t,v,r]) j1 w j):EL (d+1) a ts m v i w j:=by
 refine Z2M h (by rw [ZhL _ ho];exact hm) (fun x3 x4 x5 x6 x7 x8=>⟨some (.int (l:Nat)),some (.str o),x5,x6,some r,some Z2U,fun σ hs Q q=>?_⟩) k
 have h65:=c65 [111,112] o d
 rw [ZhL _ ho] at h65
 have:=Z00 (tab:=lgTab) (F:=fun x=>Z3h (Z3 FT (d+1)) (sA a) l66 [some (.lst a),some (.int (m:Nat)),some v,x3,x4,x5,x6,x7,x8] ⟨some (Cu ts i),none⟩ [.c (tk [111,112] x.2.1) (Cu ts i),.v (.int (x.2.2.1:Nat)),.c (tk [111,112] x.2.1) (Cu ts (i+1)),.c r (Cu ts j1)]
   (fun o ρ1 κ _=>o=.next∧ρ1=[some (.lst a),some (.int (m:Nat)),some (.tup [.str x.1,v,r]),some (.int (x.2.2.1:Nat)),some (.str x.2.1),x5,x6,some r,some Z2U]∧κ.c1=some (Cu ts j1)))
  (G:=fun x=>Ct (Z3 FT (d+1)) a 62 [.lst a] (Cu ts i) (tk [111,112] x.2.1) (Cu ts i)∧Pct (Z3 FT (d+1)) 65 [tk [111,112] x.2.1] (.int (x.2.2.1:Nat))∧Ct (Z3 FT (d+1)) a 64 [.lst a] (Cu ts i) (tk [111,112] x.2.1) (Cu ts (i+1))∧
   E66 (d+1) a ts x.2.2.2.2.2 (i+1) r j1∧Out.next=.next∧[some (.lst a),some (.int (m:Nat)),some (.tup [.str x.1,v,r]),some (.int (x.2.2.1:Nat)),some (.str x.2.1),x5,x6,some r,some Z2U]=[some (.lst a),some (.int (m:Nat)),some (.tup [.str x.1,v,r]),some (.int (x.2.2.1:Nat)),some (.str x.2.1),x5,x6,some r,some Z2U]∧some (Cu ts j1)=some (Cu ts j1))
  (by kernel_rfl) ho (by dsimp only;exact ⟨c62 a h d,h65,c64 a h d,hr,rfl,rfl,rfl⟩)
 exact Z0R this hs Q q
end Mine
namespace Mine
theorem Zbw {d:Nat} {a:Addr} {ts:List MV} {m i j1 j:Nat} {v r w:MV} (h:ts[i]? =some (tk [111,112] [63])) (h2:ts[i+1]? =some (tk [111,112] [58])) (hm:max m 1≤5)
  (hr:E66 (d+2) a ts 6 (i+2) r j1) (k:EL (d+2) a ts m (.tup [.str [105,102],v,.none,r]) j1 w j):EL (d+2) a ts m v i w j:=by
 refine Z2M h (by rw [show lv [111,112] [63]=5 by decide+kernel];exact hm) (fun x3 x4 x5 x6 x7 x8=>⟨some (.int (5:Nat)),some (.str [63]),some .none,x6,x7,x8,fun σ hs Q q=>?_⟩) k
 have h65:Pct (Z3 FT (d+2)) 65 [tk [111,112] [63]] (.int (5:Nat)):=c65 [111,112] [63] (d+1)
 exact Z0R (t:=[.c (tk [111,112] [63]) (Cu ts i),.v (.int (5:Nat)),.c (tk [111,112] [63]) (Cu ts (i+1)),.c (.bool true) (Cu ts (i+2)),.c r (Cu ts j1)])
  (ZD (ai8 (c62 a h (d+1)) h65 (c64 a h (d+1)) (c63t a h2 d) hr (Eq.refl Out.next) (Eq.refl [some (.lst a),some (.int (m:Nat)),some (.tup [.str [105,102],v,.none,r]),some (.int (5:Nat)),some (.str [63]),some .none,x6,x7,x8]) (Eq.refl (some (Cu ts j1)))) (by kernel_rfl)) hs Q q
theorem ZdG {d:Nat} {a:Addr} {ts:List MV} {m i j0 j1 j:Nat} {v u r w:MV} {k2 s2:List Nat} (h:ts[i]? =some (tk [111,112] [63])) (h2:ts[i+1]? =some (tk k2 s2)) (hn:(k2==[111,112]&&s2==[58])=false) (hm:max m 1≤5)
  (hu:E66 (d+2) a ts 1 (i+1) u j0) (h3:ts[j0]? =some (tk [111,112] [58])) (hr:E66 (d+2) a ts 6 (j0+1) r j1) (k:EL (d+2) a ts m (.tup [.str [105,102],v,u,r]) j1 w j):EL (d+2) a ts m v i w j:=by
 refine Z2M h (by rw [show lv [111,112] [63]=5 by decide+kernel];exact hm) (fun x3 x4 x5 x6 x7 x8=>⟨some (.int (5:Nat)),some (.str [63]),some u,x6,x7,x8,fun σ hs Q q=>?_⟩) k
 have h65:Pct (Z3 FT (d+2)) 65 [tk [111,112] [63]] (.int (5:Nat)):=c65 [111,112] [63] (d+1)
 exact Z0R (t:=[.c (tk [111,112] [63]) (Cu ts i),.v (.int (5:Nat)),.c (tk [111,112] [63]) (Cu ts (i+1)),.c (.bool false) (Cu ts (i+1)),.c u (Cu ts j0),.c (.bool true) (Cu ts (j0+1)),.c r (Cu ts j1)])
  (ZD (Z8s (c62 a h (d+1)) h65 (c64 a h (d+1)) (c63f a h2 hn d) hu (c63t a h3 d) hr (Eq.refl Out.next) (Eq.refl [some (.lst a),some (.int (m:Nat)),some (.tup [.str [105,102],v,u,r]),some (.int (5:Nat)),some (.str [63]),some u,x6,x7,x8]) (Eq.refl (some (Cu ts j1)))) (by kernel_rfl)) hs Q q
noncomputable abbrev O74 (d:Nat) (a:Addr) (ts:List MV) (i:Nat) (w:MV) (j:Nat):Prop:=Ct (Z3 FT d) a 74 [.lst a] (Cu ts i) w (Cu ts j)
theorem ZdH {d:Nat} {a:Addr} {ts:List MV} {m i j:Nat} {v w:MV} {n:List Nat} (h:ts[i]? =some (tk [119,111,114,100] [105,110,115,116,97,110,99,101,111,102])) (h2:ts[i+1]? =some (tk [119,111,114,100] n)) (hm:max m 1≤18)
  (k:EL (d+1) a ts m (.tup [.str [105,110,115,116,97,110,99,101,111,102],v,.tup [.str [110,97,109,101],.str n]]) (i+2) w j):EL (d+1) a ts m v i w j:=by
 refine Z2M h (by rw [show lv [119,111,114,100] [105,110,115,116,97,110,99,101,111,102]=18 by decide+kernel];exact hm) (fun x3 x4 x5 x6 x7 x8=>⟨some (.int (18:Nat)),some (.str [105,110,115,116,97,110,99,101,111,102]),x5,some (.bool true),x7,x8,fun σ hs Q q=>?_⟩) k
 have h65:Pct (Z3 FT (d+1)) 65 [tk [119,111,114,100] [105,110,115,116,97,110,99,101,111,102]] (.int (18:Nat)):=c65 [119,111,114,100] [105,110,115,116,97,110,99,101,111,102] d
 exact Z0R (t:=[.c (tk [119,111,114,100] [105,110,115,116,97,110,99,101,111,102]) (Cu ts i),.v (.int (18:Nat)),.c (tk [119,111,114,100] [105,110,115,116,97,110,99,101,111,102]) (Cu ts (i+1)),.c (tk [119,111,114,100] n) (Cu ts (i+1)),.c (tk [119,111,114,100] n) (Cu ts (i+2))])
  (ZD (ai8 (c62 a h d) h65 (c64 a h d) (c62 a h2 d) (c64 a h2 d) (Eq.refl Out.next) (Eq.refl [some (.lst a),some (.int (m:Nat)),some (.tup [.str [105,110,115,116,97,110,99,101,111,102],v,.tup [.str [110,97,109,101],.str n]]),some (.int (18:Nat)),some (.str [105,110,115,116,97,110,99,101,111,102]),x5,some (.bool true),x7,x8]) (Eq.refl (some (Cu ts (i+2))))) (by kernel_rfl)) hs Q q
theorem ZfO {d:Nat} {a:Addr} {ts:List MV} {m i j1 j:Nat} {v c w:MV} {k2 s2:List Nat} (h:ts[i]? =some (tk [119,111,114,100] [105,110,115,116,97,110,99,101,111,102])) (h2:ts[i+1]? =some (tk k2 s2)) (hn:(k2==[119,111,114,100])=false) (hm:max m 1≤18)
  (hc:O74 (d+1) a ts (i+1) c j1) (k:EL (d+1) a ts m (.tup [.str [105,110,115,116,97,110,99,101,111,102],v,c]) j1 w j):EL (d+1) a ts m v i w j:=by
 refine Z2M h (by rw [show lv [119,111,114,100] [105,110,115,116,97,110,99,101,111,102]=18 by decide+kernel];exact hm) (fun x3 x4 x5 x6 x7 x8=>⟨some (.int (18:Nat)),some (.str [105,110,115,116,97,110,99,101,111,102]),x5,some (.bool ((k2==[119,111,114,100]) !=false)),x7,x8,fun σ hs Q q=>?_⟩) k
 have h65:Pct (Z3 FT (d+1)) 65 [tk [119,111,114,100] [105,110,115,116,97,110,99,101,111,102]] (.int (18:Nat)):=c65 [119,111,114,100] [105,110,115,116,97,110,99,101,111,102] d
 have e1:MV.bool ((k2==[119,111,114,100]) !=false)=.bool false:=by rw [hn];rfl
 exact Z0R (t:=[.c (tk [119,111,114,100] [105,110,115,116,97,110,99,101,111,102]) (Cu ts i),.v (.int (18:Nat)),.c (tk [119,111,114,100] [105,110,115,116,97,110,99,101,111,102]) (Cu ts (i+1)),.c (tk k2 s2) (Cu ts (i+1)),.t false,.c c (Cu ts j1)])
  (ZD (ai9 (c62 a h d) h65 (c64 a h d) (c62 a h2 d) e1 hc (Eq.refl Out.next) (Eq.refl [some (.lst a),some (.int (m:Nat)),some (.tup [.str [105,110,115,116,97,110,99,101,111,102],v,c]),some (.int (18:Nat)),some (.str [105,110,115,116,97,110,99,101,111,102]),x5,some (.bool ((k2==[119,111,114,100]) !=false)),x7,x8]) (Eq.refl (some (Cu ts j1)))) (by kernel_rfl)) hs Q q
noncomputable def w74:CS:=match b74 with|[_,_,w]=>w|_=>.bad
noncomputable def l74:List CS:=match w74 with| .while _ b=>b|_=>[]
noncomputable def OL (d:Nat) (a:Addr) (ts:List MV) (v:MV) (i:Nat) (w:MV) (j:Nat):Prop:=∀(x1 x3 x4 x5 x6 x7:Option MV) (σ:Z4) (Q:Zn),σ a=some (Cu ts i)→(∀ρ,Q (.ret w) ρ (upd σ a (Cu ts j)))→
 wpS (Z3 FT d) (.while (.cst (.bool true)) l74) [some (.lst a),x1,some v,x3,x4,x5,x6,x7] σ Q
theorem Z0g {d:Nat} {a:Addr} {ts:List MV} {v u w:MV} {i i' j:Nat}
  (hB:∀x1 x3 x4 x5 x6 x7,∃y3 y4 y5 y6 y7,∀σ,σ a=some (Cu ts i)→∀Q:Zn,Q .next [some (.lst a),x1,some u,y3,y4,y5,y6,y7] (upd σ a (Cu ts i'))→wpSs (Z3 FT d) l74 [some (.lst a),x1,some v,x3,x4,x5,x6,x7] σ Q)
  (k:OL d a ts u i' w j):OL d a ts v i w j:=by
 intro x1 x3 x4 x5 x6 x7 σ Q hs q
 obtain ⟨y3,y4,y5,y6,y7,hB⟩:=hB x1 x3 x4 x5 x6 x7
 refine Z5s (Zs FT d) (σ1:=σ) (fun Q q=>by unfold wpE;exact q) (hB σ hs) (k x1 y3 y4 y5 y6 y7 _ Q (Z9 σ a _) fun ρ=>?_)
 rw [Z0A];exact q ρ
theorem Zcc {d:Nat} {a:Addr} {ts:List MV} {v w:MV} {i j:Nat}
  (hB:∀x1 x3 x4 x5 x6 x7,∃ρ',∀σ,σ a=some (Cu ts i)→∀Q:Zn,Q (.ret w) ρ' (upd σ a (Cu ts j))→wpSs (Z3 FT d) l74 [some (.lst a),x1,some v,x3,x4,x5,x6,x7] σ Q):OL d a ts v i w j:=by
 intro x1 x3 x4 x5 x6 x7 σ Q hs q
 obtain ⟨ρ',hB⟩:=hB x1 x3 x4 x5 x6 x7
 exact Zcj (σ1:=σ) (fun Q q=>by unfold wpE;exact q) (hB σ hs) (q ρ')
end Mine
namespace Mine
noncomputable def Z5M:List (List Nat):=[[91],[45,62],[63,45,62],[40],[43,43],[45,45]]
noncomputable def isPost (k s:List Nat):Bool:=k==[111,112]&&Z5M.contains s
noncomputable abbrev A71 (d:Nat) (a:Addr) (ts:List MV) (i:Nat) (as:List MV) (j:Nat):Prop:=Ct (Z3 FT d) a 71 [.lst a] (Cu ts i) (.tup as) (Cu ts j)
noncomputable abbrev tkB (ts:List MV) (i:Nat) (s:List Nat):Prop:=ts[i]? =some (tk [111,112] s)
theorem Zjk {k s s':List Nat} (h:(k==[111,112]&&s==s')=false):(k==[111,112]&&s==s')=false:=h
theorem Z20 {k s:List Nat} (h:isPost k s=false) {x:List Nat} (hx:x∈Z5M):(k==[111,112]&&s==x)=false:=by
 unfold isPost at h
 cases hk:(k==[111,112]) with
 |false=>rfl
 |true=>
  rw [hk] at h
  cases hs:(s==x) with
  |false=>rfl
  |true=>
   rw [eq_of_beq hs] at h
   rw [List.contains_iff_mem.2 hx] at h;cases h
theorem ZhB {k s x y:List Nat} (h1:(k==[111,112]&&s==x)=false) (h2:(k==[111,112]&&s==y)=false):MV.bool ([tk [111,112] x,tk [111,112] y].any (MV.eqv (tk k s)))=.bool false:=by
 show MV.bool ((k==[111,112]&&s==x)||((k==[111,112]&&s==y)||false))=.bool false
 rw [h1,h2];rfl
section
variable {d:Nat} {a:Addr} {ts:List MV} {v w:MV} {i j:Nat}
theorem Z2o {k s:List Nat} (h:ts[i]? =some (tk k s)) (hp:isPost k s=false):OL (d+2) a ts v i v i:=by
 refine Zcc fun x1 x3 x4 x5 x6 x7=>⟨[some (.lst a),x1,some v,x3,x4,x5,x6,x7],fun σ hs Q q=>?_⟩
 have n1:=c63f a h (Z20 hp (by decide:[91]∈Z5M)) d
 have n2:=ZhB (Z20 hp (by decide:[45,62]∈Z5M)) (Z20 hp (by decide:[63,45,62]∈Z5M))
 have n3:=c63f a h (Z20 hp (by decide:[40]∈Z5M)) d
 have n4:=ZhB (Z20 hp (by decide:[43,43]∈Z5M)) (Z20 hp (by decide:[45,45]∈Z5M))
 exact Zl (s:=sA a) l74 _ ⟨some (Cu ts i),none⟩ [.c (.bool false) (Cu ts i),.c (tk k s) (Cu ts i),.t false,.c (.bool false) (Cu ts i),.c (tk k s) (Cu ts i),.t false]
  (fun o ρ1 κ _=>o=.ret v∧ρ1=[some (.lst a),x1,some v,x3,x4,x5,x6,x7]∧κ.c1=some (Cu ts i)) σ Q
  (ZD (ai9 n1 (c62 a h (d+1)) n2 n3 (c62 a h (d+1)) n4 (Eq.refl (Out.ret v)) (Eq.refl [some (.lst a),x1,some v,x3,x4,x5,x6,x7]) (Eq.refl (some (Cu ts i)))) (by kernel_rfl)) ⟨hs,trivial⟩ fun o ρ1 κ t' e k=>by
   obtain ⟨c1,c2⟩:=κ
   obtain ⟨rfl,rfl,k⟩:=k
   obtain ⟨e1,e2⟩:=e
   cases k
   cases c2 with
   |none=>exact q
   |some _=>cases e2
theorem ZfM {s:List Nat} (h:tkB ts i s) (hs:s∈[[43,43],[45,45]]):OL (d+2) a ts v i (.tup [.str [105,110,99,100,101,99],.str s,.bool false,v]) (i+1):=by
 have key:∀s∈[[43,43],[45,45]],(([111,112]==[111,112]&&s==[91])=false)∧(([111,112]==[111,112]&&s==[45,62])=false)∧(([111,112]==[111,112]&&s==[63,45,62])=false)∧(([111,112]==[111,112]&&s==[40])=false)∧([tk [111,112] [43,43],tk [111,112] [45,45]].any (MV.eqv (tk [111,112] s)))=true:=by
  decide+kernel
 obtain ⟨g1,g2,g3,g4,g5⟩:=key s hs
 refine Zcc fun x1 x3 x4 x5 x6 x7=>⟨[some (.lst a),x1,some v,x3,x4,x5,x6,x7],fun σ hs Q q=>?_⟩
 exact Zl (s:=sA a) l74 _ ⟨some (Cu ts i),none⟩ [.c (.bool false) (Cu ts i),.c (tk [111,112] s) (Cu ts i),.t false,.c (.bool false) (Cu ts i),.c (tk [111,112] s) (Cu ts i),.t true,.c (tk [111,112] s) (Cu ts (i+1))]
  (fun o ρ1 κ _=>o=.ret (.tup [.str [105,110,99,100,101,99],.str s,.bool false,v])∧ρ1=[some (.lst a),x1,some v,x3,x4,x5,x6,x7]∧κ.c1=some (Cu ts (i+1))) σ Q
  (ZD (Z8s (c63f a h g1 d) (c62 a h (d+1)) (ZhB g2 g3) (c63f a h g4 d) (c62 a h (d+1)) (congrArg MV.bool g5) (c64 a h (d+1)) (Eq.refl (Out.ret (.tup [.str [105,110,99,100,101,99],.str s,.bool false,v]))) (Eq.refl [some (.lst a),x1,some v,x3,x4,x5,x6,x7]) (Eq.refl (some (Cu ts (i+1))))) (by kernel_rfl)) ⟨hs,trivial⟩ fun o ρ1 κ t' e k=>by
   obtain ⟨c1,c2⟩:=κ
   obtain ⟨rfl,rfl,k⟩:=k
   obtain ⟨e1,e2⟩:=e
   cases k
   cases c2 with
   |none=>exact q
   |some _=>cases e2
theorem ZfN {x:List MV} {j0:Nat} {k s:List Nat} (h:tkB ts i [91]) (h2:ts[i+1]? =some (tk k s)) (hn:(k==[111,112]&&s==[93])=false) (hx:E66 (d+2) a ts 1 (i+1) (.tup x) j0)
  (kk:OL (d+2) a ts (.tup [.str [100,105,109],v,.tup x]) (j0+1) w j):OL (d+2) a ts v i w j:=
 Z0g (fun x1 x3 x4 x5 x6 x7=>⟨some (.tup x),x4,x5,x6,x7,fun σ hs Q q=>
  Z0R (t:=[.c (.bool true) (Cu ts (i+1)),.c (.bool false) (Cu ts (i+1)),.c (.tup x) (Cu ts j0)])
   (ZD (ai8 (c63t a h d) (c63f a h2 hn d) hx (Eq.refl a) (Eq.refl a) (Eq.refl Out.next) (Eq.refl [some (.lst a),x1,some (.tup [.str [100,105,109],v,.tup x]),some (.tup x),x4,x5,x6,x7]) (Eq.refl (some (Cu ts (j0+1))))) (by kernel_rfl)) hs Q q⟩) kk
theorem ZdD (h:tkB ts i [91]) (h2:tkB ts (i+1) [93]) (kk:OL (d+2) a ts (.tup [.str [100,105,109],v,.none]) (i+2) w j):OL (d+2) a ts v i w j:=
 Z0g (fun x1 x3 x4 x5 x6 x7=>⟨some .none,x4,x5,x6,x7,fun σ hs Q q=>
  Z0R (t:=[.c (.bool true) (Cu ts (i+1)),.c (.bool true) (Cu ts (i+2))])
   (ZD (ai7 (c63t a h d) (c63t a h2 d) (Eq.refl a) (Eq.refl a) (Eq.refl Out.next) (Eq.refl [some (.lst a),x1,some (.tup [.str [100,105,109],v,.none]),some .none,x4,x5,x6,x7]) (Eq.refl (some (Cu ts (i+2))))) (by kernel_rfl)) hs Q q⟩) kk
theorem ZdE {as:List MV} {j0:Nat} (h:tkB ts i [40]) (ha:A71 (d+2) a ts (i+1) as j0) (kk:OL (d+2) a ts (.tup [.str [99,97,108,108],v,.tup as]) j0 w j):OL (d+2) a ts v i w j:=
 Z0g (fun x1 x3 x4 x5 x6 x7=>⟨x3,x4,x5,x6,x7,fun σ hs Q q=>
  Z0R (t:=[.c (.bool false) (Cu ts i),.c (tk [111,112] [40]) (Cu ts i),.c (.bool true) (Cu ts (i+1)),.c (.tup as) (Cu ts j0)])
   (ZD (ai7 (c63f (s:=[91]) a h (by decide) d) (c62 a h (d+1)) (c63t a h d) ha (Eq.refl Out.next) (Eq.refl [some (.lst a),x1,some (.tup [.str [99,97,108,108],v,.tup as]),x3,x4,x5,x6,x7]) (Eq.refl (some (Cu ts j0)))) (by kernel_rfl)) hs Q q⟩) kk
end
end Mine
namespace Mine
section
variable {d:Nat} {a:Addr} {ts:List MV} {v w:MV} {i j:Nat}
theorem Z5n {ns:Bool} (h:tkB ts i (Z1j ns)) {n:List Nat} (h2:ts[i+1]? =some (tk [119,111,114,100] n)) {k s:List Nat} (h3:ts[i+2]? =some (tk k s)) (hn:(k==[111,112]&&s==[40])=false) (kk:OL (d+2) a ts (.tup [.str [112,114,111,112],v,(.tup [.str [108,105,116],.str n]),.bool ns]) (i+2) w j):OL (d+2) a ts v i w j:=by
 cases ns with
 |true=>
  exact Z0g (fun x1 x3 x4 x5 x6 x7=>⟨x3,some (.bool true),some (.str [119,111,114,100]),some (.str n),some (.tup [.str [108,105,116],.str n]),fun σ hs Q q=>
   Z0R (t:=[.c (.bool false) (Cu ts i),.c (tk [111,112] [63,45,62]) (Cu ts i),.c (tk [111,112] [63,45,62]) (Cu ts (i+1)),.c (tk [119,111,114,100] n) (Cu ts (i+2)),.c (.bool false) (Cu ts (i+2))])
    (ZD (And.intro (c63f (s:=[91]) a h (by decide) d)<|And.intro (c62 a h (d+1))<|And.intro (c64 a h (d+1))<|And.intro (c64 a h2 (d+1))<|And.intro (c63f a h3 hn d)<|And.intro (Eq.refl Out.next)<|And.intro (Eq.refl [some (.lst a),x1,some (.tup [.str [112,114,111,112],v,(.tup [.str [108,105,116],.str n]),.bool true]),x3,some (.bool true),some (.str [119,111,114,100]),some (.str n),some (.tup [.str [108,105,116],.str n])])<|(Eq.refl (some (Cu ts (i+2))))) (by kernel_rfl)) hs Q q⟩) kk
 |false=>
  exact Z0g (fun x1 x3 x4 x5 x6 x7=>⟨x3,some (.bool false),some (.str [119,111,114,100]),some (.str n),some (.tup [.str [108,105,116],.str n]),fun σ hs Q q=>
   Z0R (t:=[.c (.bool false) (Cu ts i),.c (tk [111,112] [45,62]) (Cu ts i),.c (tk [111,112] [45,62]) (Cu ts (i+1)),.c (tk [119,111,114,100] n) (Cu ts (i+2)),.c (.bool false) (Cu ts (i+2))])
    (ZD (And.intro (c63f (s:=[91]) a h (by decide) d)<|And.intro (c62 a h (d+1))<|And.intro (c64 a h (d+1))<|And.intro (c64 a h2 (d+1))<|And.intro (c63f a h3 hn d)<|And.intro (Eq.refl Out.next)<|And.intro (Eq.refl [some (.lst a),x1,some (.tup [.str [112,114,111,112],v,(.tup [.str [108,105,116],.str n]),.bool false]),x3,some (.bool false),some (.str [119,111,114,100]),some (.str n),some (.tup [.str [108,105,116],.str n])])<|(Eq.refl (some (Cu ts (i+2))))) (by kernel_rfl)) hs Q q⟩) kk
theorem Z4l {ns:Bool} (h:tkB ts i (Z1j ns)) {n:List Nat} (h2:ts[i+1]? =some (tk [119,111,114,100] n)) {as:List MV} {j2:Nat} (h3:tkB ts (i+2) [40]) (ha:A71 (d+2) a ts (i+2+1) as j2) (kk:OL (d+2) a ts (.tup [.str [109,99,97,108,108],v,(.tup [.str [108,105,116],.str n]),.tup as,.bool ns]) (j2) w j):OL (d+2) a ts v i w j:=by
 cases ns with
 |true=>
  exact Z0g (fun x1 x3 x4 x5 x6 x7=>⟨x3,some (.bool true),some (.str [119,111,114,100]),some (.str n),some (.tup [.str [108,105,116],.str n]),fun σ hs Q q=>
   Z0R (t:=[.c (.bool false) (Cu ts i),.c (tk [111,112] [63,45,62]) (Cu ts i),.c (tk [111,112] [63,45,62]) (Cu ts (i+1)),.c (tk [119,111,114,100] n) (Cu ts (i+2)),.c (.bool true) (Cu ts (i+2+1)),.c (.tup as) (Cu ts j2)])
    (ZD (And.intro (c63f (s:=[91]) a h (by decide) d)<|And.intro (c62 a h (d+1))<|And.intro (c64 a h (d+1))<|And.intro (c64 a h2 (d+1))<|And.intro (c63t a h3 d)<|And.intro (ha)<|And.intro (Eq.refl Out.next)<|And.intro (Eq.refl [some (.lst a),x1,some (.tup [.str [109,99,97,108,108],v,(.tup [.str [108,105,116],.str n]),.tup as,.bool true]),x3,some (.bool true),some (.str [119,111,114,100]),some (.str n),some (.tup [.str [108,105,116],.str n])])<|(Eq.refl (some (Cu ts (j2))))) (by kernel_rfl)) hs Q q⟩) kk
 |false=>
  exact Z0g (fun x1 x3 x4 x5 x6 x7=>⟨x3,some (.bool false),some (.str [119,111,114,100]),some (.str n),some (.tup [.str [108,105,116],.str n]),fun σ hs Q q=>
   Z0R (t:=[.c (.bool false) (Cu ts i),.c (tk [111,112] [45,62]) (Cu ts i),.c (tk [111,112] [45,62]) (Cu ts (i+1)),.c (tk [119,111,114,100] n) (Cu ts (i+2)),.c (.bool true) (Cu ts (i+2+1)),.c (.tup as) (Cu ts j2)])
    (ZD (And.intro (c63f (s:=[91]) a h (by decide) d)<|And.intro (c62 a h (d+1))<|And.intro (c64 a h (d+1))<|And.intro (c64 a h2 (d+1))<|And.intro (c63t a h3 d)<|And.intro (ha)<|And.intro (Eq.refl Out.next)<|And.intro (Eq.refl [some (.lst a),x1,some (.tup [.str [109,99,97,108,108],v,(.tup [.str [108,105,116],.str n]),.tup as,.bool false]),x3,some (.bool false),some (.str [119,111,114,100]),some (.str n),some (.tup [.str [108,105,116],.str n])])<|(Eq.refl (some (Cu ts (j2))))) (by kernel_rfl)) hs Q q⟩) kk
theorem Z78 {ns:Bool} (h:tkB ts i (Z1j ns)) {n:List Nat} (h2:ts[i+1]? =some (tk [118,97,114] n)) {k s:List Nat} (h3:ts[i+2]? =some (tk k s)) (hn:(k==[111,112]&&s==[40])=false) (kk:OL (d+2) a ts (.tup [.str [112,114,111,112],v,(.tup [.str [118,97,114],.str n]),.bool ns]) (i+2) w j):OL (d+2) a ts v i w j:=by
 cases ns with
 |true=>
  exact Z0g (fun x1 x3 x4 x5 x6 x7=>⟨x3,some (.bool true),some (.str [118,97,114]),some (.str n),some (.tup [.str [118,97,114],.str n]),fun σ hs Q q=>
   Z0R (t:=[.c (.bool false) (Cu ts i),.c (tk [111,112] [63,45,62]) (Cu ts i),.c (tk [111,112] [63,45,62]) (Cu ts (i+1)),.c (tk [118,97,114] n) (Cu ts (i+2)),.c (.bool false) (Cu ts (i+2))])
    (ZD (And.intro (c63f (s:=[91]) a h (by decide) d)<|And.intro (c62 a h (d+1))<|And.intro (c64 a h (d+1))<|And.intro (c64 a h2 (d+1))<|And.intro (c63f a h3 hn d)<|And.intro (Eq.refl Out.next)<|And.intro (Eq.refl [some (.lst a),x1,some (.tup [.str [112,114,111,112],v,(.tup [.str [118,97,114],.str n]),.bool true]),x3,some (.bool true),some (.str [118,97,114]),some (.str n),some (.tup [.str [118,97,114],.str n])])<|(Eq.refl (some (Cu ts (i+2))))) (by kernel_rfl)) hs Q q⟩) kk
 |false=>
  exact Z0g (fun x1 x3 x4 x5 x6 x7=>⟨x3,some (.bool false),some (.str [118,97,114]),some (.str n),some (.tup [.str [118,97,114],.str n]),fun σ hs Q q=>
   Z0R (t:=[.c (.bool false) (Cu ts i),.c (tk [111,112] [45,62]) (Cu ts i),.c (tk [111,112] [45,62]) (Cu ts (i+1)),.c (tk [118,97,114] n) (Cu ts (i+2)),.c (.bool false) (Cu ts (i+2))])
    (ZD (And.intro (c63f (s:=[91]) a h (by decide) d)<|And.intro (c62 a h (d+1))<|And.intro (c64 a h (d+1))<|And.intro (c64 a h2 (d+1))<|And.intro (c63f a h3 hn d)<|And.intro (Eq.refl Out.next)<|And.intro (Eq.refl [some (.lst a),x1,some (.tup [.str [112,114,111,112],v,(.tup [.str [118,97,114],.str n]),.bool false]),x3,some (.bool false),some (.str [118,97,114]),some (.str n),some (.tup [.str [118,97,114],.str n])])<|(Eq.refl (some (Cu ts (i+2))))) (by kernel_rfl)) hs Q q⟩) kk
theorem Z6i {ns:Bool} (h:tkB ts i (Z1j ns)) {n:List Nat} (h2:ts[i+1]? =some (tk [118,97,114] n)) {as:List MV} {j2:Nat} (h3:tkB ts (i+2) [40]) (ha:A71 (d+2) a ts (i+2+1) as j2) (kk:OL (d+2) a ts (.tup [.str [109,99,97,108,108],v,(.tup [.str [118,97,114],.str n]),.tup as,.bool ns]) (j2) w j):OL (d+2) a ts v i w j:=by
 cases ns with
 |true=>
  exact Z0g (fun x1 x3 x4 x5 x6 x7=>⟨x3,some (.bool true),some (.str [118,97,114]),some (.str n),some (.tup [.str [118,97,114],.str n]),fun σ hs Q q=>
   Z0R (t:=[.c (.bool false) (Cu ts i),.c (tk [111,112] [63,45,62]) (Cu ts i),.c (tk [111,112] [63,45,62]) (Cu ts (i+1)),.c (tk [118,97,114] n) (Cu ts (i+2)),.c (.bool true) (Cu ts (i+2+1)),.c (.tup as) (Cu ts j2)])
    (ZD (And.intro (c63f (s:=[91]) a h (by decide) d)<|And.intro (c62 a h (d+1))<|And.intro (c64 a h (d+1))<|And.intro (c64 a h2 (d+1))<|And.intro (c63t a h3 d)<|And.intro (ha)<|And.intro (Eq.refl Out.next)<|And.intro (Eq.refl [some (.lst a),x1,some (.tup [.str [109,99,97,108,108],v,(.tup [.str [118,97,114],.str n]),.tup as,.bool true]),x3,some (.bool true),some (.str [118,97,114]),some (.str n),some (.tup [.str [118,97,114],.str n])])<|(Eq.refl (some (Cu ts (j2))))) (by kernel_rfl)) hs Q q⟩) kk
 |false=>
  exact Z0g (fun x1 x3 x4 x5 x6 x7=>⟨x3,some (.bool false),some (.str [118,97,114]),some (.str n),some (.tup [.str [118,97,114],.str n]),fun σ hs Q q=>
   Z0R (t:=[.c (.bool false) (Cu ts i),.c (tk [111,112] [45,62]) (Cu ts i),.c (tk [111,112] [45,62]) (Cu ts (i+1)),.c (tk [118,97,114] n) (Cu ts (i+2)),.c (.bool true) (Cu ts (i+2+1)),.c (.tup as) (Cu ts j2)])
    (ZD (And.intro (c63f (s:=[91]) a h (by decide) d)<|And.intro (c62 a h (d+1))<|And.intro (c64 a h (d+1))<|And.intro (c64 a h2 (d+1))<|And.intro (c63t a h3 d)<|And.intro (ha)<|And.intro (Eq.refl Out.next)<|And.intro (Eq.refl [some (.lst a),x1,some (.tup [.str [109,99,97,108,108],v,(.tup [.str [118,97,114],.str n]),.tup as,.bool false]),x3,some (.bool false),some (.str [118,97,114]),some (.str n),some (.tup [.str [118,97,114],.str n])])<|(Eq.refl (some (Cu ts (j2))))) (by kernel_rfl)) hs Q q⟩) kk
theorem Z5o {ns:Bool} (h:tkB ts i (Z1j ns)) {x:MV} {j0:Nat} (h2:tkB ts (i+1) [123]) (hx:E66 (d+2) a ts 1 (i+2) x j0) {k s:List Nat} (h3:ts[j0+1]? =some (tk k s)) (hn:(k==[111,112]&&s==[40])=false) (kk:OL (d+2) a ts (.tup [.str [112,114,111,112],v,x,.bool ns]) (j0+1) w j):OL (d+2) a ts v i w j:=by
 cases ns with
 |true=>
  exact Z0g (fun x1 x3 x4 x5 x6 x7=>⟨x3,some (.bool true),some (.str [111,112]),some (.str [123]),some x,fun σ hs Q q=>
   Z0R (t:=[.c (.bool false) (Cu ts i),.c (tk [111,112] [63,45,62]) (Cu ts i),.c (tk [111,112] [63,45,62]) (Cu ts (i+1)),.c (tk [111,112] [123]) (Cu ts (i+2)),.c x (Cu ts j0),.c (.bool false) (Cu ts (j0+1))])
    (ZD (And.intro (c63f (s:=[91]) a h (by decide) d)<|And.intro (c62 a h (d+1))<|And.intro (c64 a h (d+1))<|And.intro (c64 a h2 (d+1))<|And.intro (hx)<|And.intro (Eq.refl a)<|And.intro (Eq.refl a)<|And.intro (c63f a h3 hn d)<|And.intro (Eq.refl Out.next)<|And.intro (Eq.refl [some (.lst a),x1,some (.tup [.str [112,114,111,112],v,x,.bool true]),x3,some (.bool true),some (.str [111,112]),some (.str [123]),some x])<|(Eq.refl (some (Cu ts (j0+1))))) (by kernel_rfl)) hs Q q⟩) kk
 |false=>
  exact Z0g (fun x1 x3 x4 x5 x6 x7=>⟨x3,some (.bool false),some (.str [111,112]),some (.str [123]),some x,fun σ hs Q q=>
   Z0R (t:=[.c (.bool false) (Cu ts i),.c (tk [111,112] [45,62]) (Cu ts i),.c (tk [111,112] [45,62]) (Cu ts (i+1)),.c (tk [111,112] [123]) (Cu ts (i+2)),.c x (Cu ts j0),.c (.bool false) (Cu ts (j0+1))])
    (ZD (And.intro (c63f (s:=[91]) a h (by decide) d)<|And.intro (c62 a h (d+1))<|And.intro (c64 a h (d+1))<|And.intro (c64 a h2 (d+1))<|And.intro (hx)<|And.intro (Eq.refl a)<|And.intro (Eq.refl a)<|And.intro (c63f a h3 hn d)<|And.intro (Eq.refl Out.next)<|And.intro (Eq.refl [some (.lst a),x1,some (.tup [.str [112,114,111,112],v,x,.bool false]),x3,some (.bool false),some (.str [111,112]),some (.str [123]),some x])<|(Eq.refl (some (Cu ts (j0+1))))) (by kernel_rfl)) hs Q q⟩) kk
theorem Z4m {ns:Bool} (h:tkB ts i (Z1j ns)) {x:MV} {j0:Nat} (h2:tkB ts (i+1) [123]) (hx:E66 (d+2) a ts 1 (i+2) x j0) {as:List MV} {j2:Nat} (h3:tkB ts (j0+1) [40]) (ha:A71 (d+2) a ts (j0+1+1) as j2) (kk:OL (d+2) a ts (.tup [.str [109,99,97,108,108],v,x,.tup as,.bool ns]) (j2) w j):OL (d+2) a ts v i w j:=by
 cases ns with
 |true=>
  exact Z0g (fun x1 x3 x4 x5 x6 x7=>⟨x3,some (.bool true),some (.str [111,112]),some (.str [123]),some x,fun σ hs Q q=>
   Z0R (t:=[.c (.bool false) (Cu ts i),.c (tk [111,112] [63,45,62]) (Cu ts i),.c (tk [111,112] [63,45,62]) (Cu ts (i+1)),.c (tk [111,112] [123]) (Cu ts (i+2)),.c x (Cu ts j0),.c (.bool true) (Cu ts (j0+1+1)),.c (.tup as) (Cu ts j2)])
    (ZD (And.intro (c63f (s:=[91]) a h (by decide) d)<|And.intro (c62 a h (d+1))<|And.intro (c64 a h (d+1))<|And.intro (c64 a h2 (d+1))<|And.intro (hx)<|And.intro (Eq.refl a)<|And.intro (Eq.refl a)<|And.intro (c63t a h3 d)<|And.intro (ha)<|And.intro (Eq.refl Out.next)<|And.intro (Eq.refl [some (.lst a),x1,some (.tup [.str [109,99,97,108,108],v,x,.tup as,.bool true]),x3,some (.bool true),some (.str [111,112]),some (.str [123]),some x])<|(Eq.refl (some (Cu ts (j2))))) (by kernel_rfl)) hs Q q⟩) kk
 |false=>
  exact Z0g (fun x1 x3 x4 x5 x6 x7=>⟨x3,some (.bool false),some (.str [111,112]),some (.str [123]),some x,fun σ hs Q q=>
   Z0R (t:=[.c (.bool false) (Cu ts i),.c (tk [111,112] [45,62]) (Cu ts i),.c (tk [111,112] [45,62]) (Cu ts (i+1)),.c (tk [111,112] [123]) (Cu ts (i+2)),.c x (Cu ts j0),.c (.bool true) (Cu ts (j0+1+1)),.c (.tup as) (Cu ts j2)])
    (ZD (And.intro (c63f (s:=[91]) a h (by decide) d)<|And.intro (c62 a h (d+1))<|And.intro (c64 a h (d+1))<|And.intro (c64 a h2 (d+1))<|And.intro (hx)<|And.intro (Eq.refl a)<|And.intro (Eq.refl a)<|And.intro (c63t a h3 d)<|And.intro (ha)<|And.intro (Eq.refl Out.next)<|And.intro (Eq.refl [some (.lst a),x1,some (.tup [.str [109,99,97,108,108],v,x,.tup as,.bool false]),x3,some (.bool false),some (.str [111,112]),some (.str [123]),some x])<|(Eq.refl (some (Cu ts (j2))))) (by kernel_rfl)) hs Q q⟩) kk
end
end Mine
namespace Mine
noncomputable abbrev Q73 (d:Nat) (a:Addr) (ts:List MV) (i:Nat) (w:MV) (j:Nat):Prop:=Ct (Z3 FT d) a 73 [.lst a] (Cu ts i) w (Cu ts j)
section
variable {d:Nat} {a:Addr} {ts:List MV} {v w:MV} {i j:Nat}
theorem ZgF {n:List Nat} (h:ts[i]? =some (tk [118,97,114] n)):Q73 (d+2) a ts i (tn [118,97,114] [.str n]) (i+1):=Z6d Z6U [.c (tk [118,97,114] n) (Cu ts (i+1))] (c64 a h d) (by kernel_rfl)
theorem Zei {s:List Nat} (h:ts[i]? =some (tk [116,101,120,116] s)):Q73 (d+2) a ts i (tn [108,105,116] [.str s]) (i+1):=Z6d Z6U [.c (tk [116,101,120,116] s) (Cu ts (i+1))] (c64 a h d) (by kernel_rfl)
theorem ZgG {v:MV} {p:Pc} {t:MV} (hp:(v,p)∈litTab) (ht:p.tk1=some t) (h:ts[i]? =some t):Q73 (d+2) a ts i (tn [108,105,116] [v]) (i+1):=by
 refine Z54 (P:=fun x=>ts[i]? =x.2.tk1→Q73 (d+2) a ts i (tn [108,105,116] [x.1]) (i+1)) (fun x hx=>?_) (fun x hx=>?_) (fun s _ h=>Zei h) hp (h.trans ht.symm)
 ·refine Zak (P:=fun x:MV×Pc=>ts[i]? =x.2.tk1→Q73 (d+2) a ts i (tn [108,105,116] [x.1]) (i+1)) hx ?_ ?_ ?_<;>intro h
  ·exact Z6d Z6U [.c (tk [105,110,116] [48]) (Cu ts (i+1))] (c64 a h d) (by kernel_rfl)
  ·exact Z6d Z6U [.c (tk [105,110,116] [49]) (Cu ts (i+1))] (c64 a h d) (by kernel_rfl)
  ·exact Z6d Z6U [.c (tk [105,110,116] [57,50,50,51,51,55,50,48,51,54,56,53,52,55,55,53,56,48,55]) (Cu ts (i+1))] (c64 a h d) (by kernel_rfl)
 ·refine Zak (P:=fun x:MV×Pc=>ts[i]? =x.2.tk1→Q73 (d+2) a ts i (tn [108,105,116] [x.1]) (i+1)) hx ?_ ?_ ?_<;>intro h
  ·exact Z6d Z6U [.c (tk [119,111,114,100] [110,117,108,108]) (Cu ts (i+1))] (c64 a h d) (by kernel_rfl)
  ·exact Z6d Z6U [.c (tk [119,111,114,100] [116,114,117,101]) (Cu ts (i+1))] (c64 a h d) (by kernel_rfl)
  ·exact Z6d Z6U [.c (tk [119,111,114,100] [102,97,108,115,101]) (Cu ts (i+1))] (c64 a h d) (by kernel_rfl)
theorem Z96 {x:MV} {j0:Nat} (h:tkB ts i [40]) (hx:E66 (d+1) a ts 1 (i+1) x j0):Q73 (d+2) a ts i x (j0+1):=
 Z27 Z6U [.c (tk [111,112] [40]) (Cu ts (i+1)),.c x (Cu ts j0)] (c64 a h d) hx (Eq.refl a) (Eq.refl a) (by kernel_rfl)
theorem Zel {x:MV} {j0:Nat} (h:tkB ts i [91]) (hx:Ct (Z3 FT (d+1)) a 70 [.lst a] (Cu ts (i+1)) x (Cu ts j0)):Q73 (d+2) a ts i x j0:=
 Zdu Z6U [.c (tk [111,112] [91]) (Cu ts (i+1)),.c x (Cu ts j0)] (c64 a h d) hx (by kernel_rfl)
theorem ZcG {x:MV} {j0:Nat} (h:ts[i]? =some (tk [119,111,114,100] [109,97,116,99,104])) (hx:Ct (Z3 FT (d+1)) a 72 [.lst a] (Cu ts (i+1)) x (Cu ts j0)):Q73 (d+2) a ts i x j0:=
 Zdu Z6U [.c (tk [119,111,114,100] [109,97,116,99,104]) (Cu ts (i+1)),.c x (Cu ts j0)] (c64 a h d) hx (by kernel_rfl)
theorem ZcH {as:List MV} {j0:Nat} (h:ts[i]? =some (tk [119,111,114,100] [102])) (h2:tkB ts (i+1) [40]) (hx:A71 (d+2) a ts (i+2) as j0):Q73 (d+3) a ts i (tn [99,97,108,108] [tn [110,97,109,101] [.str [102]],.tup as]) j0:=
 Z74 Z6U [.c (tk [119,111,114,100] [102]) (Cu ts (i+1)),.c (.bool true) (Cu ts (i+2)),.c (.tup as) (Cu ts j0)] (c64 a h (d+1)) (c63t a h2 d) hx (by kernel_rfl)
noncomputable def Z7L:List (List Nat):=cst1++cst2
theorem ZgH {n:List Nat} {k s:List Nat} (hn:n∈Z7L) (h:ts[i]? =some (tk [119,111,114,100] n)) (h2:ts[i+1]? =some (tk k s)) (hp:(k==[111,112]&&s==[40])=false):Q73 (d+3) a ts i (tn [99,111,110,115,116] [.str n]) (i+1):=by
 refine Zy Z6U (t:=[.c (tk [119,111,114,100] n) (Cu ts (i+1)),.c (.bool false) (Cu ts (i+1))]) ?_
 have:=Z00 (tab:=Z7L) (F:=fun n=>Z6k (Z3 FT (d+2)) a 1 8 [] b73 [.lst a] [.c (tk [119,111,114,100] n) (Cu ts (i+1)),.c (.bool false) (Cu ts (i+1))] (Cu ts i) (tn [99,111,110,115,116] [.str n]) (Cu ts (i+1)))
  (G:=fun n=>Ct (Z3 FT (d+2)) a 64 [.lst a] (Cu ts i) (tk [119,111,114,100] n) (Cu ts (i+1))∧Ct (Z3 FT (d+2)) a 63 [.lst a,.str [40]] (Cu ts (i+1)) (.bool false) (Cu ts (i+1))∧tn [99,111,110,115,116] [.str n]=tn [99,111,110,115,116] [.str n]∧some (Cu ts (i+1))=some (Cu ts (i+1)))
  (by kernel_rfl) hn ⟨c64 a h (d+1),c63f a h2 hp d,rfl,rfl⟩
 exact this
noncomputable abbrev Z62 (as:List MV) (xs:List MV):Prop:=All2 (fun u o=>∃r,u=.tup (o::r)) as xs
theorem Zc1 {as xs:List MV} {j0:Nat} {n:List Nat} (hx:A71 (d+2) a ts (i+2) as j0) (hf:Z62 as xs) (hl:as.length<SL):
  CmC (Z3 FT (d+2)) a (.comp 7 (.pr .getitem [.var 7,.cst (.int 0)]) (.call 71 [.var 0])) [some (.lst a),some (.str [119,111,114,100]),some (.str n),none,none,none,none,none] (Cu ts (i+2)) (.fl xs) (Cu ts j0):=by
 intro σ Q hs q
 unfold wpE
 refine Zi6 (a:=a) (l:=Cu ts (i+2)) (l':=Cu ts j0) (t:=[.c (.tup as) (Cu ts j0)]) (v:=.tup as) (ZD (And.intro hx (And.intro (Eq.refl (MV.tup as)) (Eq.refl (some (Cu ts j0))))) (by kernel_rfl)) hs _ ?_
 show (match iterOf (.tup as) with|some items=>_|Option.none=>False)
 refine ⟨hl,fun b hb=>?_⟩
 have go:∀{as xs},Z62 as xs→∀acc,Q (.fl (acc++xs)) (upd σ a (Cu ts j0))→
   Z2X b (fun u σ'' Q'=>wpE (Z3 FT (d+2)) (.pr .getitem [.var 7,.cst (.int 0)]) (List.set [some (.lst a),some (.str [119,111,114,100]),some (.str n),none,none,none,none,none] 7 (some u)) σ'' Q') as acc (upd (upd σ a (Cu ts j0)) b acc) (fun vs σ''=>Q (.fl vs) (rem σ'' b)):=by
  intro as xs k
  induction k with
  |nil=>
   intro acc q
   rw [List.append_nil] at q
   show Q (.fl acc) (rem (upd (upd σ a (Cu ts j0)) b acc) b)
   have:rem (upd (upd σ a (Cu ts j0)) b acc) b=upd σ a (Cu ts j0):=by
    funext c;unfold rem
    by_cases e:c=b
    ·rw [if_pos e,e,hb]
    ·rw [if_neg e,Zp e]
   rw [this];exact q
  | @cons u o l m hu _ ih=>
   intro acc q
   obtain ⟨r,rfl⟩:=hu
   refine Z0E [] (v:=o) (A:=o=o) rfl (by kernel_rfl) ⟨Z9 _ b acc,?_⟩
   rw [Z0A]
   exact ih (acc++[o]) (by rw [List.append_assoc];exact q)
 exact go hf [] q
theorem Zej {as xs:List MV} {j0:Nat} (h:ts[i]? =some (tk [119,111,114,100] [105,115,115,101,116])) (hx:A71 (d+2) a ts (i+2) as j0) (hf:Z62 as xs) (hl:as.length<SL):Q73 (d+3) a ts i (tn [105,115,115,101,116] [.tup xs]) j0:=
 Z27 Z6U [.c (tk [119,111,114,100] [105,115,115,101,116]) (Cu ts (i+1)),.c (.fl xs) (Cu ts j0)] (c64 a h (d+1)) (Eq.refl a) (Eq.refl a) (Zc1 (n:=[105,115,115,101,116]) hx hf hl) (by kernel_rfl)
theorem Zek {as xs:List MV} {x:MV} {j0:Nat} (h:ts[i]? =some (tk [119,111,114,100] [101,109,112,116,121])) (hx:A71 (d+2) a ts (i+2) as j0) (hf:Z62 as (x::xs)) (hl:as.length<SL):Q73 (d+3) a ts i (tn [101,109,112,116,121] [x]) j0:=
 Z27 Z6U [.c (tk [119,111,114,100] [101,109,112,116,121]) (Cu ts (i+1)),.c (.fl (x::xs)) (Cu ts j0)] (c64 a h (d+1)) (Eq.refl a) (Eq.refl a) (Zc1 (n:=[101,109,112,116,121]) hx hf hl) (by kernel_rfl)
end
end Mine
namespace Mine
theorem Z32 {C:Zv}:∀(p rest:List CS) (ρ:Loc) (σ:Z4) (Q:Zn),wpSs C p ρ σ (fun o ρ' σ'=>match o with| .next=>wpSs C rest ρ' σ' Q| .ret x=>Q (.ret x) ρ' σ')→Z4c C C→wpSs C (p++rest) ρ σ Q
 |[],rest,ρ,σ,Q,h,_=>by unfold wpSs at h;exact h
 |c::p,rest,ρ,σ,Q,h,hC=>by
  show wpSs C (c::(p++rest)) ρ σ Q
  unfold wpSs at h ⊢
  refine Z33 hC c ρ σ (fun o ρ' σ' ho=>?_) h
  cases o with
  |next=>exact Z32 p rest ρ' σ' Q ho hC
  |ret x=>exact ho
theorem Z9Z {C:Zv} (hC:Z4c C C) {a:Addr} {p rest:List CS} {ρ ρ':Loc} {l l':List MV} {t:List TE} (h:Z3h C (sA a) p ρ ⟨some l,none⟩ t (fun o ρ1 κ _=>o=.next∧ρ1=ρ'∧κ.c1=some l')) {σ:Z4} (hs:σ a=some l) {Q:Zn}
  (k:wpSs C rest ρ' (upd σ a l') Q):wpSs C (p++rest) ρ σ Q:=Z32 p rest ρ σ Q (Z0R h hs _ k) hC
theorem Z4t {C:Zv} {a:Addr} {b:List CS} {ρ:Loc} {l l':List MV} {t:List TE} {v:MV} (h:Z3h C (sA a) b ρ ⟨some l,none⟩ t (fun o _ κ _=>o=.ret v∧κ.c1=some l')) {σ:Z4} (hs:σ a=some l) {Q:ZT} (q:Q v (upd σ a l')):
  wpSs C b ρ σ fun o _ σ'=>∃σ'',ZG σ'' σ'∧Q (ZbJ o) σ'':=Zi5 h hs _ fun ρ=>⟨_,Z0Z,q⟩
section
variable {d:Nat} {a:Addr} {ts:List MV} {v w:MV} {i j:Nat}
noncomputable def pm (k s:List Nat):Bool:=k==[111,112]&&[[43,43],[45,45]].contains s
theorem eqvF (x y:List Nat) {β:Bool} (h:(x==y)=β):MV.bool (((MV.str x).eqv (.str y)) !=false)=.bool β:=by
 show MV.bool ((x==y) !=false)=.bool β
 rw [h];cases β<;>rfl
theorem Z7X {k s:List Nat} {j0:Nat} (h:ts[i]? =some (tk k s)) (hp:pm k s=false) (hq:Q73 (d+1) a ts i v j0) (hl:OL (d+1) a ts v j0 w j):O74 (d+2) a ts i w j:=by
 intro σ Q hs q
 refine Z03 ZhS rfl ?_
 show wpSs _ ([_,.assign 2 (.call 73 [.var 0])]++[.while (.cst (.bool true)) l74]) _ _ _
 have e1:=Z2L s [[43,43],[45,45]] (β:=[[43,43],[45,45]].contains s) rfl
 refine Z9Z (Zs FT (d+1)) (a:=a) (l:=Cu ts i) (l':=Cu ts j0) (ρ':=[some (.lst a),none,some v,none,none,none,none,none])
  (t:=if [[43,43],[45,45]].contains s then [.c (tk k s) (Cu ts i),.t true,.c (tk k s) (Cu ts i),.t false,.c v (Cu ts j0)] else [.c (tk k s) (Cu ts i),.t false,.t false,.c v (Cu ts j0)]) ?_ hs ?_
 ·unfold pm at hp
  cases hc:[[43,43],[45,45]].contains s with
  |true=>
   rw [hc,Bool.and_true] at hp
   rw [hc] at e1
   exact ZD (And.intro (c62 a h d)<|And.intro e1<|And.intro (c62 a h d)<|And.intro (eqvF k [111,112] hp)<|And.intro hq<|(fin3' (o:=.next) (ρ:=[some (.lst a),none,some v,none,none,none,none,none]) (l:=Cu ts j0))) (by kernel_rfl)
  |false=>
   rw [hc] at e1
   exact ZD (And.intro (c62 a h d)<|And.intro e1<|And.intro (Eq.refl (MV.bool false))<|And.intro hq<|(fin3' (o:=.next) (ρ:=[some (.lst a),none,some v,none,none,none,none,none]) (l:=Cu ts j0))) (by kernel_rfl)
 ·unfold wpSs
  refine hl none none none none none none _ _ (Z9 σ a _) fun ρ=>?_
  rw [Z0A]
  exact ⟨_,Z0Z,q⟩
theorem ZdF {s:List Nat} (h:tkB ts i s) (hs:s∈[[43,43],[45,45]]) (ho:O74 (d+1) a ts (i+1) v j):O74 (d+2) a ts i (tn [105,110,99,100,101,99] [.str s,.bool true,v]) j:=by
 have e1:=Z2L s [[43,43],[45,45]] (List.contains_iff_mem.2 hs)
 exact Zhu ZhS [.c (tk [111,112] s) (Cu ts i),.t true,.c (tk [111,112] s) (Cu ts i),.t true,.c (tk [111,112] s) (Cu ts (i+1)),.c v (Cu ts j)] (c62 a h d) e1 (c62 a h d) (Eq.refl (MV.bool true)) (c64 a h d) ho (by kernel_rfl)
noncomputable def un5:List (List Nat):=[[43],[45],[126],[33],[64]]
noncomputable def ZfU:List (List Nat):=[[112,114,105,110,116],[116,104,114,111,119],[99,108,111,110,101]]
noncomputable def Z0n (k s:List Nat):Bool:= !(k==[99,97,115,116])&& !(k==[111,112]&&un5.contains s)&& !(k==[119,111,114,100]&&(ZfU.contains s||s==[121,105,101,108,100]))
noncomputable def asS:List (List Nat):=[[61],[43,61],[46,61],[63,63,61],[42,42,61],[60,60,61],[38,61]]
noncomputable def isAs (k s:List Nat):Bool:=k==[111,112]&&asS.contains s
noncomputable def ZfT:MV:=.dict [([112,114,105,110,116],.int 4),([116,104,114,111,119],.int 1),([99,108,111,110,101],.int 20)]
noncomputable def Zid:List CS:=b67.take 6
noncomputable def Zhx:List CS:=b67.drop 6
theorem ZcJ (s:List Nat):(Zz s [([112,114,105,110,116],MV.int 4),([116,104,114,111,119],.int 1),([99,108,111,110,101],.int 20)]).isSome=ZfU.contains s:=Z1v s _
theorem Z9a {k s:List Nat} (h:ts[i]? =some (tk k s)) (ho:Z0n k s=true) {σ:Z4} (hs:σ a=some (Cu ts i)) {Q:Zn}
  (kk:wpSs (Z3 FT (d+1)) Zhx [some (.lst a),some (.str k),some (.str s),none,some ZfT] σ Q):wpSs (Z3 FT (d+1)) b67 [some (.lst a),none,none,none,none] σ Q:=by
 show wpSs _ (Zid++Zhx) _ _ _
 unfold Z0n at ho
 obtain ⟨ho,h3⟩:=Bool.and_eq_true_iff.1 ho
 obtain ⟨h1,h2⟩:=Bool.and_eq_true_iff.1 ho
 have h1:(k==[99,97,115,116])=false:=by revert h1;cases (k==[99,97,115,116])<;>simp
 have h2:(k==[111,112]&&un5.contains s)=false:=by revert h2;cases (k==[111,112]&&un5.contains s)<;>simp
 have h3:(k==[119,111,114,100]&&(ZfU.contains s||s==[121,105,101,108,100]))=false:=by revert h3;cases (k==[119,111,114,100]&&(ZfU.contains s||s==[121,105,101,108,100]))<;>simp
 have r1:=Z2n s un5
 have r2:=ZcJ s
 have fin:=fin3' (o:=.next) (ρ:=[some (.lst a),some (.str k),some (.str s),none,some ZfT]) (l:=Cu ts i)
 have yl:MV.bool ((MV.eqv (tk k s) (tk [119,111,114,100] [121,105,101,108,100])) !=false)=.bool false:=by
  show MV.bool ((k==[119,111,114,100]&&s==[121,105,101,108,100]) !=false)=.bool false
  cases hw:(k==[119,111,114,100]) with
  |false=>rfl
  |true=>rw [hw,Bool.true_and] at h3;rw [(Bool.or_eq_false_iff.1 h3).2];rfl
 have key:Z3h (Z3 FT (d+1)) (sA a) Zid [some (.lst a),none,none,none,none] ⟨some (Cu ts i),none⟩ [.c (tk k s) (Cu ts i),.t false,.t (k==[111,112]),.t false,.t (k==[119,111,114,100]),.t false,.t false] (fun o ρ1 κ _=>o=.next∧ρ1=[some (.lst a),some (.str k),some (.str s),none,some ZfT]∧κ.c1=some (Cu ts i)):=by
  cases hop:(k==[111,112]) with
  |true=>
   rw [hop,Bool.true_and] at h2
   rw [h2] at r1
   have hw:(k==[119,111,114,100])=false:=by rw [eq_of_beq hop];rfl
   rw [hw]
   exact ZD (And.intro (c62 a h d)<|And.intro (eqvF k [99,97,115,116] h1)<|And.intro (eqvF k [111,112] hop)<|And.intro (congrArg MV.bool r1)<|And.intro (eqvF k [119,111,114,100] hw)<|And.intro (Eq.refl (MV.bool false))<|And.intro yl fin) (by kernel_rfl)
  |false=>
   cases hw:(k==[119,111,114,100]) with
   |true=>
    rw [hw,Bool.true_and] at h3
    rw [(Bool.or_eq_false_iff.1 h3).1] at r2
    exact ZD (And.intro (c62 a h d)<|And.intro (eqvF k [99,97,115,116] h1)<|And.intro (eqvF k [111,112] hop)<|And.intro (Eq.refl (MV.bool false))<|And.intro (eqvF k [119,111,114,100] hw)<|And.intro (congrArg MV.bool r2)<|And.intro yl fin) (by kernel_rfl)
   |false=>
    exact ZD (And.intro (c62 a h d)<|And.intro (eqvF k [99,97,115,116] h1)<|And.intro (eqvF k [111,112] hop)<|And.intro (Eq.refl (MV.bool false))<|And.intro (eqvF k [119,111,114,100] hw)<|And.intro (Eq.refl (MV.bool false))<|And.intro yl fin) (by kernel_rfl)
 refine Z9Z (Zs FT (d+1)) key hs ?_
 rw [Z35 hs];exact kk
theorem Zaq {k s k2 s2:List Nat} (h:ts[i]? =some (tk k s)) (ho:Z0n k s=true) (hv:O74 (d+1) a ts i v j) (h2:ts[j]? =some (tk k2 s2)) (hn:isAs k2 s2=false):U67 (d+2) a ts i v j:=by
 intro σ Q hs q
 refine Z03 Z6V rfl (Z9a h ho hs ?_)
 unfold isAs at hn
 have r1:=Z2n s2 asS
 cases hop:(k2==[111,112]) with
 |true=>
  rw [hop,Bool.true_and] at hn
  rw [hn] at r1
  exact Z4t (a:=a) (l:=Cu ts i) (l':=Cu ts j) (t:=[.c v (Cu ts j),.c (tk k2 s2) (Cu ts j),.t true,.t false])
   (ZD (And.intro hv<|And.intro (c62 a h2 d)<|And.intro (eqvF k2 [111,112] hop)<|And.intro (congrArg MV.bool r1)<|And.intro (Eq.refl (Out.ret v)) (Eq.refl (some (Cu ts j)))) (by kernel_rfl)) hs q
 |false=>
  exact Z4t (a:=a) (l:=Cu ts i) (l':=Cu ts j) (t:=[.c v (Cu ts j),.c (tk k2 s2) (Cu ts j),.t false,.t false])
   (ZD (And.intro hv<|And.intro (c62 a h2 d)<|And.intro (eqvF k2 [111,112] hop)<|And.intro (Eq.refl (MV.bool false))<|And.intro (Eq.refl (Out.ret v)) (Eq.refl (some (Cu ts j)))) (by kernel_rfl)) hs q
theorem Zgg {k s k2 s2:List Nat} {t:List Nat} {r:List MV} {x:MV} {j0:Nat} (h:ts[i]? =some (tk k s)) (ho:Z0n k s=true) (hv:O74 (d+2) a ts i (tn t r) j) (ht:(t==[97,114,114,97,121])=false) (h2:tkB ts j [61]) (h3:ts[j+1]? =some (tk k2 s2)) (hn:(k2==[111,112]&&s2==[38])=false)
  (hx:E66 (d+2) a ts 4 (j+1) x j0):U67 (d+3) a ts i (tn [97,115,115,105,103,110] [tn t r,x]) j0:=by
 intro σ Q hs q
 refine Z03 Z6V rfl (Z9a h ho hs ?_)
 exact Z4t (a:=a) (l:=Cu ts i) (l':=Cu ts j0) (t:=[.c (tn t r) (Cu ts j),.c (tk [111,112] [61]) (Cu ts j),.t true,.t true,.t true,.c (.bool false) (Cu ts (j+1)),.t false,.t false,.t false,.c x (Cu ts j0)])
  (ZD (And.intro hv<|And.intro (c62 a h2 (d+1))<|And.intro (Eq.refl (MV.bool true))<|And.intro (Eq.refl (MV.bool true))<|And.intro (Eq.refl a)<|And.intro (Eq.refl a)<|And.intro (Eq.refl (MV.bool true))<|And.intro (c63f a h3 hn d)<|And.intro (Eq.refl (MV.bool false))<|And.intro (Eq.refl (MV.bool false))<|
   And.intro (eqvF t [97,114,114,97,121] ht)<|And.intro hx<|And.intro (Eq.refl (Out.ret (tn [97,115,115,105,103,110] [tn t r,x]))) (Eq.refl (some (Cu ts j0)))) (by kernel_rfl)) hs q
theorem ZdQ {k s k2 s2:List Nat} {is:List MV} {g x:MV} {j0:Nat} (h:ts[i]? =some (tk k s)) (ho:Z0n k s=true) (hv:O74 (d+2) a ts i (tn [97,114,114,97,121] is) j) (hg:Pct (Z3 FT (d+2)) 69 [tn [97,114,114,97,121] is] g) (h2:tkB ts j [61]) (h3:ts[j+1]? =some (tk k2 s2)) (hn:(k2==[111,112]&&s2==[38])=false)
  (hx:E66 (d+2) a ts 4 (j+1) x j0):U67 (d+3) a ts i (tn [97,115,115,105,103,110] [g,x]) j0:=by
 intro σ Q hs q
 refine Z03 Z6V rfl (Z9a h ho hs ?_)
 exact Z4t (a:=a) (l:=Cu ts i) (l':=Cu ts j0) (t:=[.c (tn [97,114,114,97,121] is) (Cu ts j),.c (tk [111,112] [61]) (Cu ts j),.c (.bool false) (Cu ts (j+1)),.v g,.c x (Cu ts j0)])
  (ZD (And.intro hv<|And.intro (c62 a h2 (d+1))<|And.intro (Eq.refl a)<|And.intro (Eq.refl a)<|And.intro (c63f a h3 hn d)<|And.intro hg<|And.intro hx<|And.intro (Eq.refl (Out.ret (tn [97,115,115,105,103,110] [g,x]))) (Eq.refl (some (Cu ts j0)))) (by kernel_rfl)) hs q
theorem ZdR {k s:List Nat} {x:MV} {j0:Nat} (h:ts[i]? =some (tk k s)) (ho:Z0n k s=true) (hv:O74 (d+2) a ts i v j) (h2:tkB ts j [61]) (h3:tkB ts (j+1) [38]) (hx:O74 (d+2) a ts (j+2) x j0):U67 (d+3) a ts i (tn [97,115,115,105,103,110,114,101,102] [v,x]) j0:=by
 intro σ Q hs q
 refine Z03 Z6V rfl (Z9a h ho hs ?_)
 exact Z4t (a:=a) (l:=Cu ts i) (l':=Cu ts j0) (t:=[.c v (Cu ts j),.c (tk [111,112] [61]) (Cu ts j),.c (.bool true) (Cu ts (j+2)),.c x (Cu ts j0)])
  (ZD (And.intro hv<|And.intro (c62 a h2 (d+1))<|And.intro (Eq.refl a)<|And.intro (Eq.refl a)<|And.intro (c63t a h3 d)<|And.intro hx<|And.intro (Eq.refl (Out.ret (tn [97,115,115,105,103,110,114,101,102] [v,x]))) (Eq.refl (some (Cu ts j0)))) (by kernel_rfl)) hs q
theorem Zgh {k s o:List Nat} {x:MV} {j0:Nat} (ho':o∈aopTab) (h:ts[i]? =some (tk k s)) (ho:Z0n k s=true) (hv:O74 (d+2) a ts i v j) (h2:tkB ts j (o++[61])) (hx:E66 (d+2) a ts 4 (j+1) x j0):U67 (d+3) a ts i (tn [97,115,115,105,103,110,111,112] [.str o,v,x]) j0:=by
 intro σ Q hs q
 refine Z03 Z6V rfl (Z9a h ho hs ?_)
 have:=Z00 (tab:=aopTab) (F:=fun o=>Z3h (Z3 FT (d+2)) (sA a) Zhx [some (.lst a),some (.str k),some (.str s),none,some ZfT] ⟨some (Cu ts i),none⟩ [.c v (Cu ts j),.c (tk [111,112] (o++[61])) (Cu ts j),.c x (Cu ts j0)] (fun oo _ κ _=>oo=.ret (tn [97,115,115,105,103,110,111,112] [.str o,v,x])∧κ.c1=some (Cu ts j0)))
  (G:=fun o=>O74 (d+2) a ts i v j∧Ct (Z3 FT (d+2)) a 62 [.lst a] (Cu ts j) (tk [111,112] (o++[61])) (Cu ts j)∧a=a∧a=a∧E66 (d+2) a ts 4 (j+1) x j0∧Out.ret (tn [97,115,115,105,103,110,111,112] [.str o,v,x])=Out.ret (tn [97,115,115,105,103,110,111,112] [.str o,v,x])∧some (Cu ts j0)=some (Cu ts j0))
  (by kernel_rfl) ho' ⟨hv,c62 a h2 (d+1),rfl,rfl,hx,rfl,rfl⟩
 exact Z4t this hs q
theorem ZdP {t:List Nat} (h:ts[i]? =some (tk [99,97,115,116] t)) (hx:E66 (d+1) a ts 20 (i+1) v j):U67 (d+2) a ts i (tn [99,97,115,116] [.str t,v]) j:=
 Z27 Z6V [.c (tk [99,97,115,116] t) (Cu ts i),.c v (Cu ts j)] (c62 a h d) (Eq.refl a) (Eq.refl a) hx (by kernel_rfl)
theorem Zig {o:List Nat} (ho:o∈[[43],[45],[126]]) (h:tkB ts i o) (hx:E66 (d+1) a ts 20 (i+1) v j):U67 (d+2) a ts i (tn [117,110] [.str o,v]) j:=by
 simp only [List.mem_cons,List.not_mem_nil,or_false] at ho
 rcases ho with rfl|rfl|rfl
 ·exact Z27 Z6V [.c (tk [111,112] [43]) (Cu ts i),.c v (Cu ts j)] (c62 a h d) (Eq.refl a) (Eq.refl a) hx (by kernel_rfl)
 ·exact Z27 Z6V [.c (tk [111,112] [45]) (Cu ts i),.c v (Cu ts j)] (c62 a h d) (Eq.refl a) (Eq.refl a) hx (by kernel_rfl)
 ·exact Z27 Z6V [.c (tk [111,112] [126]) (Cu ts i),.c v (Cu ts j)] (c62 a h d) (Eq.refl a) (Eq.refl a) hx (by kernel_rfl)
theorem Zgf (h:tkB ts i [33]) (hx:E66 (d+1) a ts 18 (i+1) v j):U67 (d+2) a ts i (tn [117,110] [.str [33],v]) j:=
 Z27 Z6V [.c (tk [111,112] [33]) (Cu ts i),.c v (Cu ts j)] (c62 a h d) (Eq.refl a) (Eq.refl a) hx (by kernel_rfl)
theorem Zgd (h:tkB ts i [64]) (hx:E66 (d+1) a ts 20 (i+1) v j):U67 (d+2) a ts i (tn [115,105,108,101,110,99,101] [v]) j:=
 Z27 Z6V [.c (tk [111,112] [64]) (Cu ts i),.c v (Cu ts j)] (c62 a h d) (Eq.refl a) (Eq.refl a) hx (by kernel_rfl)
theorem Zge {w:List Nat} {l:Nat} (hw:(w,l)∈preTab) (h:ts[i]? =some (tk [119,111,114,100] w)) (hx:E66 (d+1) a ts l (i+1) v j):U67 (d+2) a ts i (tn w [v]) j:=by
 simp only [preTab,List.mem_cons,Prod.mk.injEq,List.not_mem_nil,or_false] at hw
 rcases hw with hw|hw|hw<;>obtain ⟨rfl,rfl⟩:=hw
 ·exact Z27 Z6V [.c (tk [119,111,114,100] [112,114,105,110,116]) (Cu ts i),.c v (Cu ts j)] (c62 a h d) (Eq.refl a) (Eq.refl a) hx (by kernel_rfl)
 ·exact Z27 Z6V [.c (tk [119,111,114,100] [99,108,111,110,101]) (Cu ts i),.c v (Cu ts j)] (c62 a h d) (Eq.refl a) (Eq.refl a) hx (by kernel_rfl)
 ·exact Z27 Z6V [.c (tk [119,111,114,100] [116,104,114,111,119]) (Cu ts i),.c v (Cu ts j)] (c62 a h d) (Eq.refl a) (Eq.refl a) hx (by kernel_rfl)
theorem Z4L (h:ts[i]? =some (tk [119,111,114,100] [121,105,101,108,100])) (hx:Ct (Z3 FT (d+1)) a 68 [.lst a] (Cu ts (i+1)) v (Cu ts j)):U67 (d+2) a ts i v j:=
 Z27 Z6V [.c (tk [119,111,114,100] [121,105,101,108,100]) (Cu ts i),.c v (Cu ts j)] (c62 a h d) (Eq.refl a) (Eq.refl a) hx (by kernel_rfl)
end
end Mine
namespace Mine
noncomputable def cl4:List (List Nat):=[[41],[44],[93],[125]]
noncomputable def Z2i (k s:List Nat):Bool:=(k==[111,112]&&cl4.contains s)||(k==[101,110,100]&&s==[])
section
variable {d:Nat} {a:Addr} {ts:List MV} {v w:MV} {i j:Nat}
theorem ZdN (h:ts[i]? =some (tk [119,111,114,100] [102,114,111,109])) (hx:E66 (d+1) a ts 4 (i+1) v j):Ct (Z3 FT (d+2)) a 68 [.lst a] (Cu ts i) (tn [121,105,101,108,100,102,114,111,109] [v]) (Cu ts j):=
 Z27 Zal [.c (tk [119,111,114,100] [102,114,111,109]) (Cu ts i),.c v (Cu ts j)] (c62 a h d) (Eq.refl a) (Eq.refl a) hx (by kernel_rfl)
theorem ZdO {k s:List Nat} (h:ts[i]? =some (tk k s)) (hc:Z2i k s=true):Ct (Z3 FT (d+2)) a 68 [.lst a] (Cu ts i) (tn [121,105,101,108,100] [.none,.none]) (Cu ts i):=by
 unfold Z2i at hc
 rcases Bool.or_eq_true_iff.1 hc with hc|hc<;>obtain ⟨h1,h2⟩:=Bool.and_eq_true_iff.1 hc
 ·rw [eq_of_beq h1] at h
  refine Ziw (P:=fun s=>ts[i]? =some (tk [111,112] s)→Ct (Z3 FT (d+2)) a 68 [.lst a] (Cu ts i) (tn [121,105,101,108,100] [.none,.none]) (Cu ts i)) (List.contains_iff_mem.1 h2) ?_ ?_ ?_ ?_ h<;>intro h
  ·exact Z74 Zal [.c (tk [111,112] [41]) (Cu ts i),.c (tk [111,112] [41]) (Cu ts i),.c (tk [111,112] [41]) (Cu ts i)] (c62 a h d) (c62 a h d) (c62 a h d) (by kernel_rfl)
  ·exact Z74 Zal [.c (tk [111,112] [44]) (Cu ts i),.c (tk [111,112] [44]) (Cu ts i),.c (tk [111,112] [44]) (Cu ts i)] (c62 a h d) (c62 a h d) (c62 a h d) (by kernel_rfl)
  ·exact Z74 Zal [.c (tk [111,112] [93]) (Cu ts i),.c (tk [111,112] [93]) (Cu ts i),.c (tk [111,112] [93]) (Cu ts i)] (c62 a h d) (c62 a h d) (c62 a h d) (by kernel_rfl)
  ·exact Z74 Zal [.c (tk [111,112] [125]) (Cu ts i),.c (tk [111,112] [125]) (Cu ts i),.c (tk [111,112] [125]) (Cu ts i)] (c62 a h d) (c62 a h d) (c62 a h d) (by kernel_rfl)
 ·rw [eq_of_beq h1,eq_of_beq h2] at h
  exact Z74 Zal [.c (tk [101,110,100] []) (Cu ts i),.c (tk [101,110,100] []) (Cu ts i),.c (tk [101,110,100] []) (Cu ts i)] (c62 a h d) (c62 a h d) (c62 a h d) (by kernel_rfl)
theorem ZdM {k s:List Nat} {x:MV} {β:Bool} {j0 j1:Nat} (h:ts[i]? =some (tk k s)) (hf:(k==[119,111,114,100]&&s==[102,114,111,109])=false) (hc:([[],[41],[44],[93],[125]].contains s&&[[111,112],[101,110,100]].contains k)=false)
  (hx:E66 (d+2) a ts 4 i x j0) (h2:Ct (Z3 FT (d+2)) a 63 [.lst a,.str [61,62]] (Cu ts j0) (.bool β) (Cu ts j1)) (hy:β=true→E66 (d+2) a ts 4 j1 w j) (hv:β=false→j1=j):
  Ct (Z3 FT (d+3)) a 68 [.lst a] (Cu ts i) (if β then tn [121,105,101,108,100] [x,w] else tn [121,105,101,108,100] [.none,x]) (Cu ts j):=by
 have h62:=c62 a h (d+1)
 have e0:MV.bool ((MV.eqv (tk k s) (tk [119,111,114,100] [102,114,111,109])) !=false)=.bool false:=by
  show MV.bool ((k==[119,111,114,100]&&s==[102,114,111,109]) !=false)=.bool false
  rw [hf];rfl
 have e1:=Z2n s [[],[41],[44],[93],[125]]
 have e2:=Z2n k [[111,112],[101,110,100]]
 cases hb:[[],[41],[44],[93],[125]].contains s with
 |true=>
  rw [hb] at e1 hc
  rw [Bool.true_and] at hc
  rw [hc] at e2
  cases β with
  |true=>exact Zht Zal [.c (tk k s) (Cu ts i),.t false,.c (tk k s) (Cu ts i),.t true,.c (tk k s) (Cu ts i),.t false,.c x (Cu ts j0),.c (.bool true) (Cu ts j1),.c w (Cu ts j)] h62 e0 h62 (congrArg MV.bool e1) h62 (congrArg MV.bool e2) hx h2 (hy rfl) (by kernel_rfl)
  |false=>
   obtain rfl:=hv rfl
   exact ZfB Zal [.c (tk k s) (Cu ts i),.t false,.c (tk k s) (Cu ts i),.t true,.c (tk k s) (Cu ts i),.t false,.c x (Cu ts j0),.c (.bool false) (Cu ts j1)] h62 e0 h62 (congrArg MV.bool e1) h62 (congrArg MV.bool e2) hx h2 (by kernel_rfl)
 |false=>
  rw [hb] at e1
  cases β with
  |true=>exact ZfB Zal [.c (tk k s) (Cu ts i),.t false,.c (tk k s) (Cu ts i),.t false,.t false,.c x (Cu ts j0),.c (.bool true) (Cu ts j1),.c w (Cu ts j)] h62 e0 h62 (congrArg MV.bool e1) (Eq.refl (MV.bool false)) hx h2 (hy rfl) (by kernel_rfl)
  |false=>
   obtain rfl:=hv rfl
   exact ZfC Zal [.c (tk k s) (Cu ts i),.t false,.c (tk k s) (Cu ts i),.t false,.t false,.c x (Cu ts j0),.c (.bool false) (Cu ts j1)] h62 e0 h62 (congrArg MV.bool e1) (Eq.refl (MV.bool false)) hx h2 (by kernel_rfl)
end
noncomputable abbrev S2 (σ0:Z4) (a b:Addr) (l m:List MV):Z4:=upd (upd σ0 a l) b m
theorem Z7K {C:Zv} {a b:Addr} (ne:a≠b) {p:List CS} {ρ ρ':Loc} {l l' m m':List MV} {t:List TE} (h:Z3h C ⟨a,b,ne⟩ p ρ ⟨some l,some m⟩ t (fun o ρ1 κ _=>o=.next∧ρ1=ρ'∧κ.c1=some l'∧κ.c2=some m')) {σ0:Z4} (Q:Zn)
  (q:Q .next ρ' (S2 σ0 a b l' m')):wpSs C p ρ (S2 σ0 a b l m) Q:=
 Zl (s:=⟨a,b,ne⟩) p ρ ⟨some l,some m⟩ t _ _ Q h ⟨(Zp ne).trans (Z9 σ0 a l),Z9 _ b m⟩ fun o ρ1 κ t' e k=>by
  obtain ⟨c1,c2⟩:=κ
  obtain ⟨rfl,rfl,k1,k2⟩:=k
  cases k1;cases k2
  show Q .next ρ1 (upd (upd (upd (upd σ0 a l) b m) a l') b m')
  have:upd (upd (upd (upd σ0 a l) b m) a l') b m'=upd (upd σ0 a l') b m':=by
   funext x
   by_cases h1:x=b
   ·subst h1;rw [Z9,Z9]
   ·rw [Zp h1,Zp h1]
    by_cases h2:x=a
    ·subst h2;rw [Z9,Z9]
    ·rw [Zp h2,Zp h1,Zp h2,Zp h2]
  rw [this];exact q
theorem Z46 {C:Zv} {a b:Addr} (ne:a≠b) {e:CE} {ρ:Loc} {l l' m:List MV} {t:List TE} {v:MV} (h:evE C ⟨a,b,ne⟩ e ρ ⟨some l,some m⟩ t (fun w κ _=>w=v∧κ.c1=some l'∧κ.c2=some m)) {σ0:Z4} (Q:ZT)
  (q:Q v (S2 σ0 a b l' m)):wpE C e ρ (S2 σ0 a b l m) Q:=
 Zj (s:=⟨a,b,ne⟩) e ρ ⟨some l,some m⟩ t _ _ Q h ⟨(Zp ne).trans (Z9 σ0 a l),Z9 _ b m⟩ fun o κ t' e k=>by
  obtain ⟨c1,c2⟩:=κ
  obtain ⟨rfl,k1,k2⟩:=k
  cases k1;cases k2
  show Q o (upd (upd (upd (upd σ0 a l) b m) a l') b m)
  have:upd (upd (upd (upd σ0 a l) b m) a l') b m=upd (upd σ0 a l') b m:=by
   funext x
   by_cases h1:x=b
   ·subst h1;rw [Z9,Z9]
   ·rw [Zp h1,Zp h1]
    by_cases h2:x=a
    ·subst h2;rw [Z9,Z9]
    ·rw [Zp h2,Zp h1,Zp h2,Zp h2]
  rw [this];exact q
theorem Z67 {C:Zv} {a b:Addr} (ne:a≠b) {p:List CS} {ρ:Loc} {l l' m m':List MV} {t:List TE} {v:MV} (h:Z3h C ⟨a,b,ne⟩ p ρ ⟨some l,some m⟩ t (fun o _ κ _=>o=.ret v∧κ.c1=some l'∧κ.c2=some m')) {σ0:Z4} (hb:σ0 b=none) {Q:ZT}
  (q:Q v (upd σ0 a l')):wpSs C p ρ (S2 σ0 a b l m) fun o _ σ'=>∃σ'',ZG σ'' σ'∧Q (ZbJ o) σ'':=
 Zl (s:=⟨a,b,ne⟩) p ρ ⟨some l,some m⟩ t _ _ _ h ⟨(Zp ne).trans (Z9 σ0 a l),Z9 _ b m⟩ fun o ρ1 κ t' e k=>by
  obtain ⟨c1,c2⟩:=κ
  obtain ⟨rfl,k1,k2⟩:=k
  cases k1;cases k2
  refine ⟨upd σ0 a l',?_,q⟩
  intro x m0 hx
  have hxb:x≠b:=fun e=>by rw [e,Zp (fun e=>ne e.symm),hb] at hx;cases hx
  show upd (upd (upd (upd σ0 a l) b m) a l') b m' x=some m0
  rw [Zp hxb]
  by_cases h2:x=a
  ·subst h2;rw [Z9] at hx ⊢;exact hx
  ·rw [Zp h2] at hx ⊢;rw [Zp hxb,Zp h2];exact hx
end Mine
namespace Mine
theorem fin4 {ρ:Loc} {l m:List MV}:Out.next=.next∧ρ=ρ∧some l=some l∧some m=some m:=⟨rfl,rfl,rfl,rfl⟩
noncomputable def w71:CS:=match b71 with|[_,w,_]=>w|_=>.bad
noncomputable def t71:CE:=match w71 with| .while t _=>t|_=>.var 0
noncomputable def l71:List CS:=match w71 with| .while _ b=>b|_=>[]
noncomputable def AL (d:Nat) (a b:Addr) (ts:List MV) (i:Nat) (acc as:List MV) (j:Nat):Prop:=∀(x2 x3:Option MV) (σ0:Z4) (Q:Zn),
 (∀y2 y3,Q .next [some (.lst a),some (.lst b),y2,y3] (S2 σ0 a b (Cu ts j) (acc++as)))→wpS (Z3 FT d) (.while t71 l71) [some (.lst a),some (.lst b),x2,x3] (S2 σ0 a b (Cu ts i) acc) Q
section
variable {d:Nat} {a b:Addr} (ne:a≠b) {ts:List MV} {v w:MV} {i j:Nat} {acc as:List MV}
include ne
theorem ZfQ (h:tkB ts i [41]):AL (d+2) a b ts i acc [] (i+1):=by
 intro x2 x3 σ0 Q q
 have:=q x2 x3
 rw [List.append_nil] at this
 exact Z34 (fun Q q=>Z46 ne (l':=Cu ts (i+1)) (t:=[.c (.bool true) (Cu ts (i+1))]) (v:=.bool false) (ZD (And.intro (c63t a h d) (And.intro (Eq.refl (MV.bool false)) (And.intro (Eq.refl (some (Cu ts (i+1)))) (Eq.refl (some acc))))) (by kernel_rfl)) Q q) this
theorem Z7a {k s:List Nat} {u:MV} {i':Nat} (h:ts[i]? =some (tk k s)) (hn:(k==[111,112]&&s==[41])=false)
  (hB:∀x2 x3,∃y2 y3,∀(σ0:Z4) (Q:Zn),Q .next [some (.lst a),some (.lst b),y2,y3] (S2 σ0 a b (Cu ts i') (acc++[u]))→wpSs (Z3 FT (d+2)) l71 [some (.lst a),some (.lst b),x2,x3] (S2 σ0 a b (Cu ts i) acc) Q)
  (kk:AL (d+2) a b ts i' (acc++[u]) as j):AL (d+2) a b ts i acc (u::as) j:=by
 intro x2 x3 σ0 Q q
 obtain ⟨y2,y3,hB⟩:=hB x2 x3
 refine Z5s (Zs FT (d+2)) (fun Q q=>Z46 ne (l':=Cu ts i) (t:=[.c (.bool false) (Cu ts i)]) (v:=.bool true) (ZD (And.intro (c63f a h hn d) (And.intro (Eq.refl (MV.bool true)) (And.intro (Eq.refl (some (Cu ts i))) (Eq.refl (some acc))))) (by kernel_rfl)) Q q) (hB σ0) (kk y2 y3 σ0 Q fun z2 z3=>?_)
 have:=q z2 z3
 rwa [List.append_assoc]
theorem Zae {sp β:Bool} {i1 j0 j1:Nat} {k s:List Nat} (h0:Ct (Z3 FT (d+2)) a 63 [.lst a,.str [46,46,46]] (Cu ts i) (.bool sp) (Cu ts i1)) (h1:ts[i1]? =some (tk k s)) (h2:(k==[119,111,114,100])=true→∃k2 s2,ts[i1+1]? =some (tk k2 s2)∧(k2==[111,112]&&s2==[58])=false)
  (hx:E66 (d+2) a ts 1 i1 v j0) (hc:Ct (Z3 FT (d+2)) a 63 [.lst a,.str [44]] (Cu ts j0) (.bool β) (Cu ts j1)) (hl:acc.length<SL) (x2 x3:Option MV):
  ∃y2 y3,∀(σ0:Z4) (Q:Zn),Q .next [some (.lst a),some (.lst b),y2,y3] (S2 σ0 a b (Cu ts j1) (acc++[.tup [v,.bool sp,.none]]))→wpSs (Z3 FT (d+2)) l71 [some (.lst a),some (.lst b),x2,x3] (S2 σ0 a b (Cu ts i) acc) Q:=by
 refine ⟨some (.bool sp),some .none,fun σ0 Q q=>?_⟩
 have h62:=c62 a h1 (d+1)
 have fin:=fin4 (ρ:=[some (.lst a),some (.lst b),some (.bool sp),some .none]) (l:=Cu ts j1) (m:=acc++[.tup [v,.bool sp,.none]])
 cases hw:(k==[119,111,114,100]) with
 |false=>
  exact Z7K ne (t:=[.c (.bool sp) (Cu ts i1),.c (tk k s) (Cu ts i1),.t false,.t false,.c v (Cu ts j0),.c (.bool β) (Cu ts j1)])
   (ZD (And.intro h0<|And.intro h62<|And.intro (eqvF k [119,111,114,100] hw)<|And.intro (Eq.refl (MV.bool false))<|And.intro (Eq.refl b)<|And.intro hx<|And.intro (Eq.refl b)<|And.intro hl<|And.intro hc fin) (by kernel_rfl)) Q q
 |true=>
  obtain ⟨k2,s2,h2,hn⟩:=h2 hw
  have e2:MV.bool ((MV.eqv (tk k2 s2) (tk [111,112] [58])) !=false)=.bool false:=by
   show MV.bool ((k2==[111,112]&&s2==[58]) !=false)=.bool false
   rw [hn];rfl
  exact Z7K ne (t:=[.c (.bool sp) (Cu ts i1),.c (tk k s) (Cu ts i1),.t true,.g (.int ((i1+1:Nat):Int)),.g (tk k2 s2),.t false,.c v (Cu ts j0),.c (.bool β) (Cu ts j1)])
   (ZD (And.intro h0<|And.intro h62<|And.intro (eqvF k [119,111,114,100] hw)<|And.intro (Eq.refl a)<|And.intro (Eq.refl a)<|And.intro (addT i1 1)<|And.intro (getF h2)<|And.intro e2<|And.intro (Eq.refl b)<|And.intro hx<|And.intro (Eq.refl b)<|And.intro hl<|And.intro hc fin) (by kernel_rfl)) Q q
theorem Zaf {n:List Nat} {β:Bool} {j0 j1:Nat} (h1:ts[i]? =some (tk [119,111,114,100] n)) (h2:tkB ts (i+1) [58]) (hx:E66 (d+2) a ts 1 (i+2) v j0) (hc:Ct (Z3 FT (d+2)) a 63 [.lst a,.str [44]] (Cu ts j0) (.bool β) (Cu ts j1)) (hl:acc.length<SL) (x2 x3:Option MV):
  ∃y2 y3,∀(σ0:Z4) (Q:Zn),Q .next [some (.lst a),some (.lst b),y2,y3] (S2 σ0 a b (Cu ts j1) (acc++[.tup [v,.bool false,.str n]]))→wpSs (Z3 FT (d+2)) l71 [some (.lst a),some (.lst b),x2,x3] (S2 σ0 a b (Cu ts i) acc) Q:=by
 refine ⟨some (.bool false),some (.str n),fun σ0 Q q=>?_⟩
 have fin:=fin4 (ρ:=[some (.lst a),some (.lst b),some (.bool false),some (.str n)]) (l:=Cu ts j1) (m:=acc++[.tup [v,.bool false,.str n]])
 exact Z7K ne (t:=[.c (.bool false) (Cu ts i),.c (tk [119,111,114,100] n) (Cu ts i),.t true,.g (.int ((i+1:Nat):Int)),.g (tk [111,112] [58]),.t true,.c (tk [119,111,114,100] n) (Cu ts (i+1)),.c v (Cu ts j0),.c (.bool β) (Cu ts j1)])
   (ZD (And.intro (c63f (s:=[46,46,46]) a h1 rfl d)<|And.intro (c62 a h1 (d+1))<|And.intro (Eq.refl (MV.bool true))<|And.intro (Eq.refl a)<|And.intro (Eq.refl a)<|And.intro (addT i 1)<|And.intro (getF h2)<|And.intro (Eq.refl (MV.bool true))<|And.intro (c64 a h1 (d+1))<|And.intro (Eq.refl a)<|And.intro (Eq.refl a)<|
    And.intro (Eq.refl b)<|And.intro hx<|And.intro (Eq.refl b)<|And.intro hl<|And.intro hc fin) (by kernel_rfl)) Q q
end
theorem Z3o {σ:Z4} {a b:Addr} {l:List MV} (h:σ a=some l):upd σ b []=S2 σ a b l []:=by rw [S2,Z35 h]
theorem c71 {d:Nat} {a:Addr} {ts:List MV} {i j:Nat} {as:List MV} (h:∀b,a≠b→AL d a b ts i [] as j):A71 (d+1) a ts i as j:=by
 intro σ Q hs q
 refine Z03 ZiJ rfl ?_
 unfold b71
 refine Z0Q fun b hb=>?_
 have ne:a≠b:=fun e=>by rw [←e,hs] at hb;cases hb
 rw [Z3o hs]
 show wpSs _ (.while t71 l71::_) _ _ _
 unfold wpSs
 refine h b ne none none σ _ fun y2 y3=>?_
 exact Z67 ne (l':=Cu ts j) (m':=as) (t:=[]) (v:=.tup as) (ZD (And.intro (Eq.refl b)<|And.intro (Eq.refl (Out.ret (.tup as)))<|And.intro (Eq.refl (some (Cu ts j))) (Eq.refl (some as))) (by kernel_rfl)) hb q
end Mine
namespace Mine
noncomputable def w70:CS:=match b70 with|[_,w,_]=>w|_=>.bad
noncomputable def t70:CE:=match w70 with| .while t _=>t|_=>.var 0
noncomputable def l70:List CS:=match w70 with| .while _ b=>b|_=>[]
noncomputable def IL (d:Nat) (a b:Addr) (ts:List MV) (i:Nat) (acc as:List MV) (j:Nat):Prop:=∀(x2 x3 x4:Option MV) (σ0:Z4) (Q:Zn),
 (∀y2 y3 y4,Q .next [some (.lst a),some (.lst b),y2,y3,y4] (S2 σ0 a b (Cu ts j) (acc++as)))→wpS (Z3 FT d) (.while t70 l70) [some (.lst a),some (.lst b),x2,x3,x4] (S2 σ0 a b (Cu ts i) acc) Q
noncomputable def IS (d:Nat) (a b:Addr) (ts:List MV) (i:Nat) (acc:List MV) (u:MV) (i':Nat):Prop:=∀x2 x3 x4,∃y2 y3 y4,∀(σ0:Z4) (Q:Zn),Q .next [some (.lst a),some (.lst b),y2,y3,y4] (S2 σ0 a b (Cu ts i') (acc++[u]))→wpSs (Z3 FT d) l70 [some (.lst a),some (.lst b),x2,x3,x4] (S2 σ0 a b (Cu ts i) acc) Q
noncomputable def Zbx (ts:List MV) (j0 j1:Nat):Prop:=(tkB ts j0 [93]∧j0=j1)∨(tkB ts j0 [44]∧j1=j0+1)
section
variable {d:Nat} {a b:Addr} (ne:a≠b) {ts:List MV} {v w:MV} {i j:Nat} {acc as:List MV}
include ne
theorem Zcd (h:tkB ts i [93]):IL (d+2) a b ts i acc [] (i+1):=by
 intro x2 x3 x4 σ0 Q q
 have:=q x2 x3 x4
 rw [List.append_nil] at this
 exact Z34 (fun Q q=>Z46 ne (l':=Cu ts (i+1)) (t:=[.c (.bool true) (Cu ts (i+1))]) (v:=.bool false) (ZD (And.intro (c63t a h d) (And.intro (Eq.refl (MV.bool false)) (And.intro (Eq.refl (some (Cu ts (i+1)))) (Eq.refl (some acc))))) (by kernel_rfl)) Q q) this
theorem Z1f {k s:List Nat} {u:MV} {i':Nat} (h:ts[i]? =some (tk k s)) (hn:(k==[111,112]&&s==[93])=false) (hB:IS (d+2) a b ts i acc u i')
  (kk:IL (d+2) a b ts i' (acc++[u]) as j):IL (d+2) a b ts i acc (u::as) j:=by
 intro x2 x3 x4 σ0 Q q
 obtain ⟨y2,y3,y4,hB⟩:=hB x2 x3 x4
 refine Z5s (Zs FT (d+2)) (fun Q q=>Z46 ne (l':=Cu ts i) (t:=[.c (.bool false) (Cu ts i)]) (v:=.bool true) (ZD (And.intro (c63f a h hn d) (And.intro (Eq.refl (MV.bool true)) (And.intro (Eq.refl (some (Cu ts i))) (Eq.refl (some acc))))) (by kernel_rfl)) Q q) (hB σ0) (kk y2 y3 y4 σ0 Q fun z2 z3 z4=>?_)
 have:=q z2 z3 z4
 rwa [List.append_assoc]
theorem ZeY (h:tkB ts i [44]) (hl:acc.length<SL):IS (d+2) a b ts i acc .none (i+1):=fun x2 x3 x4=>⟨x2,x3,x4,fun σ0 Q q=>
 Z7K ne (t:=[.c (.bool true) (Cu ts (i+1)),.g .none]) (ZD (And.intro (c63t a h d)<|And.intro (Eq.refl b)<|And.intro (Eq.refl b)<|And.intro hl<|And.intro (Eq.refl b)<|And.intro (lastTok acc .none)<|fin4 (ρ:=[some (.lst a),some (.lst b),x2,x3,x4]) (l:=Cu ts (i+1)) (m:=acc++[.none])) (by kernel_rfl)) Q q⟩
theorem Z9J {j0 j1:Nat} (h:tkB ts i [46,46,46]) (hx:E66 (d+2) a ts 1 (i+1) v j0) (haf:Zbx ts j0 j1) (hl:acc.length<SL):IS (d+2) a b ts i acc (.tup [.none,v,.bool false,.bool true]) j1:=by
 intro x2 x3 x4
 rcases haf with ⟨h9,rfl⟩|⟨h9,rfl⟩
 ·exact ⟨x2,x3,x4,fun σ0 Q q=>
  Z7K ne (t:=[.c (.bool false) (Cu ts i),.c (.bool true) (Cu ts (i+1)),.c v (Cu ts j0),.g (.tup [.none,v,.bool false,.bool true]),.g (.tup [.none,v,.bool false,.bool true]),.c (tk [111,112] [93]) (Cu ts j0),.t false]) (ZD (And.intro (c63f (s:=[44]) a h (by decide) d)<|And.intro (c63t a h d)<|And.intro (Eq.refl b)<|And.intro (hx)<|And.intro (mkT [.none,v,.bool false,.bool true])<|And.intro (Eq.refl b)<|And.intro (hl)<|And.intro (Eq.refl b)<|And.intro (lastTok acc (.tup [.none,v,.bool false,.bool true]))<|And.intro (c62 a h9 (d+1))<|And.intro (Eq.refl (MV.bool false))<|fin4 (ρ:=[some (.lst a),some (.lst b),x2,x3,x4]) (l:=Cu ts (j0)) (m:=acc++[.tup [.none,v,.bool false,.bool true]])) (by kernel_rfl)) Q q⟩
 ·exact ⟨x2,x3,x4,fun σ0 Q q=>
  Z7K ne (t:=[.c (.bool false) (Cu ts i),.c (.bool true) (Cu ts (i+1)),.c v (Cu ts j0),.g (.tup [.none,v,.bool false,.bool true]),.g (.tup [.none,v,.bool false,.bool true]),.c (tk [111,112] [44]) (Cu ts j0),.t true,.c (.bool true) (Cu ts (j0+1))]) (ZD (And.intro (c63f (s:=[44]) a h (by decide) d)<|And.intro (c63t a h d)<|And.intro (Eq.refl b)<|And.intro (hx)<|And.intro (mkT [.none,v,.bool false,.bool true])<|And.intro (Eq.refl b)<|And.intro (hl)<|And.intro (Eq.refl b)<|And.intro (lastTok acc (.tup [.none,v,.bool false,.bool true]))<|And.intro (c62 a h9 (d+1))<|And.intro (Eq.refl (MV.bool true))<|And.intro (c63t a h9 d)<|fin4 (ρ:=[some (.lst a),some (.lst b),x2,x3,x4]) (l:=Cu ts (j0+1)) (m:=acc++[.tup [.none,v,.bool false,.bool true]])) (by kernel_rfl)) Q q⟩
theorem Z9I {k s k3 s3:List Nat} {r:Bool} {i1:Nat} {j0 j1:Nat} (h:ts[i]? =some (tk k s)) (n1:(k==[111,112]&&s==[44])=false) (n2:(k==[111,112]&&s==[46,46,46])=false) (hr:Ct (Z3 FT (d+2)) a 63 [.lst a,.str [38]] (Cu ts i) (.bool r) (Cu ts i1)) (hx:E66 (d+2) a ts 1 i1 v j0) (haf:Zbx ts j0 j1) (hl:acc.length<SL):IS (d+2) a b ts i acc (.tup [.none,v,.bool r,.bool false]) j1:=by
 intro x2 x3 x4
 rcases haf with ⟨h9,rfl⟩|⟨h9,rfl⟩
 ·exact ⟨some (.bool r),some .none,some v,fun σ0 Q q=>
  Z7K ne (t:=[.c (.bool false) (Cu ts i),.c (.bool false) (Cu ts i),.c (.bool r) (Cu ts i1),.c v (Cu ts j0),.c (.bool false) (Cu ts j0),.g (.tup [.none,v,.bool r,.bool false]),.g (.tup [.none,v,.bool r,.bool false]),.c (tk [111,112] [93]) (Cu ts j0),.t false]) (ZD (And.intro (c63f a h n1 d)<|And.intro (c63f a h n2 d)<|And.intro (hr)<|And.intro (hx)<|And.intro (c63f (s:=[61,62]) a h9 (by decide) d)<|And.intro (Eq.refl b)<|And.intro (mkT [.none,v,.bool r,.bool false])<|And.intro (Eq.refl b)<|And.intro (hl)<|And.intro (Eq.refl b)<|And.intro (lastTok acc (.tup [.none,v,.bool r,.bool false]))<|And.intro (c62 a h9 (d+1))<|And.intro (Eq.refl (MV.bool false))<|fin4 (ρ:=[some (.lst a),some (.lst b),some (.bool r),some .none,some v]) (l:=Cu ts (j0)) (m:=acc++[.tup [.none,v,.bool r,.bool false]])) (by kernel_rfl)) Q q⟩
 ·exact ⟨some (.bool r),some .none,some v,fun σ0 Q q=>
  Z7K ne (t:=[.c (.bool false) (Cu ts i),.c (.bool false) (Cu ts i),.c (.bool r) (Cu ts i1),.c v (Cu ts j0),.c (.bool false) (Cu ts j0),.g (.tup [.none,v,.bool r,.bool false]),.g (.tup [.none,v,.bool r,.bool false]),.c (tk [111,112] [44]) (Cu ts j0),.t true,.c (.bool true) (Cu ts (j0+1))]) (ZD (And.intro (c63f a h n1 d)<|And.intro (c63f a h n2 d)<|And.intro (hr)<|And.intro (hx)<|And.intro (c63f (s:=[61,62]) a h9 (by decide) d)<|And.intro (Eq.refl b)<|And.intro (mkT [.none,v,.bool r,.bool false])<|And.intro (Eq.refl b)<|And.intro (hl)<|And.intro (Eq.refl b)<|And.intro (lastTok acc (.tup [.none,v,.bool r,.bool false]))<|And.intro (c62 a h9 (d+1))<|And.intro (Eq.refl (MV.bool true))<|And.intro (c63t a h9 d)<|fin4 (ρ:=[some (.lst a),some (.lst b),some (.bool r),some .none,some v]) (l:=Cu ts (j0+1)) (m:=acc++[.tup [.none,v,.bool r,.bool false]])) (by kernel_rfl)) Q q⟩
theorem Z7x {k s:List Nat} {r:Bool} {u:MV} {ju i2:Nat} {j0 j1:Nat} (h:ts[i]? =some (tk k s)) (n1:(k==[111,112]&&s==[44])=false) (n2:(k==[111,112]&&s==[46,46,46])=false) (n3:(k==[111,112]&&s==[38])=false) (hu:E66 (d+2) a ts 1 i u ju) (he:tkB ts ju [61,62]) (hr:Ct (Z3 FT (d+2)) a 63 [.lst a,.str [38]] (Cu ts (ju+1)) (.bool r) (Cu ts i2)) (hx:E66 (d+2) a ts 1 i2 v j0) (haf:Zbx ts j0 j1) (hl:acc.length<SL):IS (d+2) a b ts i acc (.tup [u,v,.bool r,.bool false]) j1:=by
 intro x2 x3 x4
 rcases haf with ⟨h9,rfl⟩|⟨h9,rfl⟩
 ·exact ⟨some (.bool r),some u,some v,fun σ0 Q q=>
  Z7K ne (t:=[.c (.bool false) (Cu ts i),.c (.bool false) (Cu ts i),.c (.bool false) (Cu ts i),.c u (Cu ts ju),.c (.bool true) (Cu ts (ju+1)),.c (.bool r) (Cu ts i2),.c v (Cu ts j0),.g (.tup [u,v]),.g (.tup [u,v,.bool r,.bool false]),.g (.tup [u,v,.bool r,.bool false]),.c (tk [111,112] [93]) (Cu ts j0),.t false]) (ZD (And.intro (c63f a h n1 d)<|And.intro (c63f a h n2 d)<|And.intro (c63f a h n3 d)<|And.intro (hu)<|And.intro (c63t a he d)<|And.intro (hr)<|And.intro (hx)<|And.intro (mkT [u,v])<|And.intro (Eq.refl b)<|And.intro (mkT [u,v,.bool r,.bool false])<|And.intro (Eq.refl b)<|And.intro (hl)<|And.intro (Eq.refl b)<|And.intro (lastTok acc (.tup [u,v,.bool r,.bool false]))<|And.intro (c62 a h9 (d+1))<|And.intro (Eq.refl (MV.bool false))<|fin4 (ρ:=[some (.lst a),some (.lst b),some (.bool r),some u,some v]) (l:=Cu ts (j0)) (m:=acc++[.tup [u,v,.bool r,.bool false]])) (by kernel_rfl)) Q q⟩
 ·exact ⟨some (.bool r),some u,some v,fun σ0 Q q=>
  Z7K ne (t:=[.c (.bool false) (Cu ts i),.c (.bool false) (Cu ts i),.c (.bool false) (Cu ts i),.c u (Cu ts ju),.c (.bool true) (Cu ts (ju+1)),.c (.bool r) (Cu ts i2),.c v (Cu ts j0),.g (.tup [u,v]),.g (.tup [u,v,.bool r,.bool false]),.g (.tup [u,v,.bool r,.bool false]),.c (tk [111,112] [44]) (Cu ts j0),.t true,.c (.bool true) (Cu ts (j0+1))]) (ZD (And.intro (c63f a h n1 d)<|And.intro (c63f a h n2 d)<|And.intro (c63f a h n3 d)<|And.intro (hu)<|And.intro (c63t a he d)<|And.intro (hr)<|And.intro (hx)<|And.intro (mkT [u,v])<|And.intro (Eq.refl b)<|And.intro (mkT [u,v,.bool r,.bool false])<|And.intro (Eq.refl b)<|And.intro (hl)<|And.intro (Eq.refl b)<|And.intro (lastTok acc (.tup [u,v,.bool r,.bool false]))<|And.intro (c62 a h9 (d+1))<|And.intro (Eq.refl (MV.bool true))<|And.intro (c63t a h9 d)<|fin4 (ρ:=[some (.lst a),some (.lst b),some (.bool r),some u,some v]) (l:=Cu ts (j0+1)) (m:=acc++[.tup [u,v,.bool r,.bool false]])) (by kernel_rfl)) Q q⟩
end
theorem c70 {d:Nat} {a:Addr} {ts:List MV} {i j:Nat} {as:List MV} (h:∀b,a≠b→IL d a b ts i [] as j):Ct (Z3 FT (d+1)) a 70 [.lst a] (Cu ts i) (tn [97,114,114,97,121] [.tup as]) (Cu ts j):=by
 intro σ Q hs q
 refine Z03 ZiK rfl ?_
 unfold b70
 refine Z0Q fun b hb=>?_
 have ne:a≠b:=fun e=>by rw [←e,hs] at hb;cases hb
 rw [Z3o hs]
 show wpSs _ (.while t70 l70::_) _ _ _
 unfold wpSs
 refine h b ne none none none σ _ fun y2 y3 y4=>?_
 exact Z67 ne (l':=Cu ts j) (m':=as) (t:=[]) (v:=tn [97,114,114,97,121] [.tup as]) (ZD (And.intro (Eq.refl b)<|And.intro (Eq.refl (Out.ret (tn [97,114,114,97,121] [.tup as])))<|And.intro (Eq.refl (some (Cu ts j))) (Eq.refl (some as))) (by kernel_rfl)) hb q
inductive Goal (d:Nat):MV→MV→Prop
 |gap:Goal d .none .none
 |plain {k t r s x}:(t==[97,114,114,97,121])=false→Goal d (.tup [k,tn t r,s,x]) (.tup [k,tn t r,s])
 |deep {k r s x g}:Pct (Z3 FT d) 69 [tn [97,114,114,97,121] r] g→Goal d (.tup [k,tn [97,114,114,97,121] r,s,x]) (.tup [k,g,s])
theorem c69 {d:Nat} {as gs:List MV} (h:All2 (Goal d) as gs) (hl:as.length≤SL):Pct (Z3 FT (d+1)) 69 [tn [97,114,114,97,121] [.tup as]] (tn [108,105,115,116] [.tup gs]):=by
 intro σ0 Q q
 refine Z03 ZiL rfl ?_
 unfold b69
 refine Z0Q fun b hb=>?_
 refine Z6X (v:=.tup as) (items:=as) rfl (by kernel_rfl) (Z3R (outs:=gs) (J:=fun ρ=>∃x2,ρ=[some (tn [97,114,114,97,121] [.tup as]),some (.lst b),x2]) ?_ ⟨none,rfl⟩ (by show 0+_≤SL;lia) fun ρ' hρ=>?_)
 ·clear q hl
  generalize tn [97,114,114,97,121] [.tup as]=V
  induction h with
  |nil=>exact .nil
  | @cons u g as gs hu _ ih=>
   refine .cons (fun ρ acc Q hJ hl hq=>?_) ih
   obtain ⟨x2,rfl⟩:=hJ
   cases hu with
   |gap=>exact Z04 [] (x:=.none) (ρ':=[some V,some (.lst b),some .none]) (fun _ f=>ai4 (Eq.refl b) (Eq.refl b) hl f) (by kernel_rfl) (hq _ ⟨_,rfl⟩)
   | @plain k t r s x ht=>exact Z04 [.t false,.t false] (x:=.tup [k,tn t r,s]) (ρ':=[some V,some (.lst b),some (.tup [k,tn t r,s,x])]) (fun _ f=>ai6 (Eq.refl (MV.bool false)) (Eq.refl b) (eqvF t [97,114,114,97,121] ht) (Eq.refl b) hl f) (by kernel_rfl) (hq _ ⟨_,rfl⟩)
   | @deep k r s x g hg=>exact Z04 [.v g] (x:=.tup [k,g,s]) (ρ':=[some V,some (.lst b),some (.tup [k,tn [97,114,114,97,121] r,s,x])]) (fun _ f=>ai5 (Eq.refl b) hg (Eq.refl b) hl f) (by kernel_rfl) (hq _ ⟨_,rfl⟩)
 ·obtain ⟨x2,rfl⟩:=hρ
  rw [List.nil_append]
  exact Z45 [] (ai2 (Eq.refl b) (Eq.refl (tn [108,105,115,116] [.tup gs]))) (by kernel_rfl) hb q
end Mine
namespace Mine
noncomputable def w72:CS:=match b72 with|[_,_,_,_,w,_]=>w|_=>.bad
noncomputable def t72:CE:=match w72 with| .while t _=>t|_=>.var 0
noncomputable def l72:List CS:=match w72 with| .while _ b=>b|_=>[]
noncomputable def w72b:CS:=match l72 with|[_,_,w,_,_]=>w|_=>.bad
noncomputable def ZhG:CE:=match w72b with| .while t _=>t|_=>.var 0
noncomputable def ZhN:List CS:=match w72b with| .while _ b=>b|_=>[]
noncomputable def TLp (d:Nat) (a b c:Addr) (ts:List MV) (V:MV) (i:Nat) (acc as:List MV) (j:Nat):Prop:=∀(σ0:Z4) (Q:Zn),
 Q .next [some (.lst a),some V,some (.lst b),some (.lst c)] (S2 σ0 a c (Cu ts j) (acc++as))→wpS (Z3 FT d) (.while ZhG ZhN) [some (.lst a),some V,some (.lst b),some (.lst c)] (S2 σ0 a c (Cu ts i) acc) Q
section
variable {d:Nat} {a b c:Addr} (ne:a≠c) {ts:List MV} {v w V:MV} {i j:Nat} {acc as:List MV}
include ne
theorem Zc9 (h:tkB ts i [61,62]):TLp (d+2) a b c ts V i acc [] (i+1):=by
 intro σ0 Q q
 rw [List.append_nil] at q
 exact Z34 (fun Q q=>Z46 ne (l':=Cu ts (i+1)) (t:=[.c (.bool true) (Cu ts (i+1))]) (v:=.bool false) (ZD (And.intro (c63t a h d) (And.intro (Eq.refl (MV.bool false)) (And.intro (Eq.refl (some (Cu ts (i+1)))) (Eq.refl (some acc))))) (by kernel_rfl)) Q q) q
theorem Zag {k s:List Nat} {β:Bool} {j0 j1:Nat} (h:ts[i]? =some (tk k s)) (hn:(k==[111,112]&&s==[61,62])=false) (hx:E66 (d+2) a ts 1 i v j0) (hc:Ct (Z3 FT (d+2)) a 63 [.lst a,.str [44]] (Cu ts j0) (.bool β) (Cu ts j1)) (hl:acc.length<SL)
  (kk:TLp (d+2) a b c ts V j1 (acc++[v]) as j):TLp (d+2) a b c ts V i acc (v::as) j:=by
 intro σ0 Q q
 refine Z5s (Zs FT (d+2)) (fun Q q=>Z46 ne (l':=Cu ts i) (t:=[.c (.bool false) (Cu ts i)]) (v:=.bool true) (ZD (And.intro (c63f a h hn d) (And.intro (Eq.refl (MV.bool true)) (And.intro (Eq.refl (some (Cu ts i))) (Eq.refl (some acc))))) (by kernel_rfl)) Q q)
  (Z7K ne (t:=[.c v (Cu ts j0),.c (.bool β) (Cu ts j1)]) (l':=Cu ts j1) (m':=acc++[v]) (ρ':=[some (.lst a),some V,some (.lst b),some (.lst c)])
   (ZD (And.intro (Eq.refl c)<|And.intro hx<|And.intro (Eq.refl c)<|And.intro hl<|And.intro hc<|fin4 (ρ:=[some (.lst a),some V,some (.lst b),some (.lst c)]) (l:=Cu ts j1) (m:=acc++[v])) (by kernel_rfl))) (kk σ0 Q ?_)
 rwa [List.append_assoc]
end
theorem ZcC (σ:Z4) (a b:Addr) (l m:List MV):S2 σ a b l m b=some m:=Z9 _ b m
theorem Zeb (σ:Z4) {a b:Addr} (ne:a≠b) (l m:List MV):S2 σ a b l m a=some l:=(Zp ne).trans (Z9 σ a l)
theorem ZdI (σ:Z4) {a b x:Addr} (h1:x≠a) (h2:x≠b) (l m:List MV):S2 σ a b l m x=σ x:=(Zp h2).trans (Zp h1)
theorem ZdB {C:Zv} {ρ:Loc} {σ σ':Z4} {Q:Zn} {b:Addr} {e:CE} {l:List MV} {v:MV} (hρ:(ρ[2]?).join=some (.lst b)) (h1:σ b=some l) (he:∀Q':ZT,Q' v σ'→wpE C e ρ σ Q') (h2:σ' b=some l) (hl:l.length<SL)
  (q:Q .next ρ (upd σ' b (l++[v]))):wpS C (.expr (.pr .append [.pr .islst [.var 2],e])) ρ σ Q:=by
 simp only [wpS,wpE,wpEs,hρ]
 exact .inr ⟨b,l,rfl,h1,he _ (.inr ⟨b,l,v,rfl,h2,hl,rfl,q⟩)⟩
noncomputable def Zie (d:Nat) (a b:Addr) (ts:List MV) (V:MV) (i:Nat) (acc:List MV) (u:MV) (i':Nat):Prop:=∀(x3:Option MV) (σ1:Z4) (Q:Zn),
 (∀y3 σ1',(∀x l,σ1 x=some l→x≠a→σ1' x=some l)→Q .next [some (.lst a),some V,some (.lst b),y3] (S2 σ1' a b (Cu ts i') (acc++[u])))→
 wpSs (Z3 FT d) l72 [some (.lst a),some V,some (.lst b),x3] (S2 σ1 a b (Cu ts i) acc) Q
theorem Zc8 {d:Nat} {a b:Addr} (ne:a≠b) {ts:List MV} {v V T:MV} {i i1 i2 j0 j1:Nat} {k s:List Nat} {df β:Bool} {acc as:List MV} (h:ts[i]? =some (tk k s)) (hd:(k==[119,111,114,100]&&s==[100,101,102,97,117,108,116])=df) (hi:i1=if df then i+1 else i)
  (hT:∀c,a≠c→TLp (d+2) a b c ts V i1 [] as i2) (hTT:T=if as.isEmpty then .none else .tup as) (hx:E66 (d+2) a ts 1 i2 v j0) (hc:Ct (Z3 FT (d+2)) a 63 [.lst a,.str [44]] (Cu ts j0) (.bool β) (Cu ts j1)) (hl:acc.length<SL):
  Zie (d+2) a b ts V i acc (.tup [T,v]) j1:=by
 intro x3 σ1 Q q
 show wpSs _ (.assign 3 (.pr .mkList [])::_) _ _ _
 refine Z0Q fun c hc0=>?_
 have nb:c≠b:=fun e=>by rw [e,ZcC] at hc0;cases hc0
 have na:a≠c:=fun e=>by rw [←e,Zeb σ1 ne] at hc0;cases hc0
 have h1c:σ1 c=none:=by rwa [ZdI σ1 (fun e=>na e.symm) nb] at hc0
 have e0:upd (S2 σ1 a b (Cu ts i) acc) c []=S2 (upd σ1 b acc) a c (Cu ts i) []:=by
  funext x
  by_cases h1:x=c
  ·subst h1;rw [Z9,ZcC]
  ·rw [Zp h1]
   show _=upd (upd (upd σ1 b acc) a (Cu ts i)) c [] x
   rw [Zp h1]
   by_cases h2:x=b
   ·subst h2;rw [ZcC,Zp (fun e=>ne e.symm),Z9]
   ·by_cases h3:x=a
    ·subst h3;rw [Zeb _ ne,Z9]
    ·rw [ZdI _ h3 h2,Zp h3,Zp h2]
 rw [e0]
 have hd':MV.bool ((MV.eqv (tk k s) (tk [119,111,114,100] [100,101,102,97,117,108,116])) !=false)=.bool df:=by
  show MV.bool ((k==[119,111,114,100]&&s==[100,101,102,97,117,108,116]) !=false)=.bool df
  rw [hd];cases df<;>rfl
 have step1:∀Q:Zn,Q .next [some (.lst a),some V,some (.lst b),some (.lst c)] (S2 (upd σ1 b acc) a c (Cu ts i1) [])→
   wpSs (Z3 FT (d+2)) (l72.take 2 |>.drop 1) [some (.lst a),some V,some (.lst b),some (.lst c)] (S2 (upd σ1 b acc) a c (Cu ts i) []) Q:=by
  cases df with
  |true=>
   rw [show i1=i+1 from hi]
   exact fun Q q=>Z7K na (t:=[.c (tk k s) (Cu ts i),.t true]) (ZD (And.intro (c62 a h (d+1))<|And.intro hd'<|And.intro (Eq.refl a)<|And.intro (Eq.refl a)<|fin4 (ρ:=[some (.lst a),some V,some (.lst b),some (.lst c)]) (l:=Cu ts (i+1)) (m:=[])) (by kernel_rfl)) Q q
  |false=>
   rw [show i1=i from hi]
   exact fun Q q=>Z7K na (t:=[.c (tk k s) (Cu ts i),.t false]) (ZD (And.intro (c62 a h (d+1))<|And.intro hd'<|fin4 (ρ:=[some (.lst a),some V,some (.lst b),some (.lst c)]) (l:=Cu ts i) (m:=[])) (by kernel_rfl)) Q q
 refine Z32 (l72.take 2 |>.drop 1) (l72.drop 2) _ _ _ (step1 _ ?_) (Zs FT (d+2))
 show wpSs _ (.while ZhG ZhN::_) _ _ _
 unfold wpSs
 refine hT c na (upd σ1 b acc) _ ?_
 rw [List.nil_append]
 have hb1:∀i m,S2 (upd σ1 b acc) a c (Cu ts i) m b=some acc:=fun i m=>by rw [ZdI _ (fun e=>ne e.symm) (fun e=>nb e.symm),Z9]
 have fin:∀v:MV,v=v∧some (Cu ts j0)=some (Cu ts j0)∧some as=some as:=fun v=>⟨rfl,rfl,rfl⟩
 have hE:∀Q':ZT,Q' (.tup [T,v]) (S2 (upd σ1 b acc) a c (Cu ts j0) as)→
   wpE (Z3 FT (d+2)) (.pr .mkTup [.cond (.pr .eq [.var 3,.pr .mkFl []]) (.cst .none) (.pr .tuple [.var 3]),.call 66 [.var 0,.cst (.int 1)]]) [some (.lst a),some V,some (.lst b),some (.lst c)] (S2 (upd σ1 b acc) a c (Cu ts i2) as) Q':=by
  cases as with
  |nil=>
   subst hTT
   exact fun Q' q'=>Z46 na (l':=Cu ts j0) (t:=[.c v (Cu ts j0)]) (ZD (And.intro (Eq.refl c)<|And.intro hx<|fin (.tup [.none,v])) (by kernel_rfl)) Q' q'
  |cons x xs=>
   subst hTT
   exact fun Q' q'=>Z46 na (l':=Cu ts j0) (t:=[.c v (Cu ts j0)]) (ZD (And.intro (Eq.refl c)<|And.intro (Eq.refl c)<|And.intro hx<|fin (.tup [.tup (x::xs),v])) (by kernel_rfl)) Q' q'
 refine Z32 [_] [_] _ _ _ ?_ (Zs FT (d+2))
 show wpSs _ [.expr (.pr .append [.pr .islst [.var 2],.pr .mkTup [.cond (.pr .eq [.var 3,.pr .mkFl []]) (.cst .none) (.pr .tuple [.var 3]),.call 66 [.var 0,.cst (.int 1)]]])] _ _ _
 unfold wpSs
 refine ZdB (b:=b) rfl (hb1 i2 as) hE (hb1 j0 as) hl ?_
 unfold wpSs
 have e1:upd (S2 (upd σ1 b acc) a c (Cu ts j0) as) b (acc++[.tup [T,v]])=S2 (upd σ1 c as) a b (Cu ts j0) (acc++[.tup [T,v]]):=by
  funext x
  by_cases h2:x=b
  ·subst h2;rw [Z9,ZcC]
  ·rw [Zp h2]
   by_cases h3:x=a
   ·subst h3;rw [Zeb _ na,Zeb _ ne]
   ·rw [ZdI _ h3 h2]
    by_cases h1:x=c
    ·subst h1;rw [ZcC,Z9]
    ·rw [ZdI _ h3 h1,Zp h2,Zp h1]
 rw [e1]
 refine Z7K ne (t:=[.c (.bool β) (Cu ts j1)]) (l':=Cu ts j1) (m':=acc++[.tup [T,v]]) (ρ':=[some (.lst a),some V,some (.lst b),some (.lst c)]) (ZD (And.intro hc<|fin4 (ρ:=[some (.lst a),some V,some (.lst b),some (.lst c)]) (l:=Cu ts j1) (m:=acc++[.tup [T,v]])) (by kernel_rfl)) _ ?_
 refine q _ (upd σ1 c as) fun x l hx hxa=>?_
 rw [Zp (fun e=>by rw [e,h1c] at hx;cases hx)];exact hx
end Mine
namespace Mine
inductive ArmCh (d:Nat) (a b:Addr) (ts:List MV) (V:MV):Nat→Nat→List MV→List MV→Nat→Prop
 |nil {i acc}:tkB ts i [125]→ArmCh d a b ts V 0 i acc acc (i+1)
 |cons {n i i' acc u fin j k s}:ts[i]? =some (tk k s)→(k==[111,112]&&s==[125])=false→Zie d a b ts V i acc u i'→ArmCh d a b ts V n i' (acc++[u]) fin j→ArmCh d a b ts V (n+1) i acc fin j
theorem c72 {d:Nat} {a:Addr} {ts:List MV} {V:MV} {i j0 j n:Nat} {as:List MV} (hx:E66 (d+2) a ts 1 (i+1) V j0) (h:∀b,a≠b→ArmCh (d+2) a b ts V n (j0+2) [] as j):
  Ct (Z3 FT (d+3)) a 72 [.lst a] (Cu ts i) (tn [109,97,116,99,104] [V,.tup as]) (Cu ts j):=by
 intro σ Q hs q
 refine Z03 ZiI rfl ?_
 show wpSs _ ((b72.take 3)++(b72.drop 3)) _ _ _
 refine Z9Z (Zs FT (d+2)) (a:=a) (l:=Cu ts i) (l':=Cu ts (j0+2)) (ρ':=[some (.lst a),some V,none,none]) (t:=[.c V (Cu ts j0)])
  (ZD (And.intro (Eq.refl a)<|And.intro (Eq.refl a)<|And.intro hx<|And.intro (Eq.refl a)<|And.intro (Eq.refl a)<|fin3' (o:=.next) (ρ:=[some (.lst a),some V,none,none]) (l:=Cu ts (j0+2))) (by kernel_rfl)) hs ?_
 show wpSs _ (.assign 2 (.pr .mkList []):: .while t72 l72::[_]) _ _ _
 refine Z0Q fun b hb=>?_
 have ne:a≠b:=fun e=>by rw [←e,Z9] at hb;cases hb
 have hb0:σ b=none:=by rwa [Zp (fun e=>ne e.symm)] at hb
 unfold wpSs wpS
 refine ⟨fun n ρ σ'=>∃i acc σ1 x3,ArmCh (d+2) a b ts V n i acc as j∧ρ=[some (.lst a),some V,some (.lst b),x3]∧σ'=S2 σ1 a b (Cu ts i) acc∧(∀x l,σ x=some l→x≠a→σ1 x=some l),
  ⟨n,j0+2,[],σ,none,h b ne,rfl,rfl,fun x l hx _=>hx⟩,?_⟩
 rintro m ρ σ' ⟨i',acc,σ1,x3,hch,rfl,rfl,hext⟩
 cases hch with
 |nil he=>
  refine Z46 ne (l':=Cu ts (i'+1)) (t:=[.c (.bool true) (Cu ts (i'+1))]) (v:=.bool false) (ZD (And.intro (c63t a he d) (And.intro (Eq.refl (MV.bool false)) (And.intro (Eq.refl (some (Cu ts (i'+1)))) (Eq.refl (some as))))) (by kernel_rfl)) _ ?_
  refine Zl (s:=⟨a,b,ne⟩) _ _ ⟨some (Cu ts (i'+1)),some as⟩ [] (fun o _ κ _=>o=.ret (tn [109,97,116,99,104] [V,.tup as])∧κ.c1=some (Cu ts (i'+1))∧κ.c2=some as) _ _
   (ZD (And.intro (Eq.refl b)<|And.intro (Eq.refl (Out.ret (tn [109,97,116,99,104] [V,.tup as])))<|And.intro (Eq.refl (some (Cu ts (i'+1)))) (Eq.refl (some as))) (by kernel_rfl)) ⟨Zeb σ1 ne _ _,ZcC σ1 a b _ _⟩ fun o ρ1 κ t' e k=>?_
  obtain ⟨c1,c2⟩:=κ
  obtain ⟨rfl,k1,k2⟩:=k
  cases k1;cases k2
  refine ⟨upd σ a (Cu ts (i'+1)),?_,q⟩
  intro x l hx
  show upd (upd (S2 σ1 a b _ _) a (Cu ts (i'+1))) b as x=some l
  have hxb:x≠b:=fun e=>by rw [e,Zp (fun e=>ne e.symm),hb0] at hx;cases hx
  rw [Zp hxb]
  by_cases h2:x=a
  ·subst h2;rw [Z9] at hx ⊢;exact hx
  ·rw [Zp h2] at hx ⊢;rw [ZdI _ h2 hxb];exact hext x l hx h2
 |cons hk hn hA hch=>
  refine Z46 ne (l':=Cu ts i') (t:=[.c (.bool false) (Cu ts i')]) (v:=.bool true) (ZD (And.intro (c63f a hk hn d) (And.intro (Eq.refl (MV.bool true)) (And.intro (Eq.refl (some (Cu ts i'))) (Eq.refl (some acc))))) (by kernel_rfl)) _ ?_
  refine hA x3 σ1 _ fun y3 σ1' hs'=>⟨_,Nat.lt_succ_self _,_,_,σ1',y3,hch,rfl,rfl,fun x l hx hxa=>hs' x l (hext x l hx hxa) hxa⟩
end Mine
namespace Mine
theorem n21 {L:Nat} {p:Prop} (e:(L==21)=false) (h:L=21):p:=by
 rw [h] at e;exact ff e.symm
noncomputable def st9:List (List Nat):=[[43],[45],[126],[33],[64],[43,43],[45,45],[40],[91]]
noncomputable def stT (k s:List Nat):Bool:=if k==[111,112] then st9.contains s else !(k==[101,110,100])&& !(k==[119,111,114,100]&&s==[100,101,102,97,117,108,116])
noncomputable def NCh (l:List MV):Prop:=∃k s r,l=tk k s::r∧(k==[111,112]&&s==[58])=false
noncomputable def TS (L:Nat) (p:List Pc):Prop:=∃k s r,toks p=tk k s::r∧stT k s=true∧(L=21→Z0n k s=true)∧∀rest,NCh rest→NCh (r++rest)
theorem Z6t {k s:List Nat} (h:stT k s=true):(k==[111,112]&&s==[58])=false:=by
 unfold stT at h
 cases hk:(k==[111,112]) with
 |false=>rfl
 |true=>
  rw [hk] at h
  cases hs:(s==[58]) with
  |false=>rfl
  |true=>rw [eq_of_beq hs,if_pos rfl] at h;exact absurd h (by decide)
theorem Z1g {L p} (h:TS L p) (rest:List MV):NCh (toks p++rest):=by
 obtain ⟨k,s,r,e,h1,-,-⟩:=h
 exact ⟨k,s,r++rest,by rw [e];rfl,Z6t h1⟩
theorem Zck {L p} (h:TS L p):TS 0 p:=by
 obtain ⟨k,s,r,e,h1,-,h3⟩:=h
 exact ⟨k,s,r,e,h1,n21 rfl,h3⟩
theorem Z37 {p L} (L':Nat) (h:TS L p):TS L' (Zm p):=⟨[111,112],[40],toks (p++[.op [41]]),rfl,by decide,fun _=>by decide,fun rest hr=>by
 rw [Z1,List.append_assoc];exact Z1g h _⟩
theorem Z8z {L L' p x k s} (hx:Pc.tk1 x=some (tk k s)) (h1:stT k s=true) (h2:L'=21→Z0n k s=true) (h:TS L p):TS L' (x::p):=⟨k,s,toks p,by rw [Z1n,hx];rfl,h1,h2,fun rest _=>Z1g h rest⟩
theorem Z5t {L' x k s} (hx:Pc.tk1 x=some (tk k s)) (h1:stT k s=true) (h2:L'=21→Z0n k s=true):TS L' [x]:=⟨k,s,[],by rw [Z1n,hx];rfl,h1,h2,fun rest h=>h⟩
theorem Z0M {L L' p q} (h:TS L p) (hL:L'=21→L=21) (hq:∀rest,NCh rest→NCh (toks q++rest)):TS L' (p++q):=by
 obtain ⟨k,s,r,e,h1,h2,h3⟩:=h
 exact ⟨k,s,r++toks q,by rw [Z1,e];rfl,h1,fun h=>h2 (hL h),fun rest hr=>by rw [List.append_assoc];exact h3 _ (hq rest hr)⟩
theorem ZQ {s:List Nat} {l:List MV} (h:(s==[58])=false):NCh (tk [111,112] s::l):=⟨_,_,_,rfl,by rw [h,Bool.and_false]⟩
theorem Z3c {s:List Nat} {l:List MV}:NCh (tk [119,111,114,100] s::l):=⟨_,_,_,rfl,rfl⟩
theorem Zgj (p:List Pc):toks (.sp::p)=toks p:=rfl
theorem Zcm (s:List Nat) (p:List Pc):toks (.op s::p)=tk [111,112] s::toks p:=rfl
theorem ZdT (s:List Nat) (p:List Pc):toks (.word s::p)=tk [119,111,114,100] s::toks p:=rfl
section
variable {R:Z0c} (hR:∀v L p,R v L p→TS L p∧(Z01 v=true→L=21))
include hR
theorem ZZ {a k p} (h:Par R a k p):TS 0 p:=by
 obtain ⟨L,q,h,rfl⟩:=h
 split
 ·exact Z37 0 (hR _ _ _ h).1
 ·exact Zck (hR _ _ _ h).1
set_option tactic.hygienic true in
theorem Z2s {a p} (h:Z1E R a p):TS 21 p:=by
 obtain ⟨L,q,h,rfl⟩:=h
 obtain ⟨h1,h2⟩:=hR _ _ _ h
 split
 ·rename_i hb;have:=h2 hb;rwa [this] at h1
 ·exact Z37 21 h1
theorem Z2z {a:MV} (h:Z56 a=true):Z01 a=true:=by
 unfold Z56 at h;unfold Z01
 exact (by decide+kernel:∀x∈[[118,97,114],[100,105,109],[112,114,111,112]],[[118,97,114],[100,105,109],[112,114,111,112],[99,97,108,108],[109,99,97,108,108]].contains x=true) _ (List.contains_iff_mem.1 h)
theorem Z0U {a p} (h:Z0z R a p):TS 21 p:=by
 obtain ⟨hp,L,h⟩:=h
 obtain ⟨h1,h2⟩:=hR _ _ _ h
 have:=h2 (Z2z hR hp)
 rwa [this] at h1
theorem Z8y {L p} (h:TS L p):∃L',TS L' (Z1k p):=by
 unfold Z1k;split
 ·exact ⟨0,Z37 0 h⟩
 ·exact ⟨L,h⟩
theorem Z6q {v L p} (n:Node R v L p):TS L p∧(Z01 v=true→L=21):=by
 induction n with
 |var h=>exact ⟨Z5t rfl rfl fun _=>rfl,fun _=>rfl⟩
 | @lit v p h=>
  refine ⟨Z54 (P:=fun x=>TS 21 [x.2]) (fun x hx=>?_) (fun x hx=>?_) (fun s _=>Z5t rfl rfl fun _=>rfl) h,fun _=>rfl⟩<;>
   refine Zak (P:=fun x:MV×Pc=>TS 21 [x.2]) hx ?_ ?_ ?_<;>exact Z5t rfl (by decide) fun _=>by decide
 | @cst n p h=>
  refine ⟨Z6Z (P:=fun x=>TS 21 x.2) (fun n hn=>?_) (fun n hn=>?_) h,fun _=>rfl⟩
  ·have:∀n∈cst1,stT [119,111,114,100] n=true∧Z0n [119,111,114,100] n=true:=by decide+kernel
   exact Z5t rfl (this _ hn).1 fun _=>(this _ hn).2
  ·have:∀n∈cst2,stT [119,111,114,100] n=true∧Z0n [119,111,114,100] n=true:=by decide+kernel
   exact ⟨[119,111,114,100],_,[],rfl,(this _ hn).1,fun _=>(this _ hn).2,fun rest h=>h⟩
 | @un o a p ho h=>
  refine ⟨?_,ff⟩
  have e:toks (Z29 o p)=tk [111,112] o::toks p:=by unfold Z29;cases headIs o p<;>rfl
  refine ⟨[111,112],o,toks p,e,(by decide+kernel:∀o∈[[43],[45],[126]],stT [111,112] o=true) o ho,n21 rfl,fun rest _=>Z1g (ZZ hR h) rest⟩
 | @not a p h=>
  refine ⟨?_,ff⟩
  have e:toks (Z29 [33] p)=tk [111,112] [33]::toks p:=by unfold Z29;cases headIs [33] p<;>rfl
  exact ⟨[111,112],[33],toks p,e,by decide,n21 rfl,fun rest _=>Z1g (ZZ hR h) rest⟩
 |cast _ h=>exact ⟨Z8z rfl rfl (n21 rfl) (ZZ hR h),ff⟩
 |sil h=>exact ⟨Z8z rfl (by decide) (n21 rfl) (ZZ hR h),ff⟩
 | @pre w l a p hw h=>
  have:∀x∈preTab,stT [119,111,114,100] x.1=true∧x.2≠21∧Z01 (.tup [.str x.1])=false:=by decide+kernel
  obtain ⟨g1,g2,g3⟩:=this _ hw
  refine ⟨⟨[119,111,114,100],_,toks p,rfl,g1,fun h=>absurd h g2,fun rest _=>Z1g (ZZ hR h) rest⟩,fun h=>?_⟩
  rw [show Z01 (.tup [.str w,a])=Z01 (.tup [.str w]) from rfl,g3] at h;cases h
 |yfrom h=>exact ⟨⟨[119,111,114,100],[121,105,101,108,100],_,rfl,by decide,n21 rfl,fun rest _=>Z3c⟩,ff⟩
 |yld0=>exact ⟨Z5t rfl (by decide) (n21 rfl),ff⟩
 | @yld a p h=>
  obtain ⟨L',hy⟩:=Z8y hR (ZZ hR h)
  exact ⟨⟨[119,111,114,100],[121,105,101,108,100],toks (Z1k p),rfl,by decide,n21 rfl,fun rest _=>Z1g hy rest⟩,ff⟩
 | @yldk k a pk p h1 h2=>
  obtain ⟨L',hy⟩:=Z8y hR (ZZ hR h1)
  exact ⟨⟨[119,111,114,100],[121,105,101,108,100],toks (Z1k pk++[.sp,.op [61,62],.sp]++p),rfl,by decide,n21 rfl,fun rest _=>by rw [List.append_assoc,Z1,List.append_assoc];exact Z1g hy _⟩,ff⟩
 | @bin o l la lb m a b pa pb ho h1 h2=>
  have hl:∀x∈opTab,x.2.1≠21∧(x.1==[58])=false:=by decide+kernel
  refine ⟨?_,ff⟩
  rw [List.append_assoc]
  refine Z0M (ZZ hR h1) (fun h=>absurd h (hl _ ho).1) fun rest hr=>?_
  unfold Z8d
  split
  ·exact Z3c
  ·exact ZQ (hl _ ho).2
 | @lg t o l la lb m a b pa pb ho h1 h2=>
  have hl:∀x∈lgTab,x.2.2.1≠21∧(x.2.1==[58])=false∧Z01 (.tup [.str x.1])=false:=by decide+kernel
  refine ⟨?_,fun h=>?_⟩
  ·rw [List.append_assoc]
   exact Z0M (ZZ hR h1) (fun h=>absurd h (hl _ ho).1) fun rest hr=>ZQ (hl _ ho).2.1
  ·have:=(hl _ ho).2.2
   rw [show Z01 (.tup [.str t,a,b])=Z01 (.tup [.str t]) from rfl,this] at h;cases h
 |elvis h1 h2=>exact ⟨by rw [List.append_assoc];exact Z0M (ZZ hR h1) (n21 rfl) fun rest hr=>ZQ (by decide),ff⟩
 |tern h1 h2 h3=>exact ⟨by simp only [List.append_assoc];exact Z0M (ZZ hR h1) (n21 rfl) fun rest hr=>ZQ (by decide),ff⟩
 |asg h1 h2=>exact ⟨by rw [List.append_assoc];exact Z0M (Z0U hR h1) (n21 rfl) fun rest hr=>ZQ (by decide),ff⟩
 | @asgl t a pt p h1 h2=>
  refine ⟨?_,ff⟩
  obtain ⟨is,ps,rfl,hps,hne,rfl⟩:=h1
  refine ⟨[111,112],[91],toks ((Z2 ps++(if lastNone is then [.op [44]] else [])++[.op [93]])++[.sp,.op [61],.sp]++p),rfl,by decide,n21 rfl,fun rest _=>?_⟩
  have key:∀q:List MV,NCh (toks (Z2 ps)++(tk [111,112] [44]::q))∧NCh (toks (Z2 ps)++(tk [111,112] [93]::q)):=by
   intro q
   have hG:∀v p,(Z0z R v p∨(ZdL R v p∧Sm p))→∃k s r,toks p=tk k s::r∧(k==[111,112]&&s==[58])=false:=by
    rintro v p (h|⟨h,-⟩)
    ·obtain ⟨k,s,r,e,h1,-,-⟩:=Z0U hR h
     exact ⟨k,s,r,e,Z6t h1⟩
    ·obtain ⟨_,ps,_,_,_,rfl⟩:=h
     exact ⟨[111,112],[91],_,rfl,by decide⟩
   have first:∀{is ps},Pats R (fun v p=>Z0z R v p∨(ZdL R v p∧Sm p)) is ps→∀l,NCh l→NCh (match ps with|[]=>l|p::_=>toks p++l):=by
    intro is ps h l hl
    induction h with
    |nil=>exact hl
    |gap _ _=>exact hl
    |val hv _ _=>obtain ⟨k,s,r,e,h1⟩:=hG _ _ hv;exact ⟨k,s,r++l,by show toks _++l=_;rw [e];rfl,h1⟩
    |ref hv _ _=>exact ZQ (by decide)
    |key hk _ _ _=>show NCh (toks _++l);rw [List.append_assoc,Z1,List.append_assoc];exact Z1g (ZZ hR hk) _
    |keyref hk _ _ _=>show NCh (toks _++l);rw [List.append_assoc,Z1,List.append_assoc];exact Z1g (ZZ hR hk) _
   have hf:=first hps
   cases ps with
   |nil=>exact ⟨ZQ (by decide),ZQ (by decide)⟩
   |cons p ps=>
    cases ps with
    |nil=>exact ⟨hf _ (ZQ (by decide)),hf _ (ZQ (by decide))⟩
    |cons p2 ps=>
     have:∀l,NCh (toks (Z2 (p::p2::ps))++l):=fun l=>by
      rw [ZS,Z1,Z1,List.append_assoc,List.append_assoc]
      exact hf _ (ZQ (by decide))
     exact ⟨this _,this _⟩
  have e:∀q,toks ((Z2 ps++(if lastNone is then [.op [44]] else [])++[.op [93]])++q)++rest=toks (Z2 ps)++(toks (if lastNone is then [.op [44]] else [])++(tk [111,112] [93]::(toks q++rest))):=fun q=>by
   simp only [Z1,List.append_assoc];rfl
  rw [List.append_assoc,e]
  cases lastNone is with
  |true=>exact (key _).1
  |false=>exact (key _).2
 |aref h1 _ h2=>exact ⟨by rw [List.append_assoc];exact Z0M (Z0U hR h1) (n21 rfl) fun rest hr=>ZQ (by decide),ff⟩
 | @aop o t a pt p ho h1 h2=>
  have:∀o∈aopTab,(o++[61]==[58])=false:=by decide+kernel
  exact ⟨by rw [List.append_assoc];exact Z0M (Z0U hR h1) (n21 rfl) fun rest hr=>ZQ (this o ho),ff⟩
 |incp ho h=>
  have:∀o∈[[43,43],[45,45]],stT [111,112] o=true∧Z0n [111,112] o=true:=by decide+kernel
  exact ⟨Z8z rfl (this _ ho).1 (fun _=>(this _ ho).2) (Z0U hR h),fun _=>rfl⟩
 |incs ho h=>
  exact ⟨Z0M (Z0U hR h) (fun _=>rfl) fun rest hr=>ZQ ((by decide:∀o∈[[43,43],[45,45]],(o==[58])=false) _ ho),fun _=>rfl⟩
 |insn h hc=>exact ⟨by rw [List.append_assoc];exact Z0M (ZZ hR h) (n21 rfl) fun rest hr=>Z3c,ff⟩
 |ins h hc=>exact ⟨by rw [List.append_assoc];exact Z0M (ZZ hR h) (n21 rfl) fun rest hr=>Z3c,ff⟩
 | @mcall o m as ns po pm ps h1 h2 h3=>exact ⟨by simp only [List.append_assoc];exact Z0M (Z2s hR h1) (fun _=>rfl) fun rest hr=>(by cases ns<;>exact ZQ (by decide)),fun _=>rfl⟩
 | @prop o m ns po pm h1 h2=>exact ⟨by simp only [List.append_assoc];exact Z0M (Z2s hR h1) (fun _=>rfl) fun rest hr=>(by cases ns<;>exact ZQ (by decide)),fun _=>rfl⟩
 |dim h1 h2=>exact ⟨by simp only [List.append_assoc];exact Z0M (Z2s hR h1) (fun _=>rfl) fun rest hr=>ZQ (by decide),fun _=>rfl⟩
 |dim0 h1=>exact ⟨Z0M (Z2s hR h1) (fun _=>rfl) fun rest hr=>ZQ (by decide),fun _=>rfl⟩
 |callf h=>exact ⟨⟨[119,111,114,100],[102],_,rfl,by decide,fun _=>by decide,fun rest _=>ZQ (by decide)⟩,fun _=>rfl⟩
 | @callo o as po ps h1 h2=>
  refine ⟨Z0M (L:=21) ?_ (fun _=>rfl) fun rest hr=>ZQ (by decide),fun _=>rfl⟩
  split
  ·exact Z37 21 (Z2s hR h1)
  ·exact Z2s hR h1
 | @arr is ps h=>
  refine ⟨⟨[111,112],[91],toks (Z2 ps++[.op [93]]),rfl,by decide,fun _=>by decide,fun rest _=>?_⟩,fun _=>rfl⟩
  rw [Z1,List.append_assoc]
  have first:∀l,NCh l→NCh (match ps with|[]=>l|p::_=>toks p++l):=by
   intro l hl
   induction h with
   |nil=>exact hl
   |val hv _ _=>exact Z1g (hR _ _ _ hv).1 l
   |spread hv _ _=>exact ZQ (by decide)
   |key hk _ _ _=>show NCh (toks _++l);rw [List.append_assoc,Z1,List.append_assoc];exact Z1g (ZZ hR hk) _
   |keyref hk _ _ _=>show NCh (toks _++l);rw [List.append_assoc,Z1,List.append_assoc];exact Z1g (ZZ hR hk) _
  cases ps with
  |nil=>exact ZQ (by decide)
  |cons p ps=>
   cases ps with
   |nil=>exact first _ (ZQ (by decide))
   |cons p2 ps=>rw [ZS,Z1,Z1,List.append_assoc,List.append_assoc];exact first _ (ZQ (by decide))
 |mtch h1 h2=>exact ⟨⟨[119,111,114,100],[109,97,116,99,104],_,rfl,by decide,fun _=>by decide,fun rest _=>ZQ (by decide)⟩,fun _=>rfl⟩
 |empt h=>exact ⟨⟨[119,111,114,100],[101,109,112,116,121],_,rfl,by decide,fun _=>by decide,fun rest _=>ZQ (by decide)⟩,fun _=>rfl⟩
 |iset h=>exact ⟨⟨[119,111,114,100],[105,115,115,101,116],_,rfl,by decide,fun _=>by decide,fun rest _=>ZQ (by decide)⟩,fun _=>rfl⟩
end
end Mine
namespace Mine
noncomputable def gl:List Nat:=[100,1,3,4,4,6,6,8,9,10,11,12,13,14,15,16,17,18,18,19,19]
noncomputable def g (L:Nat):Nat:=gl.getD L 100
noncomputable def foB (L:Nat) (k s:List Nat):Bool:=decide (lv k s<g L)&& !isPost k s&& !isAs k s&&(L !=0||Z2i k s)&&(!(k==[111,112]&&s==[61,62])||decide (5≤L))
noncomputable def FoL (L:Nat) (rest:List MV):Prop:=∃k s r,rest=tk k s::r∧foB L k s=true
noncomputable def NP (rest:List MV):Prop:=∃k s r,rest=tk k s::r∧isPost k s=false
noncomputable def NO (rest:List MV):Prop:=∃k s r,rest=tk k s::r∧(k==[111,112]&&s==[40])=false
noncomputable def Cn (v:MV) (rest:List MV):Prop:=NP rest∨(Z01 v=true∧(tagOf v=[112,114,111,112]→NO rest))
noncomputable def okM (m L:Nat):Bool:=decide (m≤max L 1)||L==19
noncomputable def Z2D (v:MV):Bool:=tagOf v==[105,110,99,100,101,99]
noncomputable abbrev tl (p:List Pc):Nat:=(toks p).length
theorem Z0a {d d' f:Nat} {a:Addr} {vs l l':List MV} {v:MV} (h:Ct (Z3 FT d) a f vs l v l') (hd:d≤d'):Ct (Z3 FT d') a f vs l v l':=fun σ Q hs q=>
 Z3i FT hd f vs σ Q Q (fun _ _ x=>x) (h σ Q hs q)
theorem Zjj {d d':Nat} {a:Addr} {ts:List MV} {m:Nat} {v:MV} {i:Nat} {w:MV} {j:Nat} (h:EL d a ts m v i w j) (hd:d≤d'):EL d' a ts m v i w j:=fun x3 x4 x5 x6 x7 x8 σ Q hs q=>
 Z33 (Z3i FT hd) _ _ _ (fun _ _ _ x=>x) (h x3 x4 x5 x6 x7 x8 σ Q hs q)
theorem Zji {d d':Nat} {a:Addr} {ts:List MV} {v:MV} {i:Nat} {w:MV} {j:Nat} (h:OL d a ts v i w j) (hd:d≤d'):OL d' a ts v i w j:=fun x1 x3 x4 x5 x6 x7 σ Q hs q=>
 Z33 (Z3i FT hd) _ _ _ (fun _ _ _ x=>x) (h x1 x3 x4 x5 x6 x7 σ Q hs q)
theorem Z5 {ts r:List MV} {i:Nat} {t:MV} (h:ts.drop i=t::r):ts[i]? =some t:=by
 have:(ts.drop i)[0]? =some t:=by rw [h];rfl
 rwa [List.getElem?_drop] at this
theorem Zk {ts r:List MV} {i:Nat} {t:MV} (h:ts.drop i=t::r):ts.drop (i+1)=r:=by
 rw [←List.drop_drop,h];rfl
theorem Zd {ts x y:List MV} {i:Nat} (h:ts.drop i=x++y):ts.drop (i+x.length)=y:=by
 rw [←List.drop_drop,h,List.drop_left]
theorem Z7O {k s:List Nat} (h:Z2i k s=true):lv k s=0∧isPost k s=false∧isAs k s=false∧(k==[111,112]&&s==[61,62])=false∧(k==[111,112]&&s==[58])=false:=by
 unfold Z2i at h
 rcases Bool.or_eq_true_iff.1 h with h|h<;>obtain ⟨h1,h2⟩:=Bool.and_eq_true_iff.1 h<;>obtain rfl:=eq_of_beq h1
 ·have h2:=List.contains_iff_mem.1 h2
  have:∀s∈cl4,lv [111,112] s=0∧isPost [111,112] s=false∧isAs [111,112] s=false∧([111,112]==[111,112]&&s==[61,62])=false∧([111,112]==[111,112]&&s==[58])=false:=by decide+kernel
  exact this s h2
 ·obtain rfl:=eq_of_beq h2
  decide+kernel
theorem Zh9 (L:Nat):0<g L:=by
 unfold g
 have:∀x∈gl,0<x:=by decide
 rw [List.getD_eq_getElem?_getD]
 cases h:gl[L]? with
 |none=>decide
 |some x=>exact this x (List.mem_of_getElem? h)
theorem Z9P {k s:List Nat} (h:Z2i k s=true) (L:Nat):foB L k s=true:=by
 obtain ⟨h1,h2,h3,h4,-⟩:=Z7O h
 unfold foB
 rw [h1,h2,h3,h4,h,decide_eq_true (Zh9 L),Bool.or_true];rfl
theorem Z61 {L:Nat} {k s:List Nat} (h:foB L k s=true):lv k s<g L∧isPost k s=false∧isAs k s=false∧(L=0→Z2i k s=true)∧((k==[111,112]&&s==[61,62])=true→5≤L):=by
 unfold foB at h
 obtain ⟨h,h5⟩:=Bool.and_eq_true_iff.1 h
 obtain ⟨h,h4⟩:=Bool.and_eq_true_iff.1 h
 obtain ⟨h,h3⟩:=Bool.and_eq_true_iff.1 h
 obtain ⟨h1,h2⟩:=Bool.and_eq_true_iff.1 h
 refine ⟨of_decide_eq_true h1,by revert h2;cases isPost k s<;>simp,by revert h3;cases isAs k s<;>simp,fun e=>?_,fun e=>?_⟩
 ·subst e
  rcases Bool.or_eq_true_iff.1 h4 with h|h
  ·cases h
  ·exact h
 ·rw [e] at h5
  rcases Bool.or_eq_true_iff.1 h5 with h|h
  ·cases h
  ·exact of_decide_eq_true h
structure Rd (R:Z0c) (D:Nat):Prop where
 ts:∀{v L p},R v L p→TS L p∧(Z01 v=true→L=21)
 le:∀{v L p},R v L p→L≤21
 shp:∀{v L p},R v L p→∃t f r,(t,f)∈grpTab∧v=.tup (.str t::r)
 vr:∀{v L p},R v L p→tagOf v=[118,97,114]→∃n,toks p=[tk [118,97,114] n]
 lx:∀{v L p},R v L p→TL p
 sm:∀{v L p},R v L p→Sm p
 ex:∀{v L p},R v L p→∀{d a ts m i rest w k},D≤d→okM m L=true→ts.drop i=toks p++rest→FoL L rest→EL d a ts m v (i+tl p) w k→E66 (d+1) a ts m i w k
 op:∀{v p},R v 21 p→Z2D v=false→∀{d a ts i rest w k},D≤d→ts.drop i=toks p++rest→Cn v rest→OL d a ts v (i+tl p) w k→O74 (d+1) a ts i w k
 inc:∀{v p},R v 21 p→Z2D v=true→∀{d a ts i rest},D≤d→ts.drop i=toks p++rest→NP rest→O74 (d+1) a ts i v (i+tl p)
section
variable {R:Z0c} {D:Nat} (rd:Rd R D) {d:Nat} (hd:D≤d) {a:Addr} {ts:List MV} {v w:MV} {i k:Nat} {rest:List MV}
include rd hd
theorem rdV {L p k' s r m} (h:R v L p) (hm:m≤1) (hat:ts.drop i=toks p++tk k' s::r) (hc:Z2i k' s=true):E66 (d+2) a ts m i v (i+tl p):=by
 have h1:=Z7O hc
 refine rd.ex h (d:=d+1) (Nat.le_succ_of_le hd) ?_ hat ⟨k',s,r,rfl,Z9P hc L⟩ (Z7Z (Z5 (Zd hat)) (by rw [h1.1];lia))
 unfold okM
 rw [decide_eq_true (by lia)];rfl
theorem Z2h {L p} (h:R v L p) (hat:ts.drop i=toks (Zm p)++rest) (hl:OL (d+3) a ts v (i+tl (Zm p)) w k):O74 (d+4) a ts i w k:=by
 have hat':ts.drop i=tk [111,112] [40]::(toks p++tk [111,112] [41]::rest):=by
  rw [hat];show tk [111,112] [40]::(toks (p++[.op [41]])++rest)=_
  rw [Z1,List.append_assoc];rfl
 have h1:=rdV rd hd (m:=1) h (Nat.le_refl 1) (Zk hat') (by decide) (a:=a)
 have e:tl (Zm p)=tl p+2:=by
  show (tk [111,112] [40]::toks (p++[.op [41]])).length=_
  rw [Z1,List.length_cons,List.length_append];rfl
 have hq:Q73 (d+3) a ts i v (i+1+tl p+1):=Z96 (Z5 hat') h1
 rw [e,show i+(tl p+2)=i+1+tl p+1 by lia] at hl
 exact Z7X (Z5 hat') (by decide) hq hl
theorem Z5E {p} (h:Z1E R v p) (hno:tagOf v=[112,114,111,112]→NO rest) (hat:ts.drop i=toks p++rest) (hl:OL (d+3) a ts v (i+tl p) w k):O74 (d+4) a ts i w k:=by
 obtain ⟨L,q,h,rfl⟩:=h
 cases hb:Z01 v with
 |true=>
  rw [hb,if_pos rfl] at hat hl
  obtain rfl:=(rd.ts h).2 hb
  have hi:Z2D v=false:=by
   unfold Z2D;unfold Z01 at hb
   cases he:(tagOf v==[105,110,99,100,101,99]) with
   |false=>rfl
   |true=>rw [eq_of_beq he] at hb;exact absurd hb (by decide)
  exact rd.op h hi (Nat.le_add_right_of_le hd) hat (.inr ⟨hb,hno⟩) hl
 |false=>
  rw [hb,if_neg (by decide)] at hat hl
  exact Z2h rd hd h hat hl
theorem Z6F {p} (h:Z0z R v p) (hno:NO rest) (hat:ts.drop i=toks p++rest) (hl:OL d a ts v (i+tl p) w k):O74 (d+1) a ts i w k:=by
 obtain ⟨hp,L,h⟩:=h
 have hb:=Z2z (fun v L p h=>rd.ts h) hp
 obtain rfl:=(rd.ts h).2 hb
 have hi:Z2D v=false:=by
  unfold Z2D;unfold Z56 at hp
  cases he:(tagOf v==[105,110,99,100,101,99]) with
  |false=>rfl
  |true=>rw [eq_of_beq he] at hp;exact absurd hp (by decide)
 exact rd.op h hi hd hat (.inr ⟨hb,fun _=>hno⟩) hl
theorem Z6G {kk p m k' s r} (h:Par R v kk p) (hk:kk≤21) (H:∀L,kk≤L→L≤21→okM m L=true∧foB L k' s=true) (hat:ts.drop i=toks p++tk k' s::r) (hl:EL (d+5) a ts m v (i+tl p) w k):E66 (d+6) a ts m i w k:=by
 obtain ⟨L,q,h,rfl⟩:=h
 by_cases hL:L<kk
 ·rw [if_pos hL] at hat hl
  obtain ⟨-,hf⟩:=H 21 hk (Nat.le_refl 21)
  have hf:=Z61 hf
  have hn:=Z5 (Zd hat)
  have ho:O74 (d+4) a ts i v (i+tl (Zm q)):=Z2h rd hd h hat (Z2o hn hf.2.1)
  have hat':ts.drop i=tk [111,112] [40]::(toks (q++[.op [41]])++tk k' s::r):=hat
  exact Z6j (Zaq (Z5 hat') (by decide) ho hn hf.2.2.1) hl
 ·rw [if_neg hL] at hat hl
  obtain ⟨hm,hf⟩:=H L (by lia) (rd.le h)
  exact rd.ex h (Nat.le_add_right_of_le hd) hm hat ⟨k',s,r,rfl,hf⟩ hl
theorem Z4v {kk p m k' s r} (h:Par R v kk p) (hk:kk≤21) (H:∀L,kk≤L→L≤21→okM m L=true∧foB L k' s=true) (hlv:lv k' s<max m 1) (hat:ts.drop i=toks p++tk k' s::r):E66 (d+6) a ts m i v (i+tl p):=
 Z6G rd hd h hk H hat (Z7Z (Z5 (Zd hat)) hlv)
end
end Mine
namespace Mine
noncomputable def Z39 (ps:List (List Pc)) (X:List MV):List MV:=match ps with|[]=>X|_::_=>tk [111,112] [44]::(toks (Z2 ps)++X)
noncomputable def sl (ps:List (List Pc)):Nat:=match ps with|[]=>0|_::_=>1+tl (Z2 ps)
theorem Zo (p:List Pc) (ps:List (List Pc)) (X:List MV):toks (Z2 (p::ps))++X=toks p++Z39 ps X:=by
 cases ps with
 |nil=>rfl
 |cons q ps=>
  rw [ZS,Z1,Z1,List.append_assoc,List.append_assoc];rfl
theorem ZF (p:List Pc) (ps:List (List Pc)):tl (Z2 (p::ps))=tl p+sl ps:=by
 cases ps with
 |nil=>rfl
 |cons q ps=>
  show (toks (Z2 (p::q::ps))).length=_
  rw [ZS,Z1,Z1,List.length_append,List.length_append]
  show (toks p).length+1+(toks (Z2 (q::ps))).length=(toks p).length+(1+(toks (Z2 (q::ps))).length)
  lia
theorem Z2g {ps:List (List Pc)} {cl:List Nat} {r:List MV} (hc:cl4.contains cl=true):∃s r',Z39 ps (tk [111,112] cl::r)=tk [111,112] s::r'∧Z2i [111,112] s=true:=by
 cases ps with
 |nil=>exact ⟨cl,r,rfl,by unfold Z2i;rw [hc];rfl⟩
 |cons q ps=>exact ⟨[44],_,rfl,by decide⟩
theorem Za3 {s:List Nat} {r:List MV} (h:Z2i [111,112] s=true):NCh (tk [111,112] s::r):=⟨_,_,_,rfl,(Z7O h).2.2.2.2⟩
theorem Z2f {d:Nat} {a:Addr} {ts:List MV} {j0:Nat} {ps:List (List Pc)} {cl:List Nat} {r:List MV} (hc:(cl==[44])=false) (hat:ts.drop j0=Z39 ps (tk [111,112] cl::r)):
  ∃β j1,Ct (Z3 FT (d+2)) a 63 [.lst a,.str [44]] (Cu ts j0) (.bool β) (Cu ts j1)∧ts.drop j1=toks (Z2 ps)++tk [111,112] cl::r∧j1+tl (Z2 ps)=j0+sl ps:=by
 cases ps with
 |nil=>exact ⟨false,j0,c63f a (Z5 hat) hc d,hat,rfl⟩
 |cons q ps=>exact ⟨true,j0+1,c63t a (Z5 hat) d,Zk hat,by show j0+1+_=j0+(1+_);lia⟩
theorem Z05 {k s x:List Nat} (h:stT k s=true) (hx:st9.contains x=false):(k==[111,112]&&s==x)=false:=by
 unfold stT at h
 cases hk:(k==[111,112]) with
 |false=>rfl
 |true=>
  rw [hk,if_pos rfl] at h
  cases hs:(s==x) with
  |false=>rfl
  |true=>rw [eq_of_beq hs,hx] at h;cases h
theorem ZbE {k s:List Nat} (h:stT k s=true):([[],[41],[44],[93],[125]].contains s&&[[111,112],[101,110,100]].contains k)=false:=by
 cases hb:[[111,112],[101,110,100]].contains k with
 |false=>rw [Bool.and_false]
 |true=>
  have hk:=List.contains_iff_mem.1 hb
  simp only [List.mem_cons,List.not_mem_nil,or_false] at hk
  rcases hk with rfl|rfl
  ·have h:st9.contains s=true:=h
   have h:=List.contains_iff_mem.1 h
   have:∀s∈st9,([[],[41],[44],[93],[125]].contains s&&true)=false:=by decide+kernel
   exact this s h
  ·cases (show false=true from h)
section
variable {R:Z0c} {D:Nat} (rd:Rd R D) {d:Nat} (hd:D≤d) {a:Addr} {ts:List MV}
include rd hd
theorem Zeh {b:Addr} (ne:a≠b) {as ps rest} (h:Args R as ps):∀{i acc},ts.drop i=toks (Z2 ps)++tk [111,112] [41]::rest→acc.length+as.length≤SL→AL (d+2) a b ts i acc as (i+tl (Z2 ps)+1):=by
 induction h with
 |nil=>intro i acc hat _;exact ZfQ ne (Z5 hat)
 | @val v L p r ps hv _ ih=>
  intro i acc hat hl
  have hl:acc.length+(r.length+1)≤SL:=hl
  rw [Zo] at hat
  obtain ⟨k,s,r1,e1,h1,-,h3⟩:=(rd.ts hv).1
  obtain ⟨s2,r2,e2,h2⟩:=Z2g (ps:=ps) (cl:=[41]) (r:=rest) (by decide)
  have hx:=rdV rd hd (m:=1) hv (Nat.le_refl 1) (by rw [hat,e2]) h2 (a:=a)
  obtain ⟨β,j1,hc,hat2,ej⟩:=Z2f (d:=d) (a:=a) (j0:=i+tl p) (by decide) (Zd hat)
  have hat':ts.drop i=tk k s::(r1++Z39 ps (tk [111,112] [41]::rest)):=by rw [hat,e1];rfl
  have hcol:∃k2 s2,ts[i+1]? =some (tk k2 s2)∧(k2==[111,112]&&s2==[58])=false:=by
   obtain ⟨k2,s2',r3,e3,hn⟩:=h3 _ (e2▸Za3 h2)
   have:=Zk hat'
   rw [e3] at this
   exact ⟨k2,s2',Z5 this,hn⟩
  refine Z7a ne (Z5 hat') (Z05 h1 (by decide)) (Zae ne (c63f a (Z5 hat') (Z05 h1 (by decide)) d) (Z5 hat') (fun _=>hcol) hx hc (by lia)) ?_
  have:=ih hat2 (by rw [List.length_append];show acc.length+1+r.length≤SL;lia) (acc:=acc++[.tup [v,.bool false,.none]])
  rwa [show j1+tl (Z2 ps)+1=i+tl (Z2 (p::ps))+1 by rw [ZF];lia] at this
 | @spread v L p r ps hv _ ih=>
  intro i acc hat hl
  have hl:acc.length+(r.length+1)≤SL:=hl
  rw [Zo] at hat
  have hat0:ts.drop i=tk [111,112] [46,46,46]::(toks p++Z39 ps (tk [111,112] [41]::rest)):=hat
  have hat:=Zk hat0
  obtain ⟨k,s,r1,e1,h1,-,h3⟩:=(rd.ts hv).1
  obtain ⟨s2,r2,e2,h2⟩:=Z2g (ps:=ps) (cl:=[41]) (r:=rest) (by decide)
  have hx:=rdV rd hd (m:=1) hv (Nat.le_refl 1) (by rw [hat,e2]) h2 (a:=a)
  obtain ⟨β,j1,hc,hat2,ej⟩:=Z2f (d:=d) (a:=a) (j0:=i+1+tl p) (by decide) (Zd hat)
  have hat':ts.drop (i+1)=tk k s::(r1++Z39 ps (tk [111,112] [41]::rest)):=by rw [hat,e1];rfl
  have hcol:∃k2 s2,ts[i+1+1]? =some (tk k2 s2)∧(k2==[111,112]&&s2==[58])=false:=by
   obtain ⟨k2,s2',r3,e3,hn⟩:=h3 _ (e2▸Za3 h2)
   have:=Zk hat'
   rw [e3] at this
   exact ⟨k2,s2',Z5 this,hn⟩
  refine Z7a ne (Z5 hat0) (by decide) (Zae ne (c63t a (Z5 hat0) d) (Z5 hat') (fun _=>hcol) hx hc (by lia)) ?_
  have:=ih hat2 (by rw [List.length_append];show acc.length+1+r.length≤SL;lia) (acc:=acc++[.tup [v,.bool true,.none]])
  rwa [show j1+tl (Z2 ps)+1=i+tl (Z2 ((.op [46,46,46]::p)::ps))+1 by rw [ZF,show tl (.op [46,46,46]::p)=tl p+1 from rfl];lia] at this
 | @named v L p r ps hv _ ih=>
  intro i acc hat hl
  have hl:acc.length+(r.length+1)≤SL:=hl
  rw [Zo] at hat
  have hat0:ts.drop i=tk [119,111,114,100] [110,97,109,101]::tk [111,112] [58]::(toks p++Z39 ps (tk [111,112] [41]::rest)):=hat
  have hat:=Zk (Zk hat0)
  obtain ⟨s2,r2,e2,h2⟩:=Z2g (ps:=ps) (cl:=[41]) (r:=rest) (by decide)
  have hx:=rdV rd hd (m:=1) hv (Nat.le_refl 1) (by rw [hat,e2]) h2 (a:=a)
  obtain ⟨β,j1,hc,hat2,ej⟩:=Z2f (d:=d) (a:=a) (j0:=i+1+1+tl p) (by decide) (Zd hat)
  refine Z7a ne (Z5 hat0) (by decide) (Zaf ne (Z5 hat0) (Z5 (Zk hat0)) hx hc (by lia)) ?_
  have:=ih hat2 (by rw [List.length_append];show acc.length+1+r.length≤SL;lia) (acc:=acc++[.tup [v,.bool false,.str [110,97,109,101]]])
  rwa [show j1+tl (Z2 ps)+1=i+tl (Z2 ((.word [110,97,109,101]:: .op [58]:: .sp::p)::ps))+1 by rw [ZF,show tl (.word [110,97,109,101]:: .op [58]:: .sp::p)=tl p+2 from rfl];lia] at this
theorem Z5F {as ps rest i} (h:Args R as ps) (hl:as.length≤SL) (hat:ts.drop i=toks (argText ps)++rest):tkB ts i [40]∧A71 (d+3) a ts (i+1) as (i+tl (argText ps))∧ts.drop (i+tl (argText ps))=rest:=by
 have hat':ts.drop i=tk [111,112] [40]::(toks (Z2 ps)++tk [111,112] [41]::rest):=by
  rw [hat];show tk [111,112] [40]::(toks (Z2 ps++[.op [41]])++rest)=_
  rw [Z1,List.append_assoc];rfl
 have e:tl (argText ps)=tl (Z2 ps)+2:=by
  show (tk [111,112] [40]::toks (Z2 ps++[.op [41]])).length=_
  rw [Z1,List.length_cons,List.length_append];rfl
 refine ⟨Z5 hat',?_,Zd hat⟩
 rw [e,show i+(tl (Z2 ps)+2)=i+1+tl (Z2 ps)+1 by lia]
 exact c71 fun b ne=>Zeh rd hd ne h (Zk hat') (by simpa using hl)
theorem Z5H {as ps} (h:Raws R as ps):∃us,Args R us ps∧Z62 us as∧us.length=as.length:=by
 induction h with
 |nil=>exact ⟨[],.nil,.nil,rfl⟩
 | @cons v L p r ps hv _ ih=>
  obtain ⟨us,h1,h2,h3⟩:=ih
  exact ⟨.tup [v,.bool false,.none]::us,.val hv h1,.cons ⟨_,rfl⟩ h2,congrArg Nat.succ h3⟩
end
end Mine
namespace Mine
theorem H5:∀L,5≤L→L≤21→okM 1 L=true∧foB L [111,112] [61,62]=true:=by
 have:∀L∈List.range 22,5≤L→okM 1 L=true∧foB L [111,112] [61,62]=true:=by decide+kernel
 exact fun L h1 h2=>this L (List.mem_range.2 (by lia)) h1
theorem Z0x {ts:List MV} {j0:Nat} {ps:List (List Pc)} {X:List MV} (hX:ps=[]→∃r,X=tk [111,112] [93]::r) (hat:ts.drop j0=Z39 ps X):
  ∃j1,Zbx ts j0 j1∧ts.drop j1=toks (Z2 ps)++X∧j1+tl (Z2 ps)=j0+sl ps:=by
 cases ps with
 |nil=>
  obtain ⟨r,rfl⟩:=hX rfl
  exact ⟨j0,.inl ⟨Z5 hat,rfl⟩,hat,rfl⟩
 |cons q ps=>exact ⟨j0+1,.inr ⟨Z5 hat,rfl⟩,Zk hat,by show j0+1+_=j0+(1+_);lia⟩
theorem Z1q {ps:List (List Pc)} {X:List MV} (hX:ps=[]→∃r,X=tk [111,112] [93]::r):∃s r',Z39 ps X=tk [111,112] s::r'∧Z2i [111,112] s=true:=by
 cases ps with
 |nil=>obtain ⟨r,rfl⟩:=hX rfl;exact ⟨[93],r,rfl,by decide⟩
 |cons q ps=>exact ⟨[44],_,rfl,by decide⟩
theorem Z5j {ts:List MV} {i:Nat} {pk p:List Pc} {X:List MV} (hat:ts.drop i=toks (pk++[.sp,.op [61,62],.sp]++p)++X):ts.drop i=toks pk++tk [111,112] [61,62]::(toks p++X):=by
 rw [hat,Z1,Z1,List.append_assoc,List.append_assoc];rfl
theorem Z6g {ts:List MV} {i:Nat} {pk p:List Pc} {X:List MV} (hat:ts.drop i=toks (pk++[.sp,.op [61,62],.sp,.op [38]]++p)++X):ts.drop i=toks pk++tk [111,112] [61,62]::tk [111,112] [38]::(toks p++X):=by
 rw [hat,Z1,Z1,List.append_assoc,List.append_assoc];rfl
theorem Z4M (pk p:List Pc):tl (pk++[.sp,.op [61,62],.sp]++p)=tl pk+1+tl p:=by
 show (toks _).length=_
 rw [Z1,Z1,List.length_append,List.length_append];rfl
theorem Z5w (pk p:List Pc):tl (pk++[.sp,.op [61,62],.sp,.op [38]]++p)=tl pk+2+tl p:=by
 show (toks _).length=_
 rw [Z1,Z1,List.length_append,List.length_append];rfl
noncomputable def Zce (dg:Nat) (x v:MV):Prop:=(x=v∧∃t r,v=tn t r∧(t==[97,114,114,97,121])=false)∨(∃r,x=tn [97,114,114,97,121] r∧Pct (Z3 FT dg) 69 [x] v)
theorem Z1e {dg:Nat} {x v k s z:MV} (h:Zce dg x v):Goal dg (.tup [k,x,s,z]) (.tup [k,v,s]):=by
 rcases h with ⟨rfl,t,r,rfl,h⟩|⟨r,rfl,h⟩
 ·exact .plain h
 ·exact .deep h
noncomputable def GR (D:Nat) (dg:Nat) (a:Addr) (ts:List MV) (G:MV→List Pc→Prop):Prop:=∀v p,G v p→(∃k s r,toks p=tk k s::r∧stT k s=true)∧∃x,Zce dg x v∧∀i s r',ts.drop i=toks p++tk [111,112] s::r'→Z2i [111,112] s=true→E66 (D+6) a ts 1 i x (i+tl p)
noncomputable def Tl (as:List MV) (X:List MV):List MV:=(if lastNone as then [tk [111,112] [44]] else [])++tk [111,112] [93]::X
noncomputable def eN (as:List MV):Nat:=if lastNone as then 1 else 0
theorem Z0F {u v:MV} {r:List MV}:lastNone (u::v::r)=lastNone (v::r):=by
 unfold lastNone;rw [List.getLast?_cons_cons]
section
variable {R:Z0c} {D:Nat} (rd:Rd R D) {d:Nat} (hd:D≤d) {a:Addr} {ts:List MV}
include rd hd
theorem ZcD {v:MV} {L p s r i} (h:R v L p) (hat:ts.drop i=toks p++tk [111,112] s::r) (hc:Z2i [111,112] s=true):E66 (d+6) a ts 1 i v (i+tl p):=Z0a (rdV rd hd h (Nat.le_refl 1) hat hc) (by lia)
theorem Z94 {k:MV} {pk r i} (h:Par R k 5 pk) (hat:ts.drop i=toks pk++tk [111,112] [61,62]::r):E66 (d+6) a ts 1 i k (i+tl pk):=Z4v rd hd h (by decide) H5 (by decide+kernel) hat
theorem ZcF {b:Addr} (ne:a≠b) {as ps rest} (h:Items R as ps):∀{i acc},ts.drop i=toks (Z2 ps)++tk [111,112] [93]::rest→acc.length+as.length≤SL→IL (d+6) a b ts i acc as (i+tl (Z2 ps)+1):=by
 have hX:∀ps:List (List Pc),ps=[]→∃r,tk [111,112] [93]::rest=tk [111,112] [93]::r:=fun _ _=>⟨rest,rfl⟩
 have tsp:∀{k pk},Par R k 5 pk→TS 0 pk:=fun h=>ZZ (fun v L p h=>rd.ts h) h
 induction h with
 |nil=>intro i acc hat _;exact Zcd ne (Z5 hat)
 | @val v L p r ps hv _ ih=>
  intro i acc hat hl
  have hl:acc.length+(r.length+1)≤SL:=hl
  rw [Zo] at hat
  obtain ⟨k,s,r1,e1,h1,-,-⟩:=(rd.ts hv).1
  obtain ⟨s2,r2,e2,h2⟩:=Z1q (hX ps)
  have hx:=ZcD rd hd hv (by rw [hat,e2]) h2 (a:=a)
  obtain ⟨j1,hc,hat2,ej⟩:=Z0x (j0:=i+tl p) (hX ps) (Zd hat)
  have hat':ts[i]? =some (tk k s):=Z5 (r:=r1++Z39 ps (tk [111,112] [93]::rest)) (by rw [hat,e1];rfl)
  refine Z1f ne hat' (Z05 h1 (by decide)) (Z9I (k3:=[]) (s3:=[]) ne hat' (Z05 h1 (by decide)) (Z05 h1 (by decide)) (c63f a hat' (Z05 h1 (by decide)) (d+4)) hx hc (by lia)) ?_
  have:=ih hat2 (by rw [List.length_append];show acc.length+1+r.length≤SL;lia) (acc:=acc++[.tup [.none,v,.bool false,.bool false]])
  rwa [show j1+tl (Z2 ps)+1=i+tl (Z2 (p::ps))+1 by rw [ZF];lia] at this
 | @key k v pk L p r ps hk hv _ ih=>
  intro i acc hat hl
  have hl:acc.length+(r.length+1)≤SL:=hl
  rw [Zo] at hat
  obtain ⟨k',s,r1,e1,h1,-,-⟩:=tsp hk
  obtain ⟨k2',s2',r2',e2',h2',-,-⟩:=(rd.ts hv).1
  obtain ⟨s2,r2,e2,h2⟩:=Z1q (hX ps)
  have hat0:=Z5j hat
  have hat1:=Zd hat0
  have hat3:=Zk hat1
  have hx:=ZcD rd hd hv (by rw [hat3,e2]) h2 (a:=a)
  obtain ⟨j1,hc,hat2,ej⟩:=Z0x (j0:=i+tl pk+1+tl p) (hX ps) (Zd hat3)
  have hat':ts[i]? =some (tk k' s):=Z5 (r:=r1++tk [111,112] [61,62]::(toks p++Z39 ps (tk [111,112] [93]::rest))) (by rw [hat0,e1];rfl)
  have hat'':ts[i+tl pk+1]? =some (tk k2' s2'):=Z5 (r:=r2'++Z39 ps (tk [111,112] [93]::rest)) (by rw [hat3,e2'];rfl)
  refine Z1f ne hat' (Z05 h1 (by decide)) (Z7x ne hat' (Z05 h1 (by decide)) (Z05 h1 (by decide)) (Z05 h1 (by decide)) (Z94 rd hd hk hat0) (Z5 hat1) (c63f a hat'' (Z05 h2' (by decide)) (d+4)) hx hc (by lia)) ?_
  have:=ih hat2 (by rw [List.length_append];show acc.length+1+r.length≤SL;lia) (acc:=acc++[.tup [k,v,.bool false,.bool false]])
  rwa [show j1+tl (Z2 ps)+1=i+tl (Z2 ((pk++[.sp,.op [61,62],.sp]++p)::ps))+1 by rw [ZF,Z4M];lia] at this
 | @keyref k v pk L p r ps hk hv _ ih=>
  intro i acc hat hl
  have hl:acc.length+(r.length+1)≤SL:=hl
  rw [Zo] at hat
  obtain ⟨k',s,r1,e1,h1,-,-⟩:=tsp hk
  obtain ⟨s2,r2,e2,h2⟩:=Z1q (hX ps)
  have hat0:=Z6g hat
  have hat1:=Zd hat0
  have hat3:=Zk (Zk hat1)
  have hx:=ZcD rd hd hv (by rw [hat3,e2]) h2 (a:=a)
  obtain ⟨j1,hc,hat2,ej⟩:=Z0x (j0:=i+tl pk+1+1+tl p) (hX ps) (Zd hat3)
  have hat':ts[i]? =some (tk k' s):=Z5 (r:=r1++tk [111,112] [61,62]::tk [111,112] [38]::(toks p++Z39 ps (tk [111,112] [93]::rest))) (by rw [hat0,e1];rfl)
  refine Z1f ne hat' (Z05 h1 (by decide)) (Z7x ne hat' (Z05 h1 (by decide)) (Z05 h1 (by decide)) (Z05 h1 (by decide)) (Z94 rd hd hk hat0) (Z5 hat1) (c63t a (Z5 (Zk hat1)) (d+4)) hx hc (by lia)) ?_
  have:=ih hat2 (by rw [List.length_append];show acc.length+1+r.length≤SL;lia) (acc:=acc++[.tup [k,v,.bool true,.bool false]])
  rwa [show j1+tl (Z2 ps)+1=i+tl (Z2 ((pk++[.sp,.op [61,62],.sp,.op [38]]++p)::ps))+1 by rw [ZF,Z5w];lia] at this
 | @spread v L p r ps hv _ ih=>
  intro i acc hat hl
  have hl:acc.length+(r.length+1)≤SL:=hl
  rw [Zo] at hat
  have hat0:ts.drop i=tk [111,112] [46,46,46]::(toks p++Z39 ps (tk [111,112] [93]::rest)):=hat
  have hat:=Zk hat0
  obtain ⟨s2,r2,e2,h2⟩:=Z1q (hX ps)
  have hx:=ZcD rd hd hv (by rw [hat,e2]) h2 (a:=a)
  obtain ⟨j1,hc,hat2,ej⟩:=Z0x (j0:=i+1+tl p) (hX ps) (Zd hat)
  refine Z1f ne (Z5 hat0) (by decide) (Z9J ne (Z5 hat0) hx hc (by lia)) ?_
  have:=ih hat2 (by rw [List.length_append];show acc.length+1+r.length≤SL;lia) (acc:=acc++[.tup [.none,v,.bool false,.bool true]])
  rwa [show j1+tl (Z2 ps)+1=i+tl (Z2 ((.op [46,46,46]::p)::ps))+1 by rw [ZF,show tl (.op [46,46,46]::p)=tl p+1 from rfl];lia] at this
end
end Mine
namespace Mine
section
variable {R:Z0c} {D:Nat} (rd:Rd R D) {d:Nat} (hd:D≤d) {a:Addr} {ts:List MV}
include rd hd
theorem Zee {G:MV→List Pc→Prop} {dg:Nat} (hG:GR d dg a ts G) {as ps} (h:Pats R G as ps):
  ∃xs,All2 (Goal dg) xs as∧∀{b:Addr},a≠b→∀{rest i acc},ts.drop i=toks (Z2 ps)++Tl as rest→acc.length+as.length≤SL→IL (d+6) a b ts i acc xs (i+tl (Z2 ps)+eN as+1):=by
 have tsp:∀{k pk},Par R k 5 pk→TS 0 pk:=fun h=>ZZ (fun v L p h=>rd.ts h) h
 have hX:∀{rest r:List MV} {ps:List (List Pc)},r.length=ps.length→ps=[]→∃r',Tl r rest=tk [111,112] [93]::r':=by
  intro rest r ps hl hp
  subst hp
  obtain rfl:=List.length_eq_zero_iff.1 hl
  exact ⟨rest,rfl⟩
 have tail:∀{rest:List MV} {u:MV} {r:List MV} {ps:List (List Pc)},r.length=ps.length→u≠ .none→Z39 ps (Tl (u::r) rest)=Z39 ps (Tl r rest)∧eN (u::r)=eN r:=by
  intro rest u r ps hl hu
  cases r with
  |nil=>
   have e:lastNone [u]=false:=by unfold lastNone;cases u<;>first|rfl|exact absurd rfl hu
   exact ⟨by unfold Tl;rw [e];rfl,by unfold eN;rw [e];rfl⟩
  |cons w r=>exact ⟨by unfold Tl;rw [Z0F],by unfold eN;rw [Z0F]⟩
 induction h with
 |nil=>exact ⟨[],.nil,fun ne _ _ _ hat _=>Zcd ne (Z5 hat)⟩
 | @gap r ps hps ih=>
  obtain ⟨xs,hxs,ih⟩:=ih
  refine ⟨.none::xs,.cons .gap hxs,?_⟩
  intro b ne rest i acc hat hl
  have hl:acc.length+(r.length+1)≤SL:=hl
  have hlen:=ZP hps
  have hat0:ts.drop i=tk [111,112] [44]::(toks (Z2 ps)++Tl r rest)∧tl (Z2 ([]::ps))+eN (.none::r)=1+tl (Z2 ps)+eN r:=by
   cases ps with
   |nil=>
    obtain rfl:=List.length_eq_zero_iff.1 hlen
    exact ⟨hat,rfl⟩
   |cons q ps=>
    cases r with
    |nil=>cases hlen
    |cons w r=>
     refine ⟨?_,?_⟩
     ·rw [hat,Zo];unfold Tl;rw [Z0F];rfl
     ·rw [ZF];unfold eN;rw [Z0F];show 0+(1+_)+_=_;lia
  have:=ih ne (Zk hat0.1) (by rw [List.length_append];show acc.length+1+r.length≤SL;lia) (acc:=acc++[.none])
  refine Z1f ne (Z5 hat0.1) (by decide) (ZeY ne (Z5 hat0.1) (by lia)) ?_
  rwa [show i+1+tl (Z2 ps)+eN r+1=i+tl (Z2 ([]::ps))+eN (.none::r)+1 by have:=hat0.2;lia] at this
 | @val v p r ps hv hps ih=>
  obtain ⟨xs,hxs,ih⟩:=ih
  obtain ⟨⟨k,s,r1,e1,h1⟩,x,hcp,hrd⟩:=hG v p hv
  refine ⟨.tup [.none,x,.bool false,.bool false]::xs,.cons (Z1e hcp) hxs,?_⟩
  intro b ne rest i acc hat hl
  have hl:acc.length+(r.length+1)≤SL:=hl
  obtain ⟨t1,t2⟩:=tail (rest:=rest) (u:=.tup [.none,v,.bool false]) (ZP hps) (by intro h;cases h)
  rw [Zo,t1] at hat
  obtain ⟨s2,r2,e2,h2⟩:=Z1q (hX (rest:=rest) (ZP hps))
  have hx:=hrd i s2 r2 (by rw [hat,e2]) h2
  obtain ⟨j1,hc,hat2,ej⟩:=Z0x (j0:=i+tl p) (hX (ZP hps)) (Zd hat)
  have hat':ts[i]? =some (tk k s):=Z5 (r:=r1++Z39 ps (Tl r rest)) (by rw [hat,e1];rfl)
  refine Z1f ne hat' (Z05 h1 (by decide)) (Z9I (k3:=[]) (s3:=[]) ne hat' (Z05 h1 (by decide)) (Z05 h1 (by decide)) (c63f a hat' (Z05 h1 (by decide)) (d+4)) hx hc (by lia)) ?_
  have:=ih ne hat2 (by rw [List.length_append];show acc.length+1+r.length≤SL;lia) (acc:=acc++[.tup [.none,x,.bool false,.bool false]])
  rwa [show j1+tl (Z2 ps)+eN r+1=i+tl (Z2 (p::ps))+eN (.tup [.none,v,.bool false]::r)+1 by rw [ZF,t2];lia] at this
 | @ref v p r ps hv hps ih=>
  obtain ⟨xs,hxs,ih⟩:=ih
  obtain ⟨⟨k,s,r1,e1,h1⟩,x,hcp,hrd⟩:=hG v p hv
  refine ⟨.tup [.none,x,.bool true,.bool false]::xs,.cons (Z1e hcp) hxs,?_⟩
  intro b ne rest i acc hat hl
  have hl:acc.length+(r.length+1)≤SL:=hl
  obtain ⟨t1,t2⟩:=tail (rest:=rest) (u:=.tup [.none,v,.bool true]) (ZP hps) (by intro h;cases h)
  rw [Zo,t1] at hat
  have hat0:ts.drop i=tk [111,112] [38]::(toks p++Z39 ps (Tl r rest)):=hat
  have hat:=Zk hat0
  obtain ⟨s2,r2,e2,h2⟩:=Z1q (hX (rest:=rest) (ZP hps))
  have hx:=hrd (i+1) s2 r2 (by rw [hat,e2]) h2
  obtain ⟨j1,hc,hat2,ej⟩:=Z0x (j0:=i+1+tl p) (hX (ZP hps)) (Zd hat)
  refine Z1f ne (Z5 hat0) (by decide) (Z9I (k3:=[]) (s3:=[]) ne (Z5 hat0) (by decide) (by decide) (c63t a (Z5 hat0) (d+4)) hx hc (by lia)) ?_
  have:=ih ne hat2 (by rw [List.length_append];show acc.length+1+r.length≤SL;lia) (acc:=acc++[.tup [.none,x,.bool true,.bool false]])
  rwa [show j1+tl (Z2 ps)+eN r+1=i+tl (Z2 ((.op [38]::p)::ps))+eN (.tup [.none,v,.bool true]::r)+1 by rw [ZF,t2,show tl (.op [38]::p)=tl p+1 from rfl];lia] at this
 | @key k v pk p r ps hk hv hps ih=>
  obtain ⟨xs,hxs,ih⟩:=ih
  obtain ⟨⟨k2',s2',r2',e2',h2'⟩,x,hcp,hrd⟩:=hG v p hv
  refine ⟨.tup [k,x,.bool false,.bool false]::xs,.cons (Z1e hcp) hxs,?_⟩
  intro b ne rest i acc hat hl
  have hl:acc.length+(r.length+1)≤SL:=hl
  obtain ⟨t1,t2⟩:=tail (rest:=rest) (u:=.tup [k,v,.bool false]) (ZP hps) (by intro h;cases h)
  rw [Zo,t1] at hat
  obtain ⟨k',s,r1,e1,h1,-,-⟩:=tsp hk
  obtain ⟨s2,r2,e2,h2⟩:=Z1q (hX (rest:=rest) (ZP hps))
  have hat0:=Z5j hat
  have hat1:=Zd hat0
  have hat3:=Zk hat1
  have hx:=hrd _ s2 r2 (by rw [hat3,e2]) h2
  obtain ⟨j1,hc,hat2,ej⟩:=Z0x (j0:=i+tl pk+1+tl p) (hX (ZP hps)) (Zd hat3)
  have hat':ts[i]? =some (tk k' s):=Z5 (r:=r1++tk [111,112] [61,62]::(toks p++Z39 ps (Tl r rest))) (by rw [hat0,e1];rfl)
  have hat'':ts[i+tl pk+1]? =some (tk k2' s2'):=Z5 (r:=r2'++Z39 ps (Tl r rest)) (by rw [hat3,e2'];rfl)
  refine Z1f ne hat' (Z05 h1 (by decide)) (Z7x ne hat' (Z05 h1 (by decide)) (Z05 h1 (by decide)) (Z05 h1 (by decide)) (Z94 rd hd hk hat0) (Z5 hat1) (c63f a hat'' (Z05 h2' (by decide)) (d+4)) hx hc (by lia)) ?_
  have:=ih ne hat2 (by rw [List.length_append];show acc.length+1+r.length≤SL;lia) (acc:=acc++[.tup [k,x,.bool false,.bool false]])
  rwa [show j1+tl (Z2 ps)+eN r+1=i+tl (Z2 ((pk++[.sp,.op [61,62],.sp]++p)::ps))+eN (.tup [k,v,.bool false]::r)+1 by rw [ZF,t2,Z4M];lia] at this
 | @keyref k v pk p r ps hk hv hps ih=>
  obtain ⟨xs,hxs,ih⟩:=ih
  obtain ⟨-,x,hcp,hrd⟩:=hG v p hv
  refine ⟨.tup [k,x,.bool true,.bool false]::xs,.cons (Z1e hcp) hxs,?_⟩
  intro b ne rest i acc hat hl
  have hl:acc.length+(r.length+1)≤SL:=hl
  obtain ⟨t1,t2⟩:=tail (rest:=rest) (u:=.tup [k,v,.bool true]) (ZP hps) (by intro h;cases h)
  rw [Zo,t1] at hat
  obtain ⟨k',s,r1,e1,h1,-,-⟩:=tsp hk
  obtain ⟨s2,r2,e2,h2⟩:=Z1q (hX (rest:=rest) (ZP hps))
  have hat0:=Z6g hat
  have hat1:=Zd hat0
  have hat3:=Zk (Zk hat1)
  have hx:=hrd _ s2 r2 (by rw [hat3,e2]) h2
  obtain ⟨j1,hc,hat2,ej⟩:=Z0x (j0:=i+tl pk+1+1+tl p) (hX (ZP hps)) (Zd hat3)
  have hat':ts[i]? =some (tk k' s):=Z5 (r:=r1++tk [111,112] [61,62]::tk [111,112] [38]::(toks p++Z39 ps (Tl r rest))) (by rw [hat0,e1];rfl)
  refine Z1f ne hat' (Z05 h1 (by decide)) (Z7x ne hat' (Z05 h1 (by decide)) (Z05 h1 (by decide)) (Z05 h1 (by decide)) (Z94 rd hd hk hat0) (Z5 hat1) (c63t a (Z5 (Zk hat1)) (d+4)) hx hc (by lia)) ?_
  have:=ih ne hat2 (by rw [List.length_append];show acc.length+1+r.length≤SL;lia) (acc:=acc++[.tup [k,x,.bool true,.bool false]])
  rwa [show j1+tl (Z2 ps)+eN r+1=i+tl (Z2 ((pk++[.sp,.op [61,62],.sp,.op [38]]++p)::ps))+eN (.tup [k,v,.bool true]::r)+1 by rw [ZF,t2,Z5w];lia] at this
theorem Zef {G:MV→List Pc→Prop} {dg:Nat} (hG:GR d dg a ts G) {v p} (h:Z76 R G v p) (hl:(spell p).length≤1000000):
  ∃xs,Pct (Z3 FT (dg+1)) 69 [tn [97,114,114,97,121] [.tup xs]] v∧∀{k s r i},ts.drop i=toks p++tk k s::r→isPost k s=false→O74 (d+9) a ts i (tn [97,114,114,97,121] [.tup xs]) (i+tl p):=by
 obtain ⟨as,ps,rfl,h,hne,rfl⟩:=h
 have hlen:as.length≤1000000:=by
  rw [Z8,Z0,Z0,List.length_append,List.length_append,List.length_append] at hl
  have:=ZR ps
  have h1:(spell [Pc.op [93]]).length=1:=rfl
  have:=ZP h;lia
 obtain ⟨xs,hxs,hrd⟩:=Zee rd hd hG h
 refine ⟨xs,c69 hxs (by rw [hxs.len];unfold SL;lia),?_⟩
 intro k s r i hat hp
 have hat':ts.drop i=tk [111,112] [91]::(toks (Z2 ps)++Tl as (tk k s::r)):=by
  rw [hat]
  show tk [111,112] [91]::(toks (Z2 ps++(if lastNone as then [.op [44]] else [])++[.op [93]])++tk k s::r)=_
  unfold Tl
  rw [Z1,Z1,List.append_assoc,List.append_assoc]
  cases lastNone as<;>rfl
 have e:tl (.op [91]::(Z2 ps++(if lastNone as then [.op [44]] else [])++[.op [93]]))=tl (Z2 ps)+eN as+2:=by
  show (tk [111,112] [91]::toks (Z2 ps++(if lastNone as then [.op [44]] else [])++[.op [93]])).length=_
  rw [Z1,Z1,List.length_cons,List.length_append,List.length_append]
  unfold eN
  cases lastNone as<;>rfl
 have h70:=c70 (d:=d+6) (a:=a) (ts:=ts) (i:=i+1) (as:=xs) fun b ne=>hrd ne (Zk hat') (acc:=[]) (by show 0+as.length≤SL;unfold SL;lia)
 have hq:=Zel (d:=d+6) (Z5 hat') h70
 have hn:=Z5 (Zd hat)
 rw [e,show i+(tl (Z2 ps)+eN as+2)=i+1+tl (Z2 ps)+eN as+1 by lia]
 have e3:i+(toks (.op [91]::(Z2 ps++(if lastNone as then [.op [44]] else [])++[.op [93]]))).length=i+1+tl (Z2 ps)+eN as+1:=by
  have:(toks (.op [91]::(Z2 ps++(if lastNone as then [.op [44]] else [])++[.op [93]]))).length=tl (Z2 ps)+eN as+2:=e
  rw [this];lia
 rw [e3] at hn
 exact Z7X (Z5 hat') (by decide) hq (Z2o (d:=d+6) hn hp)
end
end Mine
namespace Mine
theorem Zgp {k s:List Nat} (h:stT k s=true):(k==[119,111,114,100]&&s==[100,101,102,97,117,108,116])=false:=by
 unfold stT at h
 cases hk:(k==[111,112]) with
 |true=>rw [eq_of_beq hk];rfl
 |false=>
  rw [hk,if_neg (by decide)] at h
  have:=(Bool.and_eq_true_iff.1 h).2
  revert this;cases (k==[119,111,114,100]&&s==[100,101,102,97,117,108,116])<;>simp
theorem ZhJ (L:Nat):okM 1 L=true:=by
 unfold okM;rw [decide_eq_true (Nat.le_max_right L 1)];rfl
section
variable {R:Z0c} {D:Nat} (rd:Rd R D) {d:Nat} (hd:D≤d) {a:Addr} {ts:List MV}
include rd hd
theorem Z7A (dg:Nat):GR d dg a ts (Z0z R):=by
 intro v p h
 obtain ⟨k,s,r,e,h1,-,-⟩:=Z0U (fun v L p h=>rd.ts h) h
 refine ⟨⟨k,s,r,e,h1⟩,v,.inl ⟨rfl,?_⟩,?_⟩
 ·obtain ⟨hp,L,h⟩:=h
  obtain ⟨t,f,r,-,rfl⟩:=rd.shp h
  refine ⟨t,r,rfl,?_⟩
  have hp:[[118,97,114],[100,105,109],[112,114,111,112]].contains t=true:=hp
  cases ht:(t==[97,114,114,97,121]) with
  |false=>rfl
  |true=>rw [eq_of_beq ht] at hp;exact absurd hp (by decide)
 ·obtain ⟨hp,L,h⟩:=h
  exact fun i s r' hat hc=>ZcD rd hd h hat hc
theorem Zd9:GR (d+5) 1 a ts (fun v p=>Z0z R v p∨(ZdL R v p∧Sm p)):=by
 rintro v p (h|⟨h,hs⟩)
 ·exact Z7A rd (Nat.le_add_right_of_le hd) 1 v p h
 ·have hfirst:∃r,toks p=tk [111,112] [91]::r:=by obtain ⟨_,ps,_,_,_,rfl⟩:=h;exact ⟨_,rfl⟩
  obtain ⟨r,e⟩:=hfirst
  refine ⟨⟨[111,112],[91],r,e,by decide⟩,?_⟩
  obtain ⟨xs,hg,ho⟩:=Zef rd hd (Z7A rd hd 0 (a:=a) (ts:=ts)) h hs.1
  refine ⟨tn [97,114,114,97,121] [.tup xs],.inr ⟨[.tup xs],rfl,hg⟩,fun i s r' hat hc=>?_⟩
  have h1:=Z7O hc
  have hn:=Z5 (Zd hat)
  have hat':ts.drop i=tk [111,112] [91]::(r++tk [111,112] s::r'):=by rw [hat,e];rfl
  exact Z6j (Zaq (d:=d+8) (Z5 hat') (by decide) (ho hat h1.2.1) hn h1.2.2.1) (Z7Z (d:=d+9) hn (by rw [h1.1];decide))
theorem ZcE {b c:Addr} (ne:a≠c) {V:MV} {as tp X} (h:Tests R as tp):∀{i acc},ts.drop i=toks (Z2 tp)++tk [111,112] [61,62]::X→acc.length+as.length≤SL→TLp (d+6) a b c ts V i acc as (i+tl (Z2 tp)+1):=by
 have tsp:∀{k pk},Par R k 5 pk→TS 0 pk:=fun h=>ZZ (fun v L p h=>rd.ts h) h
 induction h with
 | @one v p hv=>
  intro i acc hat hl
  have hl:acc.length+1≤SL:=hl
  obtain ⟨k,s,r1,e1,h1,-,-⟩:=tsp hv
  have hat0:ts.drop i=toks p++tk [111,112] [61,62]::X:=hat
  have hat':ts[i]? =some (tk k s):=Z5 (r:=r1++tk [111,112] [61,62]::X) (by rw [hat0,e1];rfl)
  have hn:=Z5 (Zd hat0)
  exact Zag ne hat' (Z05 h1 (by decide)) (Z94 rd hd hv hat0) (c63f a hn (by decide) (d+4)) (by lia) (Zc9 ne hn)
 | @cons v p r ps hv hr ih=>
  intro i acc hat hl
  have hl:acc.length+(r.length+1)≤SL:=hl
  obtain ⟨q,qs,rfl⟩:∃q qs,ps=q::qs:=by cases hr<;>exact ⟨_,_,rfl⟩
  obtain ⟨k,s,r1,e1,h1,-,-⟩:=tsp hv
  rw [Zo] at hat
  have hat0:ts.drop i=toks p++tk [111,112] [44]::(toks (Z2 (q::qs))++tk [111,112] [61,62]::X):=hat
  have hat':ts[i]? =some (tk k s):=Z5 (r:=r1++tk [111,112] [44]::(toks (Z2 (q::qs))++tk [111,112] [61,62]::X)) (by rw [hat0,e1];rfl)
  have hn:=Zd hat0
  have hx:=Z4v rd hd hv (m:=1) (by decide) (fun L _ _=>⟨ZhJ L,Z9P (by decide) L⟩) (by decide+kernel) hat0 (a:=a)
  refine Zag ne hat' (Z05 h1 (by decide)) hx (c63t a (Z5 hn) (d+4)) (by lia) ?_
  have:=ih (Zk hn) (by rw [List.length_append];show acc.length+1+r.length≤SL;lia) (acc:=acc++[v])
  rwa [show i+(toks p).length+1+tl (Z2 (q::qs))+1=i+tl (Z2 (p::q::qs))+1 by rw [ZF p (q::qs)];show _=i+((toks p).length+(1+tl (Z2 (q::qs))))+1;lia] at this
theorem Zax {as tp} (h:Tests R as tp):as.isEmpty=false:=by cases h<;>rfl
theorem Zeg {b:Addr} (ne:a≠b) {V:MV} {as ps rest} (h:Arms R as ps):∀{i acc},ts.drop i=toks (Z2 ps)++tk [111,112] [125]::rest→acc.length+as.length≤SL→(∀u∈as,∀x xs,u=.tup (.tup xs::x)→xs.length≤SL)→ArmCh (d+6) a b ts V as.length i acc (acc++as) (i+tl (Z2 ps)+1):=by
 induction h with
 |nil=>intro i acc hat _ _;rw [List.append_nil];exact .nil (Z5 hat)
 | @arm tv tp v L p r ps ht hv _ ih=>
  intro i acc hat hl hsz
  have hl:acc.length+(r.length+1)≤SL:=hl
  rw [Zo] at hat
  have hat0:=Z5j hat
  obtain ⟨k,s,r1,e1,h1⟩:∃k s r1,toks (Z2 tp)=tk k s::r1∧stT k s=true:=by
   cases ht with
   |one hv=>obtain ⟨k,s,r1,e1,h1,-,-⟩:=ZZ (fun v L p h=>rd.ts h) hv;exact ⟨k,s,r1,e1,h1⟩
   | @cons v p r ps hv _=>
    obtain ⟨k,s,r1,e1,h1,-,-⟩:=ZZ (fun v L p h=>rd.ts h) hv
    have:=Zo p ps []
    rw [List.append_nil] at this
    exact ⟨k,s,r1++Z39 ps [],by rw [this,e1];rfl,h1⟩
  have hat':ts[i]? =some (tk k s):=Z5 (r:=r1++tk [111,112] [61,62]::(toks p++Z39 ps (tk [111,112] [125]::rest))) (by rw [hat0,e1];rfl)
  obtain ⟨s2,r2,e2,h2⟩:=Z2g (ps:=ps) (cl:=[125]) (r:=rest) (by decide)
  have hat3:=Zk (Zd hat0)
  have hx:=ZcD rd hd hv (by rw [hat3,e2]) h2 (a:=a)
  obtain ⟨β,j1,hc,hat2,ej⟩:=Z2f (d:=d+4) (a:=a) (j0:=i+tl (Z2 tp)+1+tl p) (by decide) (Zd hat3)
  have htl:tv.length≤SL:=hsz _ (List.mem_cons_self ..) [v] tv rfl
  refine .cons hat' (Z05 h1 (by decide)) (Zc8 ne hat' (Zgp h1) rfl (fun c nc=>ZcE rd hd nc ht hat0 (acc:=[]) (by show 0+tv.length≤SL;lia)) (by rw [Zax rd hd ht]) hx hc (by lia)) ?_
  have:=ih hat2 (by rw [List.length_append];show acc.length+1+r.length≤SL;lia) (fun u hu=>hsz u (List.mem_cons_of_mem _ hu)) (acc:=acc++[.tup [.tup tv,v]])
  rw [List.append_assoc] at this
  rwa [show j1+tl (Z2 ps)+1=i+tl (Z2 ((Z2 tp++[.sp,.op [61,62],.sp]++p)::ps))+1 by rw [ZF,Z4M];lia] at this
 | @dflt v L p r ps hv _ ih=>
  intro i acc hat hl hsz
  have hl:acc.length+(r.length+1)≤SL:=hl
  rw [Zo] at hat
  have hat0:ts.drop i=tk [119,111,114,100] [100,101,102,97,117,108,116]::tk [111,112] [61,62]::(toks p++Z39 ps (tk [111,112] [125]::rest)):=hat
  obtain ⟨s2,r2,e2,h2⟩:=Z2g (ps:=ps) (cl:=[125]) (r:=rest) (by decide)
  have hat3:=Zk (Zk hat0)
  have hx:=ZcD rd hd hv (by rw [hat3,e2]) h2 (a:=a)
  obtain ⟨β,j1,hc,hat2,ej⟩:=Z2f (d:=d+4) (a:=a) (j0:=i+1+1+tl p) (by decide) (Zd hat3)
  refine .cons (Z5 hat0) (by decide) (Zc8 (as:=[]) ne (Z5 hat0) (by decide:([119,111,114,100]==[119,111,114,100]&&[100,101,102,97,117,108,116]==[100,101,102,97,117,108,116])=true) rfl (fun c nc=>Zc9 nc (Z5 (Zk hat0))) rfl hx hc (by lia)) ?_
  have:=ih hat2 (by rw [List.length_append];show acc.length+1+r.length≤SL;lia) (fun u hu=>hsz u (List.mem_cons_of_mem _ hu)) (acc:=acc++[.tup [.none,v]])
  rw [List.append_assoc] at this
  rwa [show j1+tl (Z2 ps)+1=i+tl (Z2 ((.word [100,101,102,97,117,108,116]:: .sp:: .op [61,62]:: .sp::p)::ps))+1 by rw [ZF,show tl (.word [100,101,102,97,117,108,116]:: .sp:: .op [61,62]:: .sp::p)=tl p+2 from rfl];lia] at this
end
end Mine
namespace Mine
theorem Z2T {d n:Nat} {a:Addr} {ts:List MV} {v w:MV} {i j k':Nat} {k s:List Nat} (h:ts[i]? =some (tk k s)) (hp:pm k s=false) (hq:Q73 n a ts i v j) (hn:n≤d) (h1:1≤d) (hl:OL d a ts v j w k'):O74 (d+1) a ts i w k':=by
 obtain ⟨e,rfl⟩:=Nat.exists_eq_add_of_le' h1
 exact Z7X h hp (Z0a hq hn) hl
theorem ZaY {rest:List MV} (h:NP rest):NO rest:=by
 obtain ⟨k,s,r,e,h⟩:=h
 exact ⟨k,s,r,e,Z20 h (by decide)⟩
theorem ZeA {ts rest:List MV} {i:Nat} (h:NO rest) (hat:ts.drop i=rest):∃k s,ts[i]? =some (tk k s)∧(k==[111,112]&&s==[40])=false:=by
 obtain ⟨k,s,r,rfl,h⟩:=h
 exact ⟨k,s,Z5 hat,h⟩
theorem Z9k {s:List Nat} {r:List MV} (h:(s==[40])=false):NO (tk [111,112] s::r):=⟨_,_,_,rfl,by rw [h,Bool.and_false]⟩
theorem ZeV {v p} (h:(v,p)∈litTab):∃k s,Pc.tk1 p=some (tk k s)∧pm k s=false:=
 Z54 (P:=fun x=>∃k s,Pc.tk1 x.2=some (tk k s)∧pm k s=false) (fun x hx=>by refine Zak (P:=fun x:MV×Pc=>∃k s,Pc.tk1 x.2=some (tk k s)∧pm k s=false) hx ?_ ?_ ?_<;>exact ⟨_,_,rfl,rfl⟩) (fun x hx=>by refine Zak (P:=fun x:MV×Pc=>∃k s,Pc.tk1 x.2=some (tk k s)∧pm k s=false) hx ?_ ?_ ?_<;>exact ⟨_,_,rfl,rfl⟩) (fun s _=>⟨_,_,rfl,rfl⟩) h
section
variable {R:Z0c} {D:Nat} (rd:Rd R D) {d:Nat} (hd:D≤d) {a:Addr} {ts:List MV}
include rd hd
theorem Zb1 {v w m:MV} {pm:List Pc} {ns:Bool} {i k:Nat} {rest:List MV} (h:Member R m pm) (hat:ts.drop i=tk [111,112] (Z1j ns)::(toks pm++rest)) (hno:NO rest)
  (hl:OL (d+2) a ts (tn [112,114,111,112] [v,m,.bool ns]) (i+1+tl pm) w k):OL (d+2) a ts v i w k:=by
 have h1:=Zk hat
 obtain ⟨k2,s2,h3,hn⟩:=ZeA hno (Zd h1)
 induction h with
 |plain _=>exact Z5n (Z5 hat) (Z5 h1) h3 hn hl
 | @text n _ _ h=>
  have h1':ts.drop (i+1)=tk [111,112] [123]::(toks [.text n]++tk [111,112] [125]::rest):=h1
  have hx:=rdV rd hd (m:=1) h (Nat.le_refl 1) (Zk h1') (by decide) (a:=a)
  exact Z5o (Z5 hat) (Z5 h1') hx h3 hn hl
 |var _ h=>exact Z78 (Z5 hat) (Z5 h1) h3 hn hl
theorem Zb2 {v w m:MV} {pm:List Pc} {ns:Bool} {i k:Nat} {rest:List MV} {as ps} (h:Member R m pm) (ha:Args R as ps) (hz:as.length≤SL) (hat:ts.drop i=tk [111,112] (Z1j ns)::(toks pm++(toks (argText ps)++rest)))
  (hl:OL (d+3) a ts (tn [109,99,97,108,108] [v,m,.tup as,.bool ns]) (i+1+tl pm+tl (argText ps)) w k):OL (d+3) a ts v i w k:=by
 have h1:=Zk hat
 obtain ⟨g1,g2,-⟩:=Z5F rd hd ha hz (Zd h1) (a:=a)
 induction h with
 |plain _=>exact Z4l (d:=d+1) (Z5 hat) (Z5 h1) g1 g2 hl
 | @text n _ _ h=>
  have h1':ts.drop (i+1)=tk [111,112] [123]::(toks [.text n]++tk [111,112] [125]::(toks (argText ps)++rest)):=h1
  have hx:=rdV rd (Nat.le_succ_of_le hd) (m:=1) h (Nat.le_refl 1) (Zk h1') (by decide) (a:=a)
  exact Z4m (d:=d+1) (Z5 hat) (Z5 h1') hx g1 g2 hl
 |var _ h=>exact Z6i (d:=d+1) (Z5 hat) (Z5 h1) g1 g2 hl
theorem Z5k {as ps} {p:List Pc} (h:Args R as ps) (hs:(spell (p++argText ps)).length≤1000000):as.length≤SL:=by
 rw [Z0,List.length_append] at hs
 have h1:(spell (argText ps)).length=(spell (Z2 ps)).length+2:=by
  show (spell (Zm (Z2 ps))).length=_
  rw [Zh];simp only [List.length_append,List.length_cons,List.length_nil];lia
 have:=ZR ps
 have:=Z5l h
 unfold SL;lia
theorem Z5v (ns:Bool) (q:List Pc) (rest:List MV):toks (arrow ns::q)++rest=tk [111,112] (Z1j ns)::(toks q++rest):=by cases ns<;>rfl
omit rd hd in
theorem ZB (p q:List Pc):tl (p++q)=tl p+tl q:=by
 show (toks (p++q)).length=_;rw [Z1,List.length_append]
theorem ZdA {as ps} (h:Arms R as ps) (hs:(spell (Z2 ps)).length≤1000000):∀u∈as,∀x xs,u=.tup (.tup xs::x)→xs.length≤SL:=by
 have split:∀{p:List Pc} {ps:List (List Pc)},(spell (Z2 (p::ps))).length≤1000000→(spell p).length≤1000000∧(spell (Z2 ps)).length≤1000000:=by
  intro p ps hs
  cases ps with
  |nil=>exact ⟨hs,Nat.zero_le _⟩
  |cons q ps=>
   rw [ZS,Z0,Z0] at hs
   exact ⟨pl (pl hs),pr' hs⟩
 induction h with
 |nil=>intro u hu;cases hu
 | @arm tv tp v L p r ps ht hv _ ih=>
  obtain ⟨h1,h2⟩:=split hs
  intro u hu x xs e
  rcases List.mem_cons.1 hu with rfl|hu
  ·injection e with e
   injection e with e1 _
   injection e1 with e1
   subst e1
   rw [Z0,Z0] at h1
   have:=ZR tp
   have:=Z5x ht
   have:=pl (pl h1)
   unfold SL;lia
  ·exact ih h2 u hu x xs e
 |dflt hv _ ih=>
  obtain ⟨h1,h2⟩:=split hs
  intro u hu x xs e
  rcases List.mem_cons.1 hu with rfl|hu
  ·injection e with e
   injection e with e1 _
   cases e1
  ·exact ih h2 u hu x xs e
theorem Z9g {v p} (n:Node R v 21 p) (hs:Sm p) (hi:Z2D v=false) {i:Nat} {rest:List MV} {w:MV} {k:Nat} (hat:ts.drop i=toks p++rest) (hc:Cn v rest) (hl:OL (d+14) a ts v (i+tl p) w k):O74 (d+15) a ts i w k:=by
 have hnp:Z01 v=false→NP rest:=fun h=>by
  rcases hc with hc|⟨hc,-⟩
  ·exact hc
  ·rw [h] at hc;cases hc
 have lift:∀{n i w k},O74 n a ts i w k→n≤d+15→O74 (d+15) a ts i w k:=fun h hn=>Z0a h hn
 generalize hL:21=L at n
 induction n with
 |var h=>exact Z2T (Z5 (r:=rest) hat) rfl (ZgF (d:=0) (Z5 (r:=rest) hat)) (by lia) (by lia) hl
 | @lit v p h=>
  obtain ⟨k',s',ht,hpm⟩:=ZeV h
  have e1:toks [p]=[tk k' s']:=by rw [Z1n,ht];rfl
  rw [e1] at hat
  have e2:tl [p]=1:=by show (toks [p]).length=1;rw [e1];rfl
  rw [e2] at hl
  exact Z2T (Z5 (r:=rest) hat) hpm (ZgG (d:=0) h ht (Z5 (r:=rest) hat)) (by lia) (by lia) hl
 | @cst n p h=>
  have e1:n∈Z7L∧toks p=[tk [119,111,114,100] n]:=Z6Z (P:=fun x=>x.1∈Z7L∧toks x.2=[tk [119,111,114,100] x.1]) (fun n hn=>⟨List.mem_append_left _ hn,rfl⟩) (fun n hn=>⟨List.mem_append_right _ hn,rfl⟩) h
  rw [e1.2] at hat
  have e2:tl p=1:=by show (toks p).length=1;rw [e1.2];rfl
  rw [e2] at hl
  obtain ⟨k2,s2,h3,hn⟩:=ZeA (ZaY (hnp rfl)) (Zk (r:=rest) hat)
  exact Z2T (Z5 (r:=rest) hat) rfl (ZgH (d:=0) e1.1 (Z5 (r:=rest) hat) h3 hn) (by lia) (by lia) hl
 |pre hw _=>
  exact absurd hL.symm ((by decide:∀x∈preTab,x.2≠21) _ hw)
 |bin ho _ _=>
  have:∀x∈opTab,x.2.1≠21:=by decide+kernel
  exact absurd hL.symm (this _ ho)
 |lg ho _ _=>
  have:∀x∈lgTab,x.2.2.1≠21:=by decide+kernel
  exact absurd hL.symm (this _ ho)
 |incp _ _=>cases hi
 |incs _ _=>cases hi
 | @mcall o m as ns po pm ps h1 h2 h3=>
  have hz:=Z5k rd hd h3 hs.1
  rw [Z1,Z1,Z1,List.append_assoc,List.append_assoc,List.append_assoc,Z5v rd hd] at hat
  rw [show i+tl (po++[arrow ns]++pm++argText ps)=i+tl po+1+tl pm+tl (argText ps) by rw [ZB,ZB,ZB,show tl [arrow ns]=1 by cases ns<;>rfl];lia] at hl
  exact Z5E rd (d:=d+11) (by lia) h1 (fun _=>Z9k (by cases ns<;>decide)) hat (Zb2 rd (d:=d+11) (by lia) h2 h3 hz (Zd hat) hl)
 | @prop o m ns po pm h1 h2=>
  rw [Z1,Z1,List.append_assoc,List.append_assoc,Z5v rd hd] at hat
  have hno:NO rest:=by
   rcases hc with hc|⟨-,hc⟩
   ·exact ZaY hc
   ·exact hc rfl
  rw [show i+tl (po++[arrow ns]++pm)=i+tl po+1+tl pm by rw [ZB,ZB,show tl [arrow ns]=1 by cases ns<;>rfl];lia] at hl
  exact Z5E rd (d:=d+11) (by lia) h1 (fun _=>Z9k (by cases ns<;>decide)) hat (Zb1 rd (d:=d+12) (by lia) h2 (Zd hat) hno hl)
 | @dim o x po L pi h1 h2=>
  have hat:ts.drop i=toks po++tk [111,112] [91]::(toks pi++tk [111,112] [93]::rest):=by
   rw [hat,Z1,Z1,Z1];simp only [List.append_assoc];rfl
  have g1:=Zd hat
  have g2:=Zk g1
  obtain ⟨k',s,r1,e1,h3,-,-⟩:=(rd.ts h2).1
  have g3:ts[i+tl po+1]? =some (tk k' s):=Z5 (r:=r1++tk [111,112] [93]::rest) (by rw [g2,e1];rfl)
  have hx:=rdV rd (d:=d+12) (by lia) (m:=1) h2 (Nat.le_refl 1) g2 (by decide) (a:=a)
  obtain ⟨t,f,r,-,rfl⟩:=rd.shp h2
  rw [show i+tl (po++[.op [91]]++pi++[.op [93]])=i+tl po+1+tl pi+1 by rw [ZB,ZB,ZB];show i+(tl po+1+tl pi+1)=_;lia] at hl
  exact Z5E rd (d:=d+11) (by lia) h1 (fun _=>Z9k (by decide)) hat (ZfN (d:=d+12) (Z5 g1) g3 (Z05 h3 (by decide)) hx hl)
 | @dim0 o po h1=>
  have hat:ts.drop i=toks po++tk [111,112] [91]::tk [111,112] [93]::rest:=by rw [hat,Z1,List.append_assoc];rfl
  have g1:=Zd hat
  rw [show i+tl (po++[.op [91],.op [93]])=i+tl po+2 by rw [ZB];show i+(tl po+2)=_;lia] at hl
  exact Z5E rd (d:=d+11) (by lia) h1 (fun _=>Z9k (by decide)) hat (ZdD (d:=d+12) (Z5 g1) (Z5 (Zk g1)) hl)
 | @callf as ps h=>
  have hz:=Z5k rd hd (p:=[.word [102]]) h hs.1
  have hat:ts.drop i=tk [119,111,114,100] [102]::(toks (argText ps)++rest):=hat
  obtain ⟨g1,g2,-⟩:=Z5F rd hd h hz (Zk hat) (a:=a)
  rw [show i+tl (.word [102]::argText ps)=i+1+tl (argText ps) by show i+(tl (argText ps)+1)=_;lia] at hl
  exact Z2T (Z5 hat) rfl (ZcH (d:=d+1) (Z5 hat) g1 g2) (by lia) (by lia) hl
 | @callo o as po ps h1 h2=>
  have hz:=Z5k rd hd h2 hs.1
  rw [Z1,List.append_assoc] at hat
  rw [show i+tl ((if tagOf o=[112,114,111,112] then Zm po else po)++argText ps)=i+tl (if tagOf o=[112,114,111,112] then Zm po else po)+tl (argText ps) by rw [ZB];lia] at hl
  obtain ⟨g1,g2,-⟩:=Z5F rd (d:=d+11) (by lia) h2 hz (Zd hat) (a:=a)
  have hl2:OL (d+14) a ts o (i+tl (if tagOf o=[112,114,111,112] then Zm po else po)) w k:=by
   refine ZdE (d:=d+12) g1 g2 ?_
   exact hl
  by_cases ht:tagOf o=[112,114,111,112]
  ·rw [if_pos ht] at hat hl2
   obtain ⟨L,q,hq,rfl⟩:=h1
   have hb:Z01 o=true:=by unfold Z01;rw [ht];decide
   rw [if_pos hb] at hat hl2
   exact Z2h rd (d:=d+11) (by lia) hq hat hl2
  ·rw [if_neg ht] at hat hl2
   exact Z5E rd (d:=d+11) (by lia) h1 (fun h=>absurd h ht) hat hl2
 | @arr is ps h=>
  have hat:ts.drop i=tk [111,112] [91]::(toks (Z2 ps)++tk [111,112] [93]::rest):=by
   rw [hat,Zcm,Z1,List.cons_append,List.append_assoc];rfl
  have hz:is.length≤SL:=by
   have:=hs.1
   rw [Z8,Z0,List.length_append,List.length_append] at this
   have:=ZR ps
   have:=Z5U h
   unfold SL;lia
  have h70:=c70 (d:=d+6) (a:=a) (ts:=ts) (i:=i+1) (as:=is) fun b ne=>ZcF rd hd ne h (Zk hat) (acc:=[]) (by show 0+is.length≤SL;lia)
  rw [show i+tl (.op [91]::(Z2 ps++[.op [93]]))=i+1+tl (Z2 ps)+1 by show i+(tl (Z2 ps++[.op [93]])+1)=_;rw [ZB];show i+(tl (Z2 ps)+1+1)=_;lia] at hl
  exact Z2T (Z5 hat) (by decide) (Zel (d:=d+6) (Z5 hat) h70) (by lia) (by lia) hl
 | @mtch x as L pe ps h1 h2=>
  have hat:ts.drop i=tk [119,111,114,100] [109,97,116,99,104]::tk [111,112] [40]::(toks pe++tk [111,112] [41]::tk [111,112] [123]::(toks (Z2 ps)++tk [111,112] [125]::rest)):=by
   rw [hat]
   show tk [119,111,114,100] [109,97,116,99,104]::(toks (Zm pe++[.sp]++Z2l (Z2 ps))++rest)=_
   rw [Z1,Z1,List.append_assoc,List.append_assoc]
   show tk [119,111,114,100] [109,97,116,99,104]::tk [111,112] [40]::(toks (pe++[.op [41]])++(tk [111,112] [123]::(toks (Z2 ps++[.op [125]])++rest)))=_
   rw [Z1,Z1,List.append_assoc,List.append_assoc];rfl
  have g1:=Zk hat
  have g2:=Zk g1
  have g3:=Zd g2
  have g4:=Zk (Zk g3)
  have hx:=Z0a (rdV rd hd (m:=1) h1 (Nat.le_refl 1) g2 (by decide) (a:=a)) (by lia:d+2≤d+6)
  have hsp:(spell (Z2 ps)).length≤1000000:=by
   have:=hs.1
   rw [Z8,Z8,Z0,Z16] at this
   simp only [List.length_append] at this
   lia
  have hz:as.length≤SL:=by
   have:=ZR ps
   have:=Z7W h2
   unfold SL;lia
  have h72:=c72 (d:=d+4) (a:=a) (ts:=ts) (V:=x) (i:=i+1) (n:=as.length) (as:=as) (j:=i+1+1+tl pe+2+tl (Z2 ps)+1) hx fun b ne=>by
   have:=Zeg rd hd ne (V:=x) h2 g4 (acc:=[]) (by show 0+as.length≤SL;lia) (ZdA rd hd h2 hsp)
   exact this
  rw [show i+tl (.word [109,97,116,99,104]:: .sp::(Zm pe++[.sp]++Z2l (Z2 ps)))=i+1+1+tl pe+2+tl (Z2 ps)+1 by
   show i+(tl (Zm pe++[.sp]++Z2l (Z2 ps))+1)=_
   rw [ZB,ZB]
   show i+(tl (pe++[.op [41]])+1+0+(tl (Z2 ps++[.op [125]])+1)+1)=_
   rw [ZB,ZB]
   show i+(tl pe+1+1+0+(tl (Z2 ps)+1+1)+1)=_
   lia] at hl
  exact Z2T (Z5 hat) rfl (ZcG (d:=d+6) (Z5 hat) h72) (by lia) (by lia) hl
 | @empt x L pe h=>
  have hat:ts.drop i=tk [119,111,114,100] [101,109,112,116,121]::(toks (argText [pe])++rest):=hat
  obtain ⟨us,u1,u2,u3⟩:=Z5H rd hd (Raws.cons h .nil)
  have hz:us.length≤SL:=by rw [u3];show 1≤SL;decide
  obtain ⟨g1,g2,-⟩:=Z5F rd hd u1 hz (Zk hat) (a:=a)
  rw [show i+tl (.word [101,109,112,116,121]::Zm pe)=i+1+tl (argText [pe]) by show i+(tl (argText [pe])+1)=_;lia] at hl
  exact Z2T (Z5 hat) rfl (Zek (d:=d+1) (Z5 hat) g2 u2 (by rw [u3];show 1<SL;decide)) (by lia) (by lia) hl
 | @iset xs ps h=>
  have hat:ts.drop i=tk [119,111,114,100] [105,115,115,101,116]::(toks (argText ps)++rest):=hat
  obtain ⟨us,u1,u2,u3⟩:=Z5H rd hd h
  have hz:=Z5k rd hd (p:=[.word [105,115,115,101,116]]) u1 hs.1
  obtain ⟨g1,g2,-⟩:=Z5F rd hd u1 hz (Zk hat) (a:=a)
  have hz':us.length<SL:=by
   have:=hs.1
   rw [Z8,Zh] at this
   simp only [List.length_append] at this
   have:=ZR ps
   have:=Z5l u1
   unfold SL;lia
  rw [show i+tl (.word [105,115,115,101,116]::Zm (Z2 ps))=i+1+tl (argText ps) by show i+(tl (argText ps)+1)=_;lia] at hl
  exact Z2T (Z5 hat) rfl (Zej (d:=d+1) (Z5 hat) g2 u2 hz') (by lia) (by lia) hl
 |_=>cases hL
end
end Mine
namespace Mine
noncomputable def chk (L lb m':Nat):Bool:=(List.range 22).all (fun L'=>decide (L'<lb)||(decide (g L≤g L')&&okM m' L'&&L' !=0&&(decide (L<5)||decide (5≤L'))))&&decide (g L≤max m' 1)
theorem ZdJ {k s k' s':List Nat} {r r':List MV} (h:tk k s::r=tk k' s'::r'):k=k'∧s=s':=by
 cases h;exact ⟨rfl,rfl⟩
theorem Z7D {L lb m':Nat} {k s:List Nat} (hc:chk L lb m'=true) (h:foB L k s=true):(∀L',lb≤L'→L'≤21→okM m' L'=true∧foB L' k s=true)∧lv k s<max m' 1:=by
 unfold chk at hc
 obtain ⟨h1,h2⟩:=Bool.and_eq_true_iff.1 hc
 obtain ⟨f1,f2,f3,f4,f5⟩:=Z61 h
 refine ⟨fun L' hl hu=>?_,Nat.lt_of_lt_of_le f1 (of_decide_eq_true h2)⟩
 have h3:=List.all_eq_true.1 h1 L' (List.mem_range.2 (Nat.lt_succ_of_le hu))
 rcases Bool.or_eq_true_iff.1 h3 with h3|h3
 ·exact absurd hl (Nat.not_le.2 (of_decide_eq_true h3))
 ·obtain ⟨h3,h6⟩:=Bool.and_eq_true_iff.1 h3
  obtain ⟨h3,h5⟩:=Bool.and_eq_true_iff.1 h3
  obtain ⟨h3,h4⟩:=Bool.and_eq_true_iff.1 h3
  refine ⟨h4,?_⟩
  unfold foB
  rw [f2,f3,decide_eq_true (Nat.lt_of_lt_of_le f1 (of_decide_eq_true h3)),h5]
  cases ha:(k==[111,112]&&s==[61,62]) with
  |false=>rfl
  |true=>
   have h7:5≤L':=by
    rcases Bool.or_eq_true_iff.1 h6 with h|h
    ·have:=of_decide_eq_true h;have:=f5 ha;lia
    ·exact of_decide_eq_true h
   rw [decide_eq_true h7];rfl
noncomputable def Zhs (la:Nat) (k s:List Nat):Bool:=(List.range 22).all fun L'=>decide (L'<la)||foB L' k s
theorem Z8g {la m L:Nat} {k s:List Nat} (hc:Zhs la k s=true) (hm:okM m L=true) (h19:L≠19) (hl:1≤L) (hla:L≤la):∀L',la≤L'→L'≤21→okM m L'=true∧foB L' k s=true:=by
 intro L' h1 h2
 refine ⟨?_,?_⟩
 ·unfold okM at hm ⊢
  rcases Bool.or_eq_true_iff.1 hm with h|h
  ·have h:=of_decide_eq_true h
   rw [Nat.max_eq_left hl] at h
   rw [decide_eq_true (Nat.le_trans (Nat.le_trans h (Nat.le_trans hla h1)) (Nat.le_max_left L' 1))];rfl
  ·exact absurd (eq_of_beq h) h19
 ·exact (Bool.or_eq_true_iff.1 (List.all_eq_true.1 hc L' (List.mem_range.2 (Nat.lt_succ_of_le h2)))).elim (fun h=>absurd h1 (Nat.not_le.2 (of_decide_eq_true h))) id
theorem Z4y {m L:Nat} (hm:okM m L=true) (h19:L≠19) (hl:1≤L):max m 1≤L:=by
 unfold okM at hm
 rcases Bool.or_eq_true_iff.1 hm with h|h
 ·have h:=of_decide_eq_true h
  rw [Nat.max_eq_left hl] at h
  exact Nat.max_le.2 ⟨h,hl⟩
 ·exact absurd (eq_of_beq h) h19
section
variable {R:Z0c} {D:Nat} (rd:Rd R D) {d:Nat} (hd:D≤d) {a:Addr} {ts:List MV}
include rd hd
theorem Z7z {v p} (n:Node R v 21 p) (hi:Z2D v=true) {i:Nat} {rest:List MV} (hat:ts.drop i=toks p++rest) (hc:NP rest):O74 (d+15) a ts i v (i+tl p):=by
 obtain ⟨k2,s2,r2,rfl,hp⟩:=hc
 generalize hL:21=L at n
 induction n with
 | @incp o t pt ho h=>
  have hat:ts.drop i=tk [111,112] o::(toks pt++tk k2 s2::r2):=hat
  have h1:=Zk hat
  have hn:=Z5 (Zd h1)
  have:=Z6F rd (d:=d+12) (by lia) h (ZaY ⟨_,_,_,rfl,hp⟩) h1 (Z2o (d:=d+10) hn hp) (a:=a)
  have h2:=ZdF (d:=d+12) (Z5 hat) ho this
  rw [show i+tl (.op o::pt)=i+1+tl pt by show i+(tl pt+1)=_;lia]
  exact Z0a h2 (by lia)
 | @incs o t pt ho h=>
  have hat:ts.drop i=toks pt++tk [111,112] o::tk k2 s2::r2:=by rw [hat,Z1,List.append_assoc];rfl
  have hne:(o==[40])=false:=(by decide:∀o∈[[43,43],[45,45]],(o==[40])=false) o ho
  rw [show i+tl (pt++[.op o])=i+tl pt+1 by rw [ZB];rfl]
  exact Z6F rd (d:=d+14) (by lia) h (Z9k hne) hat (ZfM (d:=d+12) (Z5 (Zd hat)) ho)
 |var _=>cases hi
 |lit _=>cases hi
 |cst _=>cases hi
 |mcall _ _ _=>cases hi
 |prop _ _=>cases hi
 |dim _ _=>cases hi
 |dim0 _=>cases hi
 |callf _=>cases hi
 |callo _ _=>cases hi
 |arr _=>cases hi
 |mtch _ _=>cases hi
 |empt _=>cases hi
 |iset _=>cases hi
 |pre hw _=>
  exact absurd hL.symm ((by decide:∀x∈preTab,x.2≠21) _ hw)
 |bin ho _ _=>cases hi
 |lg ho _ _=>
  have:∀x∈lgTab,x.2.2.1≠21:=by decide+kernel
  exact absurd hL.symm (this _ ho)
 |_=>cases hL
theorem rdR {v:MV} {L lb m':Nat} {p k s r i} (h:Par R v lb p) (hlb:lb≤21) (hc:chk L lb m'=true) (hf:foB L k s=true) (hat:ts.drop i=toks p++tk k s::r):E66 (d+6) a ts m' i v (i+tl p):=
 Z4v rd hd h hlb (Z7D hc hf).1 (Z7D hc hf).2 hat
theorem Z9O {p q:List Pc} (h:TL p) (ha:Ze (spell p)=true) {r:List MV} (he:toks p=tk [119,111,114,100] [102,114,111,109]::r):fromT (spell p)=true:=by
 obtain ⟨x,y,e,hx,-⟩:=h.st
 cases p with
 |nil=>cases he
 |cons z p=>
  have hl:=h.lx [] (fun _ h=>by cases h)
  cases z with
  |sp=>rw [show spell (.sp::p)=32::spell p from rfl] at e;cases e;exact absurd hx (by decide)
  |cmt=>rw [show spell (.cmt::p)=47::42::42::47::spell p from rfl] at e;cases e;exact absurd hx (by decide)
  |word w=>
   rw [show toks (.word w::p)=tk [119,111,114,100] w::toks p from rfl] at he
   obtain rfl:=(ZdJ he).2
   have hn:nLD (spell p++[]):=hl.1.2.2
   rw [List.append_nil] at hn
   unfold fromT
   rw [Z8]
   have h1:[102,114,111,109].isPrefixOf (lowerL ((Pc.word [102,114,111,109]).sp1++spell p))=true:=by
    rw [List.isPrefixOf_iff_prefix]
    exact ⟨lowerL (spell p),by unfold lowerL;rw [List.map_append];rfl⟩
   have h2:runLen isNm ((Pc.word [102,114,111,109]).sp1++spell p)=4:=by
    have:=Z2w (f:=isNm) (w:=[102,114,111,109]) (t:=spell p) (by decide) fun c hc=>?_
    ·exact this
    ·have h3:=hn c hc
     have h4:c<128:=by
      have hm:c∈spell (.word [102,114,111,109]::p):=by
       rw [Z8];exact List.mem_append_right _ (List.mem_of_mem_head? hc)
      exact of_decide_eq_true (List.all_eq_true.1 ha c hm)
     exact (by decide+kernel:∀c∈List.range 128,isLD c=false→isNm c=false) c (List.mem_range.2 h4) h3
   rw [h1,h2];rfl
  |op s=>exact absurd (ZdJ he).1 (by decide)
  |var s=>exact absurd (ZdJ he).1 (by decide)
  |int s=>exact absurd (ZdJ he).1 (by decide)
  |text s=>exact absurd (ZdJ he).1 (by decide)
  |cast s=>exact absurd (ZdJ he).1 (by decide)
theorem ZbH {v:MV} {kk p k s r i} (h:Par R v kk p) (hk:kk≤21) (H:∀L,kk≤L→L≤21→okM 4 L=true∧foB L k s=true) (hlv:lv k s<4) (hat:ts.drop i=toks (Z1k p)++tk k s::r):
  E66 (d+16) a ts 4 i v (i+tl (Z1k p))∧∃k2 s2 r2,toks (Z1k p)=tk k2 s2::r2∧stT k2 s2=true∧(k2==[119,111,114,100]&&s2==[102,114,111,109])=false:=by
 unfold Z1k at hat ⊢
 cases hft:fromT (spell p) with
 |true=>
  rw [hft,if_pos rfl] at hat
  rw [if_pos rfl]
  have hat':ts.drop i=tk [111,112] [40]::(toks p++tk [111,112] [41]::tk k s::r):=by
   rw [hat];show tk [111,112] [40]::(toks (p++[.op [41]])++tk k s::r)=_
   rw [Z1,List.append_assoc];rfl
  have h1:=Z4v rd hd h hk (m:=1) (fun L _ _=>⟨ZhJ L,Z9P (by decide) L⟩) (by decide+kernel) (Zk hat') (a:=a)
  have e:tl (Zm p)=tl p+2:=by
   show (tk [111,112] [40]::toks (p++[.op [41]])).length=_
   rw [Z1,List.length_cons,List.length_append];rfl
  have hq:=Z96 (d:=d+5) (Z5 hat') h1
  have hn:=Z5 (Zd hat)
  have hf:=Z61 (H 21 hk (Nat.le_refl 21)).2
  have hn':ts[i+1+tl p+1]? =some (tk k s):=by
   have:i+(toks (Zm p)).length=i+1+tl p+1:=by have:(toks (Zm p)).length=tl p+2:=e;lia
   rwa [this] at hn
  have ho:=Z7X (d:=d+6) (Z5 hat') (by decide) hq (Z2o (d:=d+5) hn' hf.2.1)
  have hu:=Zaq (d:=d+7) (Z5 hat') (by decide) ho hn' hf.2.2.1
  have:=Z6j (m:=4) hu (Z7Z (d:=d+8) hn' (by lia))
  refine ⟨?_,[111,112],[40],toks (p++[.op [41]]),rfl,by decide,by decide⟩
  rw [e,show i+(tl p+2)=i+1+tl p+1 by lia]
  exact Z0a this (by lia)
 |false=>
  rw [hft,if_neg (by decide)] at hat
  rw [if_neg (by decide)]
  refine ⟨Z0a (Z4v rd hd h hk H (by lia) hat) (by lia),?_⟩
  obtain ⟨k2,s2,r2,e,h1,-,-⟩:=ZZ (fun v L p h=>rd.ts h) h
  refine ⟨k2,s2,r2,e,h1,?_⟩
  cases hw:(k2==[119,111,114,100]&&s2==[102,114,111,109]) with
  |false=>rfl
  |true=>
   obtain ⟨w1,w2⟩:=Bool.and_eq_true_iff.1 hw
   rw [eq_of_beq w1,eq_of_beq w2] at e
   have hasc:Ze (spell p)=true:=by
    obtain ⟨L,q,h,rfl⟩:=h
    have:=(rd.sm h).2
    split
    ·rw [Zh];unfold Ze at this ⊢;simp [this]
    ·exact this
   have:=Z9O rd hd (q:=p) (ZE (fun v L p h=>rd.lx h) h) hasc e
   rw [hft] at this;cases this
end
end Mine
namespace Mine
theorem Zey:∀x∈opTab,chk x.2.1 x.2.2.2.1 x.2.2.2.2=true∧Zhs x.2.2.1 (kOf x.1) x.1=true∧x.2.1≠19∧1≤x.2.1∧x.2.1≤x.2.2.1∧x.2.2.1≤21∧x.2.2.2.1≤21:=by decide+kernel
theorem ZeX:∀x∈lgTab,chk x.2.2.1 x.2.2.2.2.1 x.2.2.2.2.2=true∧Zhs x.2.2.2.1 [111,112] x.2.1=true∧x.2.2.1≠19∧1≤x.2.2.1∧x.2.2.1≤x.2.2.2.1∧x.2.2.2.1≤21∧x.2.2.2.2.1≤21:=by decide+kernel
section
variable {R:Z0c} {D:Nat} (rd:Rd R D) {d:Nat} (hd:D≤d) {a:Addr} {ts:List MV}
include rd hd
theorem Zed {v p} (n:Node R v 21 p) (hs:Sm p) {i:Nat} {k s r} (hat:ts.drop i=toks p++tk k s::r) (hf:foB 21 k s=true):U67 (d+17) a ts i v (i+tl p):=by
 obtain ⟨f1,f2,f3,f4,f5⟩:=Z61 hf
 have hn:=Z5 (Zd hat)
 obtain ⟨⟨k1,s1,r1,e,-,h2,-⟩,-⟩:=Z6q (fun v L p h=>rd.ts h) n
 have hat':ts[i]? =some (tk k1 s1):=Z5 (r:=r1++tk k s::r) (by rw [hat,e];rfl)
 have ho:O74 (d+15) a ts i v (i+tl p):=by
  cases hi:Z2D v with
  |true=>exact Z7z rd hd n hi hat ⟨k,s,r,rfl,f2⟩
  |false=>exact Z9g rd hd n hs hi hat (.inl ⟨k,s,r,rfl,f2⟩) (Z2o (d:=d+12) hn f2)
 exact Z0a (Zaq (d:=d+14) hat' (h2 rfl) ho hn f3) (by lia)
theorem Z4U {t:MV} {pt:List Pc} {i:Nat} {o:List Nat} {X:List MV} (h:Z0z R t pt) (hat:ts.drop i=toks pt++tk [111,112] o::X) (h1:isPost [111,112] o=false):O74 (d+15) a ts i t (i+tl pt)∧(∃k s,ts[i]? =some (tk k s)∧Z0n k s=true)∧∃t' r,t=tn t' r∧(t'==[97,114,114,97,121])=false:=by
 obtain ⟨k1,s1,r1,e,-,h2,-⟩:=Z0U (fun v L p h=>rd.ts h) h
 refine ⟨Z6F rd (d:=d+14) (by lia) h (ZaY ⟨_,_,_,rfl,h1⟩) hat (Z2o (d:=d+12) (Z5 (Zd hat)) h1),⟨k1,s1,Z5 (r:=r1++tk [111,112] o::X) (by rw [hat,e];rfl),h2 rfl⟩,?_⟩
 obtain ⟨hp,L,h⟩:=h
 obtain ⟨t',f,r,-,rfl⟩:=rd.shp h
 refine ⟨t',r,rfl,?_⟩
 have hp:[[118,97,114],[100,105,109],[112,114,111,112]].contains t'=true:=hp
 cases ht:(t'==[97,114,114,97,121]) with
 |false=>rfl
 |true=>rw [eq_of_beq ht] at hp;exact absurd hp (by decide)
theorem Zbg {pt p:List Pc} {o:List Nat} {i:Nat} {X:List MV} (hat:ts.drop i=toks (pt++[.sp,.op o,.sp]++p)++X):ts.drop i=toks pt++tk [111,112] o::(toks p++X):=by
 rw [hat,Z1,Z1,List.append_assoc,List.append_assoc];rfl
theorem Zaw (pt p:List Pc) (o:List Nat):tl (pt++[.sp,.op o,.sp]++p)=tl pt+1+tl p:=by
 rw [ZB,ZB];rfl
theorem Z3J {v:MV} {k:Nat} {p:List Pc} (h:Par R v k p):∃k s r,toks p=tk k s::r∧stT k s=true:=by
 obtain ⟨k2,s2,r2,e,h1,-,-⟩:=ZZ (fun v L p h=>rd.ts h) h
 exact ⟨k2,s2,r2,e,h1⟩
theorem Zdk {v L p} (n:Node R v L p) (hs:Sm p) {m i k':Nat} {rest:List MV} {w:MV} (hm:okM m L=true) (hat:ts.drop i=toks p++rest) (hf:FoL L rest) (hl:EL (d+30) a ts m v (i+tl p) w k'):E66 (d+31) a ts m i w k':=by
 obtain ⟨k,s,r,rfl,hf⟩:=hf
 by_cases h21:L=21
 ·subst h21
  exact Z6j (Z0a (Zed rd hd n hs hat hf) (by lia)) hl
 have up:∀{n j},U67 n a ts i v j→n≤d+30→j=i+tl p→E66 (d+31) a ts m i w k':=fun hu hn e=>by subst e;exact Z6j (Z0a hu hn) hl
 induction n with
 | @un o x p ho h=>
  have e:toks (Z29 o p)=tk [111,112] o::toks p:=by unfold Z29;cases headIs o p<;>rfl
  rw [e] at hat
  have hat:ts.drop i=tk [111,112] o::(toks p++tk k s::r):=hat
  have hx:=rdR rd hd (m':=20) h (by decide) (by decide+kernel) hf (Zk hat) (a:=a)
  exact up (Zig (d:=d+5) ho (Z5 hat) hx) (by lia) (by show _=i+(toks (Z29 o p)).length;rw [e];show i+1+tl p=i+(tl p+1);lia)
 | @not x p h=>
  have e:toks (Z29 [33] p)=tk [111,112] [33]::toks p:=by unfold Z29;cases headIs [33] p<;>rfl
  rw [e] at hat
  have hat:ts.drop i=tk [111,112] [33]::(toks p++tk k s::r):=hat
  have hx:=rdR rd hd (m':=18) h (by decide) (by decide+kernel) hf (Zk hat) (a:=a)
  exact up (Zgf (d:=d+5) (Z5 hat) hx) (by lia) (by show _=i+(toks (Z29 [33] p)).length;rw [e];show i+1+tl p=i+(tl p+1);lia)
 | @cast t x p ht h=>
  have hat:ts.drop i=tk [99,97,115,116] t::(toks p++tk k s::r):=hat
  have hx:=rdR rd hd (m':=20) h (by decide) (by decide+kernel) hf (Zk hat) (a:=a)
  exact up (ZdP (d:=d+5) (Z5 hat) hx) (by lia) (by show i+1+tl p=i+(tl p+1);lia)
 | @sil x p h=>
  have hat:ts.drop i=tk [111,112] [64]::(toks p++tk k s::r):=hat
  have hx:=rdR rd hd (m':=20) h (by decide) (by decide+kernel) hf (Zk hat) (a:=a)
  exact up (Zgd (d:=d+5) (Z5 hat) hx) (by lia) (by show i+1+tl p=i+(tl p+1);lia)
 | @pre w' L x p hw h=>
  have hat:ts.drop i=tk [119,111,114,100] w'::(toks p++tk k s::r):=hat
  have hc:∀x∈preTab,chk x.2 x.2 x.2=true∧x.2≤21:=by decide+kernel
  have hx:=rdR rd hd (m':=L) h (hc _ hw).2 (hc _ hw).1 hf (Zk hat) (a:=a)
  exact up (Zge (d:=d+5) hw (Z5 hat) hx) (by lia) (by show i+1+tl p=i+(tl p+1);lia)
 | @yfrom x p h=>
  have hat:ts.drop i=tk [119,111,114,100] [121,105,101,108,100]::tk [119,111,114,100] [102,114,111,109]::(toks p++tk k s::r):=hat
  have hx:=rdR rd hd (m':=4) h (by decide) (by decide+kernel) hf (Zk (Zk hat)) (a:=a)
  exact up (Z4L (d:=d+6) (Z5 hat) (ZdN (d:=d+5) (Z5 (Zk hat)) hx)) (by lia) (by show i+1+1+tl p=i+(tl p+1+1);lia)
 |yld0=>
  have hat:ts.drop i=tk [119,111,114,100] [121,105,101,108,100]::tk k s::r:=hat
  exact up (Z4L (d:=d+6) (Z5 hat) (ZdO (d:=d+5) (Z5 (Zk hat)) ((Z61 hf).2.2.2.1 rfl))) (by lia) rfl
 | @yld x p h=>
  have hat:ts.drop i=tk [119,111,114,100] [121,105,101,108,100]::(toks (Z1k p)++tk k s::r):=hat
  have h1:=Zk hat
  obtain ⟨f1,f2,f3,f4,f5⟩:=Z61 hf
  obtain ⟨hx,k2,s2,r2,e,g1,g2⟩:=ZbH rd hd h (by decide) (Z7D (by decide+kernel:chk 4 4 4=true) hf).1 (Z7D (by decide+kernel:chk 4 4 4=true) hf).2 h1 (a:=a)
  have hn:=Z5 (Zd h1)
  have ha:(k==[111,112]&&s==[61,62])=false:=by
   cases h:(k==[111,112]&&s==[61,62]) with
   |false=>rfl
   |true=>exact absurd (f5 h) (by decide)
  have h2:ts[i+1]? =some (tk k2 s2):=Z5 (r:=r2++tk k s::r) (by rw [h1,e];rfl)
  have:=ZdM (d:=d+14) (w:=x) (β:=false) (j:=i+1+tl (Z1k p)) h2 g2 (ZbE g1) hx (c63f a hn ha (d+14)) (fun h=>by cases h) (fun _=>rfl)
  exact up (Z4L (d:=d+16) (Z5 hat) this) (by lia) (by show i+1+tl (Z1k p)=i+(tl (Z1k p)+1);lia)
 | @yldk kk x pk p hk h=>
  have hat:ts.drop i=tk [119,111,114,100] [121,105,101,108,100]::(toks (Z1k pk)++tk [111,112] [61,62]::(toks p++tk k s::r)):=by
   rw [hat]
   show tk [119,111,114,100] [121,105,101,108,100]::(toks (Z1k pk++[.sp,.op [61,62],.sp]++p)++tk k s::r)=_
   rw [Z1,Z1,List.append_assoc,List.append_assoc];rfl
  have h1:=Zk hat
  have H4:∀L,5≤L→L≤21→okM 4 L=true∧foB L [111,112] [61,62]=true:=by
   have:∀L∈List.range 22,5≤L→okM 4 L=true∧foB L [111,112] [61,62]=true:=by decide+kernel
   exact fun L h1 h2=>this L (List.mem_range.2 (by lia)) h1
  obtain ⟨hx,k2,s2,r2,e,g1,g2⟩:=ZbH rd hd hk (by decide) H4 (by decide+kernel) h1 (a:=a)
  have hn:=Zd h1
  have h2:ts[i+1]? =some (tk k2 s2):=Z5 (r:=r2++tk [111,112] [61,62]::(toks p++tk k s::r)) (by rw [h1,e];rfl)
  have hx2:=Z0a (rdR rd hd (m':=4) h (by decide) (by decide+kernel) hf (Zk hn) (a:=a)) (by lia:d+6≤d+16)
  have:=ZdM (d:=d+14) (β:=true) h2 g2 (ZbE g1) hx (c63t a (Z5 hn) (d+14)) (fun _=>hx2) (fun h=>by cases h)
  exact up (Z4L (d:=d+16) (Z5 hat) this) (by lia) (by
   show i+1+tl (Z1k pk)+1+tl p=i+(tl (Z1k pk++[.sp,.op [61,62],.sp]++p)+1)
   rw [ZB,ZB];show _=i+(tl (Z1k pk)+1+tl p+1);lia)
 | @bin o _ la lb m' x y pa pb ho h1 h2=>
  obtain ⟨c1,c2,c3,c4,c5,c6,c7⟩:=Zey _ ho
  have hat:ts.drop i=toks pa++tk (kOf o) o::(toks pb++tk k s::r):=by
   rw [hat,Z1,Z1,List.append_assoc,List.append_assoc]
   unfold Z8d kOf
   split<;>rfl
  have hn:=Zd hat
  have hb:=rdR rd hd h2 c7 c1 hf (Zk hn) (a:=a)
  have e:tl (pa++[.sp,Z8d o,.sp]++pb)=tl pa+1+tl pb:=by
   rw [ZB,ZB];unfold Z8d;split<;>rfl
  rw [e,show i+(tl pa+1+tl pb)=i+tl pa+1+tl pb by lia] at hl
  refine Z6G rd (d:=d+25) (by lia) h1 c6 (Z8g c2 hm c3 c4 c5) hat ?_
  exact ZfP (d:=d+29) ho (Z5 hn) (Z4y hm c3 c4) (Z0a hb (by lia)) hl
 | @lg t o _ la lb m' x y pa pb ho h1 h2=>
  obtain ⟨c1,c2,c3,c4,c5,c6,c7⟩:=ZeX _ ho
  have hat:=Zbg rd hd hat
  have hn:=Zd hat
  have hb:=rdR rd hd h2 c7 c1 hf (Zk hn) (a:=a)
  rw [Zaw rd hd,show i+(tl pa+1+tl pb)=i+tl pa+1+tl pb by lia] at hl
  refine Z6G rd (d:=d+25) (by lia) h1 c6 (Z8g c2 hm c3 c4 c5) hat ?_
  exact ZhE (d:=d+29) ho (Z5 hn) (Z4y hm c3 c4) (Z0a hb (by lia)) hl
 | @elvis c x pc pe h1 h2=>
  have hat:ts.drop i=toks pc++tk [111,112] [63]::tk [111,112] [58]::(toks pe++tk k s::r):=by
   rw [hat,Z1,Z1,List.append_assoc,List.append_assoc];rfl
  have hn:=Zd hat
  have hb:=rdR rd hd (L:=5) (m':=6) h2 (by decide) (by decide+kernel) hf (Zk (Zk hn)) (a:=a)
  rw [ZB,ZB,show i+(tl pc+tl [.sp,.op [63],.op [58],.sp]+tl pe)=i+tl pc+2+tl pe by show i+(tl pc+2+tl pe)=_;lia] at hl
  refine Z6G rd (d:=d+25) (by lia) h1 (by decide) (Z8g (L:=5) (by decide+kernel) hm (by decide) (by decide) (by decide)) hat ?_
  exact Zbw (d:=d+28) (Z5 hn) (Z5 (Zk hn)) (Z4y hm (by decide) (by decide)) (Z0a hb (by lia)) hl
 | @tern c y x pc pm pe h1 h2 h3=>
  have hat:ts.drop i=toks pc++tk [111,112] [63]::(toks pm++tk [111,112] [58]::(toks pe++tk k s::r)):=by
   rw [hat];simp only [Z1,List.append_assoc];rfl
  have hn:=Zd hat
  have hn2:=Zk hn
  obtain ⟨k2,s2,r2,e,g1⟩:=Z3J rd hd h2
  have g2:ts[i+tl pc+1]? =some (tk k2 s2):=Z5 (r:=r2++tk [111,112] [58]::(toks pe++tk k s::r)) (by rw [hn2,e];rfl)
  have H6:∀L,6≤L→L≤21→okM 1 L=true∧foB L [111,112] [58]=true:=by
   have:∀L∈List.range 22,6≤L→okM 1 L=true∧foB L [111,112] [58]=true:=by decide+kernel
   exact fun L h1 h2=>this L (List.mem_range.2 (by lia)) h1
  have hu:=Z4v rd hd h2 (m:=1) (by decide) H6 (by decide+kernel) hn2 (a:=a)
  have hn3:=Zd hn2
  have hb:=rdR rd hd (L:=5) (m':=6) h3 (by decide) (by decide+kernel) hf (Zk hn3) (a:=a)
  rw [ZB,ZB,ZB,ZB,show i+(tl pc+tl [.sp,.op [63],.sp]+tl pm+tl [.sp,.op [58],.sp]+tl pe)=i+tl pc+1+tl pm+1+tl pe by show i+(tl pc+1+tl pm+1+tl pe)=_;lia] at hl
  refine Z6G rd (d:=d+25) (by lia) h1 (by decide) (Z8g (L:=5) (by decide+kernel) hm (by decide) (by decide) (by decide)) hat ?_
  exact ZdG (d:=d+28) (Z5 hn) g2 (Z6t g1) (Z4y hm (by decide) (by decide)) (Z0a hu (by lia)) (Z5 hn3) (Z0a hb (by lia)) hl
 | @insn x c px pc h hc=>
  obtain ⟨nm,rfl,e⟩:∃nm,c=.tup [.str [110,97,109,101],.str nm]∧toks pc=[tk [119,111,114,100] nm]:=by
   simp only [clsTab,List.mem_cons,Prod.mk.injEq,List.not_mem_nil,or_false] at hc
   rcases hc with ⟨rfl,rfl⟩|⟨rfl,rfl⟩<;>exact ⟨_,rfl,rfl⟩
  have hat:ts.drop i=toks px++tk [119,111,114,100] [105,110,115,116,97,110,99,101,111,102]::tk [119,111,114,100] nm::tk k s::r:=by
   rw [hat,Z1,Z1,e,List.append_assoc,List.append_assoc];rfl
  have hn:=Zd hat
  rw [ZB,ZB,show tl pc=1 by show (toks pc).length=1;rw [e];rfl,show i+(tl px+tl [.sp,.word [105,110,115,116,97,110,99,101,111,102],.sp]+1)=i+tl px+2 by show i+(tl px+1+1)=_;lia] at hl
  refine Z6G rd (d:=d+25) (by lia) h (by decide) (Z8g (L:=18) (by decide+kernel) hm (by decide) (by decide) (by decide)) hat ?_
  exact ZdH (d:=d+29) (Z5 hn) (Z5 (Zk hn)) (Z4y hm (by decide) (by decide)) hl
 | @ins x c px Lc pc h hc=>
  obtain ⟨f1,f2,f3,f4,f5⟩:=Z61 hf
  have hat:ts.drop i=toks px++tk [119,111,114,100] [105,110,115,116,97,110,99,101,111,102]::(toks (if tagOf c=[118,97,114] then pc else Zm pc)++tk k s::r):=by
   rw [hat,Z1,Z1,List.append_assoc,List.append_assoc];rfl
  have hn:=Zd hat
  have hn2:=Zk hn
  have hn3:=Z5 (Zd hn2)
  have key:(∃k2 s2,ts[i+tl px+1]? =some (tk k2 s2)∧(k2==[119,111,114,100])=false)∧O74 (d+25) a ts (i+tl px+1) c (i+tl px+1+tl (if tagOf c=[118,97,114] then pc else Zm pc)):=by
   by_cases hv:tagOf c=[118,97,114]
   ·rw [if_pos hv] at hn2 hn3 ⊢
    obtain ⟨nm,e⟩:=rd.vr hc hv
    have hb:Z01 c=true:=by unfold Z01;rw [hv];decide
    have hi:Z2D c=false:=by unfold Z2D;rw [hv];decide
    obtain rfl:=(rd.ts hc).2 hb
    refine ⟨⟨[118,97,114],nm,Z5 (r:=tk k s::r) (by rw [hn2,e];rfl),by decide⟩,?_⟩
    exact Z0a (rd.op hc hi (d:=d+12) (by lia) hn2 (.inl ⟨k,s,r,rfl,f2⟩) (Z2o (d:=d+10) hn3 f2)) (by lia)
   ·rw [if_neg hv] at hn2 hn3 ⊢
    have hn2':ts.drop (i+tl px+1)=tk [111,112] [40]::(toks (pc++[.op [41]])++tk k s::r):=hn2
    refine ⟨⟨[111,112],[40],Z5 hn2',by decide⟩,?_⟩
    exact Z0a (Z2h rd (d:=d+12) (by lia) hc hn2 (Z2o (d:=d+13) hn3 f2)) (by lia)
  obtain ⟨⟨k2,s2,g1,g2⟩,ho⟩:=key
  rw [ZB,ZB,show i+(tl px+tl [.sp,.word [105,110,115,116,97,110,99,101,111,102],.sp]+tl (if tagOf c=[118,97,114] then pc else Zm pc))=i+tl px+1+tl (if tagOf c=[118,97,114] then pc else Zm pc) by show i+(tl px+1+_)=_;lia] at hl
  refine Z6G rd (d:=d+25) (by lia) h (by decide) (Z8g (L:=18) (by decide+kernel) hm (by decide) (by decide) (by decide)) hat ?_
  exact ZfO (d:=d+29) (Z5 hn) g1 g2 (Z4y hm (by decide) (by decide)) (Z0a ho (by lia)) hl
 | @asg t x pt p ht h=>
  have hat:=Zbg rd hd hat
  obtain ⟨ho,⟨k1,s1,g1,g2⟩,t',r',rfl,g3⟩:=Z4U rd hd ht hat (by decide) (a:=a)
  have hn:=Zd hat
  obtain ⟨k2,s2,r2,e,g4⟩:=Z3J rd hd h
  have hx:=Z0a (rdR rd hd (m':=4) h (by decide) (by decide+kernel) hf (Zk hn) (a:=a)) (by lia:d+6≤d+15)
  refine up (Zgg (d:=d+13) g1 g2 ho g3 (Z5 hn) (Z5 (r:=r2++tk k s::r) (by rw [Zk hn,e];rfl)) (Z05 g4 (by decide)) hx) (by lia) (by rw [Zaw rd hd];unfold tl;lia)
 | @asgl t x pt p ht h=>
  have hat:=Zbg rd hd hat
  have hn:=Zd hat
  obtain ⟨k2,s2,r2,e,g4⟩:=Z3J rd hd h
  have hsz:(spell pt).length≤1000000:=by have:=hs.1;rw [Z0,Z0] at this;exact pl (pl this)
  obtain ⟨xs,hg,ho⟩:=Zef rd (d:=d+5) (by lia) (Zd9 rd hd (a:=a) (ts:=ts)) ht hsz
  have hfirst:∃r,toks pt=tk [111,112] [91]::r:=by obtain ⟨_,ps,_,_,_,rfl⟩:=ht;exact ⟨_,rfl⟩
  obtain ⟨r3,e3⟩:=hfirst
  have hx:=Z0a (rdR rd hd (m':=4) h (by decide) (by decide+kernel) hf (Zk hn) (a:=a)) (by lia:d+6≤d+15)
  have ho:=Z0a (ho hat (by decide)) (by lia:d+5+9≤d+15)
  have hg:=Z1U hg (by lia:1+1≤d+15)
  have g1:ts[i]? =some (tk [111,112] [91]):=Z5 (r:=r3++tk [111,112] [61]::(toks p++tk k s::r)) (by rw [hat,e3];rfl)
  refine up (ZdQ (d:=d+13) g1 (by decide) ho hg (Z5 hn) (Z5 (r:=r2++tk k s::r) (by rw [Zk hn,e];rfl)) (Z05 g4 (by decide)) hx) (by lia) (by rw [Zaw rd hd];unfold tl;lia)
 | @aref t x pt Lx p ht hb h=>
  obtain ⟨f1,f2,f3,f4,f5⟩:=Z61 hf
  have hat:ts.drop i=toks pt++tk [111,112] [61]::tk [111,112] [38]::(toks p++tk k s::r):=by
   rw [hat,Z1,Z1,List.append_assoc,List.append_assoc];rfl
  obtain ⟨ho,⟨k1,s1,g1,g2⟩,-⟩:=Z4U rd hd ht hat (by decide) (a:=a)
  have hn:=Zd hat
  have hn2:=Zk (Zk hn)
  have hn3:=Z5 (Zd hn2)
  obtain rfl:=(rd.ts h).2 hb
  have hi:Z2D x=false:=by
   unfold Z2D;unfold Z01 at hb
   cases he:(tagOf x==[105,110,99,100,101,99]) with
   |false=>rfl
   |true=>rw [eq_of_beq he] at hb;exact absurd hb (by decide)
  have hx:=Z0a (rd.op h hi (d:=d+12) (a:=a) (by lia) hn2 (.inl ⟨k,s,r,rfl,f2⟩) (Z2o (d:=d+10) hn3 f2)) (by lia:d+13≤d+15)
  refine up (ZdR (d:=d+13) g1 g2 ho (Z5 hn) (Z5 (Zk hn)) hx) (by lia) (by rw [ZB,ZB];show i+tl pt+1+1+tl p=i+(tl pt+2+tl p);unfold tl;lia)
 | @aop o t x pt p ho' ht h=>
  have hat:=Zbg rd hd hat
  have hpo:∀o∈aopTab,isPost [111,112] (o++[61])=false:=by decide+kernel
  obtain ⟨ho,⟨k1,s1,g1,g2⟩,-⟩:=Z4U rd hd ht hat (hpo o ho') (a:=a)
  have hn:=Zd hat
  have hx:=Z0a (rdR rd hd (m':=4) h (by decide) (by decide+kernel) hf (Zk hn) (a:=a)) (by lia:d+6≤d+15)
  exact up (Zgh (d:=d+13) ho' g1 g2 ho (Z5 hn) hx) (by lia) (by rw [Zaw rd hd];unfold tl;lia)
 |_=>exact absurd rfl h21
end
theorem ZdX {t:List Nat} {r:List MV} (h:(t==[118,97,114])=false):tagOf (.tup (.str t::r))≠[118,97,114]:=fun e=>by rw [show t=[118,97,114] from e] at h;cases h
theorem Z93 {R:Z0c} {D:Nat} (rd:Rd R D) (hshp:∀{v L p},Nd R v L p→∃t f r,(t,f)∈grpTab∧v=.tup (.str t::r)) (hlx:∀{v L p},Nd R v L p→TL p):Rd (Nd R) (D+30) where
 ts h:=Z6q (fun v L p h=>rd.ts h) h.1
 le h:=by
  obtain ⟨n,-⟩:=h
  induction n with
  |pre hw _=>
   have:∀x∈preTab,x.2≤21:=by decide
   exact this _ hw
  |bin ho _ _=>obtain ⟨-,-,-,-,c5,c6,-⟩:=Zey _ ho;exact Nat.le_trans c5 c6
  |lg ho _ _=>obtain ⟨-,-,-,-,c5,c6,-⟩:=ZeX _ ho;exact Nat.le_trans c5 c6
  |_=>decide
 shp:=hshp
 vr h ht:=by
  obtain ⟨n,-⟩:=h
  induction n with
  |var h=>exact ⟨_,rfl⟩
  |pre hw _=>
   have:∀x∈preTab,x.1≠[118,97,114]:=by decide
   exact absurd ht (this _ hw)
  |lg ho _ _=>
   have:∀x∈lgTab,x.1≠[118,97,114]:=by decide+kernel
   exact absurd ht (this _ ho)
  |_=>exact absurd ht (ZdX rfl)
 lx:=hlx
 sm h:=h.2
 ex h:=by
  intro d a ts m i rest w k hd hm hat hf hl
  obtain ⟨e,rfl⟩:=Nat.exists_eq_add_of_le' (Nat.le_trans (Nat.le_add_left 30 _) hd)
  exact Zdk rd (Nat.le_of_add_le_add_right hd) h.1 h.2 hm hat hf hl
 op h hi:=by
  intro d a ts i rest w k hd hat hc hl
  obtain ⟨e,rfl⟩:=Nat.exists_eq_add_of_le' (Nat.le_trans (by decide:14≤30) (Nat.le_trans (Nat.le_add_left 30 _) hd))
  exact Z9g rd (by lia) h.1 h.2 hi hat hc hl
 inc h hi:=by
  intro d a ts i rest hd hat hc
  obtain ⟨e,rfl⟩:=Nat.exists_eq_add_of_le' (Nat.le_trans (by decide:14≤30) (Nat.le_trans (Nat.le_add_left 30 _) hd))
  exact Z7z rd (by lia) h.1 hi hat hc
theorem rd0:Rd (fun _ _ _=>False) 0:=⟨fun h=>h.elim,fun h=>h.elim,fun h=>h.elim,fun h=>h.elim,fun h=>h.elim,fun h=>h.elim,fun h=>h.elim,fun h=>h.elim,fun h=>h.elim⟩
theorem ZgD {R R':Z0c} {D D':Nat} (o:Rd R D) (o':Rd R' D') (hD:D≤D'):Rd (fun v L p=>R v L p∨R' v L p) D' where
 ts h:=h.elim o.ts o'.ts
 le h:=h.elim o.le o'.le
 shp h:=h.elim o.shp o'.shp
 vr h:=h.elim o.vr o'.vr
 lx h:=h.elim o.lx o'.lx
 sm h:=h.elim o.sm o'.sm
 ex h:=by
  intro d a ts m i rest w k hd hm hat hf hl
  exact h.elim (fun h=>o.ex h (Nat.le_trans hD hd) hm hat hf hl) (fun h=>o'.ex h hd hm hat hf hl)
 op h hi:=by
  intro d a ts i rest w k hd hat hc hl
  exact h.elim (fun h=>o.op h hi (Nat.le_trans hD hd) hat hc hl) (fun h=>o'.op h hi hd hat hc hl)
 inc h hi:=by
  intro d a ts i rest hd hat hc
  exact h.elim (fun h=>o.inc h hi (Nat.le_trans hD hd) hat hc) (fun h=>o'.inc h hi hd hat hc)
theorem ZgE:∀h,Rd (PT h) (30*(h+1))
 |0=>Z93 rd0 (fun {v L p} x=>(rok 0).shp x) (fun {v L p} x=>Z8B (h:=0) x)
 |h+1=>ZgD (ZgE h) (Z93 (ZgE h) (fun {v L p} x=>(rok (h+1)).shp (.inr x)) (fun {v L p} x=>Z8B (h:=h+1) (.inr x))) (by lia)
theorem ZgC {h v L p} (t:PT h v L p) {d:Nat} (hd:30*(h+1)≤d) (a:Addr):E66 (d+2) a (toks p++[tk [101,110,100] []]) 1 0 v (tl p):=by
 have:=rdV (ZgE h) hd (m:=1) t (Nat.le_refl 1) (i:=0) (k':=[101,110,100]) (s:=[]) (r:=[]) (ts:=toks p++[tk [101,110,100] []]) (a:=a) rfl (by decide)
 rwa [Nat.zero_add] at this
end Mine
namespace Mine
theorem Zaa (a b:List Nat):Ze (a++b)=(Ze a&&Ze b):=List.all_append
noncomputable abbrev As (p:List Pc):Prop:=Ze (spell p)=true
theorem Zf {p q:List Pc} (h1:As p) (h2:As q):As (p++q):=by
 show Ze (spell (p++q))=true
 rw [Z0,Zaa,h1,h2];rfl
theorem Zt {x:Pc} {q:List Pc} (h1:Ze x.sp1=true) (h2:As q):As (x::q):=by
 show Ze (spell (x::q))=true
 rw [Z8,Zaa,h1,h2];rfl
theorem Z7U:As []:=rfl
theorem Z0J {p:List Pc} (h:As p):As (Zm p):=Zt (by decide) (Zf h (Zt (by decide) Z7U))
theorem Z7V {p:List Pc} (h:As p):As (Z2l p):=Zt (by decide) (Zf h (Zt (by decide) Z7U))
theorem Z0T:∀{ps:List (List Pc)},(∀p∈ps,As p)→As (Z2 ps)
 |[],_=>Z7U
 |[p],h=>h p (List.mem_singleton.2 rfl)
 |p::q::ps,h=>by
  rw [ZS]
  exact Zf (Zf (h p (List.mem_cons_self ..)) (by decide)) (Z0T fun x hx=>h x (List.mem_cons_of_mem _ hx))
section
variable {R:Z0c} (hR:∀v L p,R v L p→As p)
include hR
theorem ZL {a k p} (h:Par R a k p):As p:=by
 obtain ⟨L,q,h,rfl⟩:=h
 split
 ·exact Z0J (hR _ _ _ h)
 ·exact hR _ _ _ h
theorem Z2K {a p} (h:Z1E R a p):As p:=by
 obtain ⟨L,q,h,rfl⟩:=h
 split
 ·exact hR _ _ _ h
 ·exact Z0J (hR _ _ _ h)
theorem Z1N {a p} (h:Z0z R a p):As p:=by obtain ⟨-,L,h⟩:=h;exact hR _ _ _ h
theorem Zab {p} (h:As p):As (Z1k p):=by
 unfold Z1k;split
 ·exact Z0J h
 ·exact h
theorem Zdz {as ps} (h:Args R as ps):∀p∈ps,As p:=by
 induction h with
 |nil=>intro p hp;cases hp
 |val hv _ ih=>exact List.forall_mem_cons.2 ⟨hR _ _ _ hv,ih⟩
 |spread hv _ ih=>exact List.forall_mem_cons.2 ⟨Zt (by decide) (hR _ _ _ hv),ih⟩
 |named hv _ ih=>exact List.forall_mem_cons.2 ⟨Zt (by decide) (Zt (by decide) (Zt (by decide) (hR _ _ _ hv))),ih⟩
theorem Zc7 {k pk p} (hk:Par R k 5 pk) (h:As p):As (pk++[.sp,.op [61,62],.sp]++p):=Zf (Zf (ZL hR hk) (by decide)) h
theorem Zac {k pk p} (hk:Par R k 5 pk) (h:As p):As (pk++[.sp,.op [61,62],.sp,.op [38]]++p):=Zf (Zf (ZL hR hk) (by decide)) h
theorem Zbt {as ps} (h:Items R as ps):∀p∈ps,As p:=by
 induction h with
 |nil=>intro p hp;cases hp
 |val hv _ ih=>exact List.forall_mem_cons.2 ⟨hR _ _ _ hv,ih⟩
 |key hk hv _ ih=>exact List.forall_mem_cons.2 ⟨Zc7 hR hk (hR _ _ _ hv),ih⟩
 |keyref hk hv _ ih=>exact List.forall_mem_cons.2 ⟨Zac hR hk (hR _ _ _ hv),ih⟩
 |spread hv _ ih=>exact List.forall_mem_cons.2 ⟨Zt (by decide) (hR _ _ _ hv),ih⟩
theorem ZfI {G:MV→List Pc→Prop} (hG:∀v p,G v p→As p) {v p} (h:Z76 R G v p):As p:=by
 obtain ⟨is,ps,rfl,h,-,rfl⟩:=h
 have:∀p∈ps,As p:=by
  induction h with
  |nil=>intro p hp;cases hp
  |gap _ ih=>exact List.forall_mem_cons.2 ⟨Z7U,ih⟩
  |val hv _ ih=>exact List.forall_mem_cons.2 ⟨hG _ _ hv,ih⟩
  |ref hv _ ih=>exact List.forall_mem_cons.2 ⟨Zt (by decide) (hG _ _ hv),ih⟩
  |key hk hv _ ih=>exact List.forall_mem_cons.2 ⟨Zc7 hR hk (hG _ _ hv),ih⟩
  |keyref hk hv _ ih=>exact List.forall_mem_cons.2 ⟨Zac hR hk (hG _ _ hv),ih⟩
 refine Zt (by decide) (Zf (Zf (Z0T this) ?_) (by decide))
 split<;>decide
theorem Zbs {as ps} (h:Tests R as ps):∀p∈ps,As p:=by
 induction h with
 |one h=>exact List.forall_mem_cons.2 ⟨ZL hR h,fun p hp=>by cases hp⟩
 |cons h _ ih=>exact List.forall_mem_cons.2 ⟨ZL hR h,ih⟩
theorem Zdy {as ps} (h:Arms R as ps):∀p∈ps,As p:=by
 induction h with
 |nil=>intro p hp;cases hp
 |arm ht hv _ ih=>exact List.forall_mem_cons.2 ⟨Zf (Zf (Z0T (Zbs hR ht)) (by decide)) (hR _ _ _ hv),ih⟩
 |dflt hv _ ih=>exact List.forall_mem_cons.2 ⟨Zt (by decide) (Zt (by decide) (Zt (by decide) (Zt (by decide) (hR _ _ _ hv)))),ih⟩
theorem Zdx {as ps} (h:Raws R as ps):∀p∈ps,As p:=by
 induction h with
 |nil=>intro p hp;cases hp
 |cons hv _ ih=>exact List.forall_mem_cons.2 ⟨hR _ _ _ hv,ih⟩
theorem Zc6 {m p} (h:Member R m p):As p:=by
 induction h with
 |plain h=>
  have:∀n∈memNames,As [.word n]:=by decide+kernel
  exact this _ h
 |text _ _ h=>exact Z7V (hR _ _ _ h)
 |var _ h=>exact hR _ _ _ h
theorem Z75 {as ps} (h:Args R as ps):As (argText ps):=Z0J (Z0T (Zdz hR h))
theorem Z1C {v L p} (n:Node R v L p):As p:=by
 induction n with
 |var h=>
  have:∀n∈varTab,As [.var n]:=by decide+kernel
  exact this _ h
 |lit h=>
  rcases List.mem_append.1 h with h|h
  ·simp only [litTab1,List.mem_cons,Prod.mk.injEq,List.not_mem_nil,or_false] at h
   rcases h with ⟨-,rfl⟩|⟨-,rfl⟩|⟨-,rfl⟩<;>decide
  ·rcases List.mem_append.1 h with h|h
   ·simp only [litTab2,List.mem_cons,Prod.mk.injEq,List.not_mem_nil,or_false] at h
    rcases h with ⟨-,rfl⟩|⟨-,rfl⟩|⟨-,rfl⟩<;>decide
   ·obtain ⟨s,hs,e⟩:=List.mem_map.1 h
    cases e
    have:∀s∈txtTab,As [.text s]:=by decide+kernel
    exact this _ hs
 |cst h=>
  rcases List.mem_append.1 h with h|h<;>obtain ⟨n,hn,e⟩:=List.mem_map.1 h<;>cases e
  ·have:∀s∈cst1,As [.word s]:=by decide+kernel
   exact this _ hn
  ·have:∀s∈cst2,As [.word s,.cmt]:=by decide+kernel
   exact this _ hn
 | @un o a p ho h=>
  have:∀o∈[[43],[45],[126]],Ze o=true:=by decide
  unfold Z29
  refine Zt (this _ ho) ?_
  split
  ·exact Zt (by decide) (ZL hR h)
  ·exact ZL hR h
 |not h=>
  unfold Z29
  refine Zt (by decide) ?_
  split
  ·exact Zt (by decide) (ZL hR h)
  ·exact ZL hR h
 |cast ht h=>
  have:∀t∈castTab,Ze (Pc.cast t).sp1=true:=by decide
  exact Zt (this _ ht) (ZL hR h)
 |sil h=>exact Zt (by decide) (ZL hR h)
 |pre hw h=>
  have:∀x∈preTab,Ze x.1=true:=by decide
  exact Zt (this _ hw) (Zt (by decide) (ZL hR h))
 |yfrom h=>exact Zf (p:=[.word [121,105,101,108,100],.sp,.word [102,114,111,109],.sp]) (by decide) (ZL hR h)
 |yld0=>decide
 |yld h=>exact Zf (p:=[.word [121,105,101,108,100],.sp]) (by decide) (Zab hR (ZL hR h))
 |yldk h1 h2=>exact Zf (p:=[.word [121,105,101,108,100],.sp]) (by decide) (Zf (Zf (Zab hR (ZL hR h1)) (by decide)) (ZL hR h2))
 |bin ho h1 h2=>
  have:∀x∈opTab,As [.sp,Z8d x.1,.sp]:=by decide+kernel
  exact Zf (Zf (ZL hR h1) (this _ ho)) (ZL hR h2)
 |lg ho h1 h2=>
  have:∀x∈lgTab,As [.sp,.op x.2.1,.sp]:=by decide+kernel
  exact Zf (Zf (ZL hR h1) (this _ ho)) (ZL hR h2)
 |elvis h1 h2=>exact Zf (Zf (ZL hR h1) (by decide)) (ZL hR h2)
 |tern h1 h2 h3=>exact Zf (Zf (Zf (Zf (ZL hR h1) (by decide)) (ZL hR h2)) (by decide)) (ZL hR h3)
 |asg h1 h2=>exact Zf (Zf (Z1N hR h1) (by decide)) (ZL hR h2)
 |asgl h1 h2=>exact Zf (Zf (ZfI hR (fun v p h=>h.elim (Z1N hR) fun h=>h.2.2) h1) (by decide)) (ZL hR h2)
 |aref h1 _ h2=>exact Zf (Zf (Z1N hR h1) (by decide)) (hR _ _ _ h2)
 |aop ho h1 h2=>
  have:∀o∈aopTab,As [.sp,.op (o++[61]),.sp]:=by decide+kernel
  exact Zf (Zf (Z1N hR h1) (this _ ho)) (ZL hR h2)
 |incp ho h=>
  have:∀o∈[[43,43],[45,45]],Ze o=true:=by decide
  exact Zt (this _ ho) (Z1N hR h)
 |incs ho h=>
  have:∀o∈[[43,43],[45,45]],As [.op o]:=by decide
  exact Zf (Z1N hR h) (this _ ho)
 |insn h hc=>
  have:∀x∈clsTab,Ze (spell x.2)=true:=by
   simp only [clsTab,List.mem_cons,List.not_mem_nil,or_false]
   rintro x (rfl|rfl)<;>decide
  exact Zf (Zf (ZL hR h) (by decide)) (this _ hc)
 |ins h hc=>
  refine Zf (Zf (ZL hR h) (by decide)) ?_
  split
  ·exact hR _ _ _ hc
  ·exact Z0J (hR _ _ _ hc)
 | @mcall o m as ns po pm ps h1 h2 h3=>exact Zf (Zf (Zf (Z2K hR h1) (by cases ns<;>decide)) (Zc6 hR h2)) (Z75 hR h3)
 | @prop o m ns po pm h1 h2=>exact Zf (Zf (Z2K hR h1) (by cases ns<;>decide)) (Zc6 hR h2)
 |dim h1 h2=>exact Zf (Zf (Zf (Z2K hR h1) (by decide)) (hR _ _ _ h2)) (by decide)
 |dim0 h1=>exact Zf (Z2K hR h1) (by decide)
 |callf h=>exact Zt (by decide) (Z75 hR h)
 |callo h1 h2=>
  refine Zf ?_ (Z75 hR h2)
  split
  ·exact Z0J (Z2K hR h1)
  ·exact Z2K hR h1
 |arr h=>exact Zt (by decide) (Zf (Z0T (Zbt hR h)) (by decide))
 |mtch h1 h2=>exact Zt (by decide) (Zt (by decide) (Zf (Zf (Z0J (hR _ _ _ h1)) (by decide)) (Z7V (Z0T (Zdy hR h2)))))
 |empt h=>exact Zt (by decide) (Z0J (hR _ _ _ h))
 |iset h=>exact Zt (by decide) (Z0J (Z0T (Zdx hR h)))
end
theorem Z6I:∀{h v L p},PT h v L p→Sm p
 |0,_,_,_,n=>n.2
 |h+1,_,_,_,.inl n=>Z6I n
 |h+1,_,_,_,.inr n=>n.2
theorem Z1P {h h':Nat} (hh:h≤h') {v L p} (n:PT h v L p):PT h' v L p:=by
 induction hh with
 |refl=>exact n
 |step _ ih=>exact .inl ih
noncomputable abbrev ln (p:List Pc):Nat:=(spell p).length
noncomputable def Gd (h B:Nat) (v:MV):Prop:=∃L p,PT h v L p∧ln p≤B
theorem Z4j {h h' B B':Nat} {v:MV} (g:Gd h B v) (hh:h≤h') (hB:B≤B'):Gd h' B' v:=by
 obtain ⟨L,p,n,hl⟩:=g
 exact ⟨L,p,Z1P hh n,Nat.le_trans hl hB⟩
theorem Z0f {h B:Nat} {v L p} (n:Node (PT h) v L p) (hl:ln p≤B) (hB:B≤1000000):Gd (h+1) B v:=
 ⟨L,p,.inr ⟨n,Nat.le_trans hl hB,Z1C (fun v L p h=>(Z6I h).2) n⟩,hl⟩
theorem Z5X {B:Nat} {v L p} (n:Node (fun _ _ _=>False) v L p) (hl:ln p≤B) (hB:B≤1000000):Gd 0 B v:=
 ⟨L,p,⟨n,Nat.le_trans hl hB,Z1C (fun v L p h=>h.elim) n⟩,hl⟩
theorem ZK {h B:Nat} {v:MV} (g:Gd h B v) (k:Nat):∃p,Par (PT h) v k p∧ln p≤B+2:=by
 obtain ⟨L,q,n,hl⟩:=g
 refine ⟨_,⟨L,q,n,rfl⟩,?_⟩
 split
 ·have:ln (Zm q)=ln q+2:=by show (spell (Zm q)).length=_;rw [Zh];simp only [List.length_append,List.length_cons,List.length_nil];show 1+ln q+1=_;lia
  lia
 ·lia
theorem Z58 {h B:Nat} {v:MV} (g:Gd h B v):∃p,Z1E (PT h) v p∧ln p≤B+2:=by
 obtain ⟨L,q,n,hl⟩:=g
 refine ⟨_,⟨L,q,n,rfl⟩,?_⟩
 split
 ·lia
 ·have:ln (Zm q)=ln q+2:=by show (spell (Zm q)).length=_;rw [Zh];simp only [List.length_append,List.length_cons,List.length_nil];show 1+ln q+1=_;lia
  lia
noncomputable def Gp (h B:Nat) (v:MV):Prop:=∃p,Z0z (PT h) v p∧ln p≤B
theorem Zh5 {h h' B B':Nat} {v:MV} (g:Gp h B v) (hh:h≤h') (hB:B≤B'):Gp h' B' v:=by
 obtain ⟨p,⟨hp,L,n⟩,hl⟩:=g
 exact ⟨p,⟨hp,L,Z1P hh n⟩,Nat.le_trans hl hB⟩
theorem Zh6 {h B:Nat} {v:MV} (g:Gp h B v):Gd h B v:=by
 obtain ⟨p,⟨hp,L,n⟩,hl⟩:=g
 exact ⟨L,p,n,hl⟩
end Mine
namespace Mine
theorem Z6 (p q:List Pc):ln (p++q)=ln p+ln q:=by show (spell (p++q)).length=_;rw [Z0,List.length_append]
theorem Z7 (x:Pc) (q:List Pc):ln (x::q)=x.sp1.length+ln q:=by show (spell (x::q)).length=_;rw [Z8,List.length_append]
theorem ZhM:ln []=0:=rfl
theorem ZJ (p:List Pc):ln (Zm p)=ln p+2:=by
 show (spell (Zm p)).length=_
 rw [Zh];simp only [List.length_append,List.length_cons,List.length_nil];show 1+ln p+1=_;lia
theorem Z53 (p:List Pc):ln (Z2l p)=ln p+2:=by
 show (spell (Z2l p)).length=_
 rw [Z16];simp only [List.length_append,List.length_cons,List.length_nil];show 1+ln p+1=_;lia
noncomputable def Z1Y:List (List Pc)→Nat
 |[]=>0
 |p::r=>ln p+2+Z1Y r
theorem Z1w:∀ps,ln (Z2 ps)≤Z1Y ps
 |[]=>Nat.le_refl 0
 |[p]=>by show ln p≤ln p+2+0;lia
 |p::q::ps=>by
  have:=Z1w (q::ps)
  rw [ZS,Z6,Z6]
  show ln p+2+_≤ln p+2+Z1Y (q::ps)
  lia
theorem Z9u (p:List Pc):ln (Z1k p)≤ln p+2:=by
 unfold Z1k;split
 ·rw [ZJ];exact Nat.le_refl _
 ·lia
theorem Z9v (o:List Nat) (p:List Pc):ln (Z29 o p)≤o.length+1+ln p:=by
 unfold Z29
 split
 ·rw [Z7,Z7];show o.length+(1+ln p)≤_;lia
 ·rw [Z7];show o.length+ln p≤_;lia
section
variable {h B:Nat} (hB:5*B+100≤1000000) {a b c:MV}
include hB
theorem ZiG {o:List Nat} (ho:o∈[[43],[45],[126],[33]]) (ga:Gd h B a):Gd (h+1) (5*B+100) (tn [117,110] [.str o,a]):=by
 have hl:∀o∈[[43],[45],[126],[33]],o.length=1:=by decide
 by_cases h1:o=[33]
 ·subst h1
  obtain ⟨p,hp,hl⟩:=ZK ga 18
  exact Z0f (.not hp) (by have:=Z9v [33] p;simp only [List.length_cons,List.length_nil] at this;show ln _≤_;lia) hB
 ·obtain ⟨p,hp,hl'⟩:=ZK ga 19
  exact Z0f (.un (by simp only [List.mem_cons,List.not_mem_nil,or_false] at ho ⊢;rcases ho with h|h|h|h<;>simp_all) hp) (by have:=Z9v o p;have:=hl o ho;show ln _≤_;lia) hB
theorem Zfd {t:List Nat} (ht:t∈castTab) (ga:Gd h B a):Gd (h+1) (5*B+100) (tn [99,97,115,116] [.str t,a]):=by
 obtain ⟨p,hp,hl⟩:=ZK ga 19
 have ht':∀t∈castTab,(Pc.cast t).sp1.length≤10:=by decide
 exact Z0f (.cast ht hp) (by have:=ht' t ht;show ln _≤_;rw [Z7];lia) hB
theorem Zh8 (ga:Gd h B a):Gd (h+1) (5*B+100) (tn [115,105,108,101,110,99,101] [a]):=by
 obtain ⟨p,hp,hl⟩:=ZK ga 19
 exact Z0f (.sil hp) (by show ln _≤_;rw [Z7];show 1+ln p≤_;lia) hB
theorem Zdb {w:List Nat} {l:Nat} (hw:(w,l)∈preTab) (ga:Gd h B a):Gd (h+1) (5*B+100) (tn w [a]):=by
 obtain ⟨p,hp,hl⟩:=ZK ga l
 have hw':∀x∈preTab,x.1.length≤10:=by decide
 exact Z0f (.pre hw hp) (by have:=hw' _ hw;show ln _≤_;rw [Z7,Z7];show w.length+(1+ln p)≤_;dsimp only at this;lia) hB
theorem Zda (ga:Gd h B a):Gd (h+1) (5*B+100) (tn [121,105,101,108,100,102,114,111,109] [a]):=by
 obtain ⟨p,hp,hl⟩:=ZK ga 4
 exact Z0f (.yfrom hp) (by show ln _≤_;rw [Z7,Z7,Z7,Z7];show 5+(1+(4+(1+ln p)))≤_;lia) hB
theorem Zf7:Gd (h+1) (5*B+100) (tn [121,105,101,108,100] [.none,.none]):=Z0f .yld0 (by show 5≤_;lia) hB
theorem Zh7 (ga:Gd h B a):Gd (h+1) (5*B+100) (tn [121,105,101,108,100] [.none,a]):=by
 obtain ⟨p,hp,hl⟩:=ZK ga 4
 exact Z0f (.yld hp) (by have:=Z9u p;show ln _≤_;rw [Z7,Z7];show 5+(1+ln (Z1k p))≤_;lia) hB
theorem Zf6 (gk:Gd h B b) (ga:Gd h B a):Gd (h+1) (5*B+100) (tn [121,105,101,108,100] [b,a]):=by
 obtain ⟨p,hp,hl⟩:=ZK ga 4
 obtain ⟨q,hq,hl2⟩:=ZK gk 5
 exact Z0f (.yldk hq hp) (by have:=Z9u q;show ln _≤_;rw [Z7,Z7,Z6,Z6];show 5+(1+(ln (Z1k q)+4+ln p))≤_;lia) hB
theorem Zbb {o:List Nat} {l la lb m:Nat} (ho:(o,l,la,lb,m)∈opTab) (ga:Gd h B a) (gb:Gd h B b):Gd (h+1) (5*B+100) (tn [98,105,110] [.str o,a,b]):=by
 obtain ⟨p,hp,hl⟩:=ZK ga la
 obtain ⟨q,hq,hl2⟩:=ZK gb lb
 have ho':∀x∈opTab,ln [.sp,Z8d x.1,.sp]≤10:=by decide+kernel
 exact Z0f (.bin ho hp hq) (by have:=ho' _ ho;show ln _≤_;rw [Z6,Z6];dsimp only at this;lia) hB
theorem Zha {t o:List Nat} {l la lb m:Nat} (ho:(t,o,l,la,lb,m)∈lgTab) (ga:Gd h B a) (gb:Gd h B b):Gd (h+1) (5*B+100) (tn t [a,b]):=by
 obtain ⟨p,hp,hl⟩:=ZK ga la
 obtain ⟨q,hq,hl2⟩:=ZK gb lb
 have ho':∀x∈lgTab,ln [.sp,.op x.2.1,.sp]≤10:=by decide+kernel
 exact Z0f (.lg ho hp hq) (by have:=ho' _ ho;show ln _≤_;rw [Z6,Z6];dsimp only at this;lia) hB
theorem Zdf (ga:Gd h B a) (gb:Gd h B b):Gd (h+1) (5*B+100) (tn [105,102] [a,.none,b]):=by
 obtain ⟨p,hp,hl⟩:=ZK ga 6
 obtain ⟨q,hq,hl2⟩:=ZK gb 6
 exact Z0f (.elvis hp hq) (by show ln _≤_;rw [Z6,Z6];show ln p+4+ln q≤_;lia) hB
theorem Zf8 (ga:Gd h B a) (gc:Gd h B c) (gb:Gd h B b):Gd (h+1) (5*B+100) (tn [105,102] [a,c,b]):=by
 obtain ⟨p,hp,hl⟩:=ZK ga 6
 obtain ⟨r,hr,hl3⟩:=ZK gc 6
 obtain ⟨q,hq,hl2⟩:=ZK gb 6
 exact Z0f (.tern hp hr hq) (by show ln _≤_;rw [Z6,Z6,Z6,Z6];show ln p+3+ln r+3+ln q≤_;lia) hB
theorem Zhc {t:MV} (gt:Gp h B t) (ga:Gd h B a):Gd (h+1) (5*B+100) (tn [97,115,115,105,103,110] [t,a]):=by
 obtain ⟨p,hp,hl⟩:=ZK ga 4
 obtain ⟨q,hq,hl2⟩:=gt
 exact Z0f (.asg hq hp) (by show ln _≤_;rw [Z6,Z6];show ln q+3+ln p≤_;lia) hB
theorem Zfe {t:MV} {q:List Pc} (hq:Zca (PT h) t q) (hl2:ln q≤4*B+60) (ga:Gd h B a):Gd (h+1) (5*B+100) (tn [97,115,115,105,103,110] [t,a]):=by
 obtain ⟨p,hp,hl⟩:=ZK ga 4
 exact Z0f (.asgl hq hp) (by show ln _≤_;rw [Z6,Z6];show ln q+3+ln p≤_;lia) hB
theorem ZbU {t:MV} (gt:Gp h B t) (gb:Z01 a=true) (ga:Gd h B a):Gd (h+1) (5*B+100) (tn [97,115,115,105,103,110,114,101,102] [t,a]):=by
 obtain ⟨L,p,hp,hl⟩:=ga
 obtain ⟨q,hq,hl2⟩:=gt
 exact Z0f (.aref hq gb hp) (by show ln _≤_;rw [Z6,Z6];show ln q+4+ln p≤_;have:ln p≤B:=hl;lia) hB
theorem Zhe {o:List Nat} {t:MV} (ho:o∈aopTab) (gt:Gp h B t) (ga:Gd h B a):Gd (h+1) (5*B+100) (tn [97,115,115,105,103,110,111,112] [.str o,t,a]):=by
 obtain ⟨p,hp,hl⟩:=ZK ga 4
 obtain ⟨q,hq,hl2⟩:=gt
 have ho':∀o∈aopTab,ln [.sp,.op (o++[61]),.sp]≤10:=by decide+kernel
 exact Z0f (.aop ho hq hp) (by have:=ho' _ ho;show ln _≤_;rw [Z6,Z6];lia) hB
theorem Zhb {o:List Nat} {β:Bool} {t:MV} (ho:o∈[[43,43],[45,45]]) (gt:Gp h B t):Gd (h+1) (5*B+100) (tn [105,110,99,100,101,99] [.str o,.bool β,t]):=by
 obtain ⟨q,hq,hl2⟩:=gt
 have ho':∀o∈[[43,43],[45,45]],o.length=2:=by decide
 have hq2:ln q≤B:=hl2
 cases β with
 |true=>exact Z0f (.incp ho hq) (by have:=ho' _ ho;show ln _≤_;rw [Z7];show o.length+ln q≤_;lia) hB
 |false=>exact Z0f (.incs ho hq) (by have:=ho' _ ho;show ln _≤_;rw [Z6,Z7];show ln q+(o.length+0)≤_;lia) hB
theorem ZbS {cp:List Pc} (hc:(c,cp)∈clsTab) (ga:Gd h B a):Gd (h+1) (5*B+100) (tn [105,110,115,116,97,110,99,101,111,102] [a,c]):=by
 obtain ⟨p,hp,hl⟩:=ZK ga 19
 have hc':ln cp≤10:=by
  simp only [clsTab,List.mem_cons,Prod.mk.injEq,List.not_mem_nil,or_false] at hc
  rcases hc with ⟨-,rfl⟩|⟨-,rfl⟩<;>decide
 exact Z0f (.insn hp hc) (by show ln _≤_;rw [Z6,Z6];show ln p+12+ln cp≤_;lia) hB
theorem Zfb (ga:Gd h B a) (gc:Gd h B c):Gd (h+1) (5*B+100) (tn [105,110,115,116,97,110,99,101,111,102] [a,c]):=by
 obtain ⟨p,hp,hl⟩:=ZK ga 19
 obtain ⟨L,q,hq,hl2⟩:=gc
 have hl3:ln (if tagOf c=[118,97,114] then q else Zm q)≤B+2:=by
  have:ln q≤B:=hl2
  split
  ·lia
  ·rw [ZJ];lia
 exact Z0f (.ins hp hq) (by show ln _≤_;rw [Z6,Z6];show ln p+12+_≤_;lia) hB
noncomputable def Ga (h B:Nat) (as:List MV):Prop:=∃ps,Args (PT h) as ps∧Z1Y ps≤4*B+60
omit hB in
theorem Z6O {ps:List (List Pc)}:ln (argText ps)≤Z1Y ps+2:=by
 have:=Z1w ps
 show ln (Zm (Z2 ps))≤_
 rw [ZJ];lia
noncomputable def Z4A:List MV:=[tn [108,105,116] [.str [112]],tn [108,105,116] [.str [97,32,98]],tn [118,97,114] [.str [110]]]
omit hB in
theorem ZbL {m:MV} (hm:m∈Z4A):∃p,Member (PT h) m p∧ln p≤10:=by
 have lift:∀{v L p},Node (fun _ _ _=>False) v L p→ln p≤100→PT h v L p:=fun n hl=>
  Z1P (Nat.zero_le h) (show PT 0 _ _ _ from ⟨n,Nat.le_trans hl (by decide),Z1C (fun v L p h=>h.elim) n⟩)
 simp only [Z4A,List.mem_cons,List.not_mem_nil,or_false] at hm
 rcases hm with rfl|rfl|rfl
 ·exact ⟨_,.plain (by decide),by decide⟩
 ·exact ⟨_,.text (by decide) rfl (lift (.lit (List.mem_append_right _ (List.mem_append_right _ (List.mem_map.2 ⟨[97,32,98],by decide,rfl⟩)))) (by decide)),by decide⟩
 ·exact ⟨_,.var (by decide) (lift (.var (by decide)) (by decide)),by decide⟩
theorem Zdc {m:MV} {as:List MV} {ns:Bool} (hm:m∈Z4A) (ga:Gd h B a) (gs:Ga h B as):Gd (h+1) (5*B+100) (tn [109,99,97,108,108] [a,m,.tup as,.bool ns]):=by
 obtain ⟨p,hp,hl⟩:=Z58 ga
 obtain ⟨q,hq,hl2⟩:=ZbL (h:=h) hm
 obtain ⟨ps,hps,hl3⟩:=gs
 exact Z0f (.mcall hp hq hps) (by have:=Z6O (ps:=ps);show ln _≤_;rw [Z6,Z6,Z6];have:ln [arrow ns]≤3:=(by cases ns<;>decide);lia) hB
theorem Zf9 {m:MV} {ns:Bool} (hm:m∈Z4A) (ga:Gd h B a):Gd (h+1) (5*B+100) (tn [112,114,111,112] [a,m,.bool ns]):=by
 obtain ⟨p,hp,hl⟩:=Z58 ga
 obtain ⟨q,hq,hl2⟩:=ZbL (h:=h) hm
 exact Z0f (.prop hp hq) (by show ln _≤_;rw [Z6,Z6];have:ln [arrow ns]≤3:=(by cases ns<;>decide);lia) hB
theorem Zfc (ga:Gd h B a) (gb:Gd h B b):Gd (h+1) (5*B+100) (tn [100,105,109] [a,b]):=by
 obtain ⟨p,hp,hl⟩:=Z58 ga
 obtain ⟨L,q,hq,hl2⟩:=gb
 exact Z0f (.dim hp hq) (by show ln _≤_;rw [Z6,Z6,Z6];show ln p+1+ln q+1≤_;have:ln q≤B:=hl2;lia) hB
theorem Zdh {as:List MV} (gs:Ga h B as):Gd (h+1) (5*B+100) (tn [99,97,108,108] [tn [110,97,109,101] [.str [102]],.tup as]):=by
 obtain ⟨ps,hps,hl3⟩:=gs
 exact Z0f (.callf hps) (by have:=Z6O (ps:=ps);show ln _≤_;rw [Z7];show 1+ln (argText ps)≤_;lia) hB
theorem Zdg {as:List MV} (ga:Gd h B a) (gs:Ga h B as):Gd (h+1) (5*B+100) (tn [99,97,108,108] [a,.tup as]):=by
 obtain ⟨p,hp,hl⟩:=Z58 ga
 obtain ⟨ps,hps,hl3⟩:=gs
 have hl4:ln (if tagOf a=[112,114,111,112] then Zm p else p)≤B+4:=by
  have:ln p≤B+2:=hl
  split
  ·rw [ZJ];lia
  ·lia
 exact Z0f (.callo hp hps) (by have:=Z6O (ps:=ps);show ln _≤_;rw [Z6];lia) hB
theorem ZbT (ga:Gd h B a):Gd (h+1) (5*B+100) (tn [101,109,112,116,121] [a]):=by
 obtain ⟨L,p,hp,hl⟩:=ga
 exact Z0f (.empt hp) (by show ln _≤_;rw [Z7,ZJ];show 5+(ln p+2)≤_;have:ln p≤B:=hl;lia) hB
theorem ZbR (ga:Gd h B a) (gb:Gd h B b):Gd (h+1) (5*B+100) (tn [105,115,115,101,116] [.tup [a,b]]):=by
 obtain ⟨L,p,hp,hl⟩:=ga
 obtain ⟨L2,q,hq,hl2⟩:=gb
 exact Z0f (.iset (.cons hp (.cons hq .nil))) (by
  have h1:ln p≤B:=hl
  have h2:ln q≤B:=hl2
  have:=Z1w [p,q]
  show ln _≤_;rw [Z7,ZJ];show 5+(ln (Z2 [p,q])+2)≤_
  have:Z1Y [p,q]=ln p+2+(ln q+2+0):=rfl
  lia) hB
end
end Mine
namespace Mine
theorem Z8h {R:Z0c} {as ps} (h:Items R as ps):∀n,Items R (as.take n) (ps.take n):=by
 induction h with
 |nil=>intro n;rw [List.take_nil,List.take_nil];exact .nil
 |val hv _ ih=>intro n;cases n with
  |zero=>exact .nil
  |succ n=>exact .val hv (ih n)
 |key hk hv _ ih=>intro n;cases n with
  |zero=>exact .nil
  |succ n=>exact .key hk hv (ih n)
 |keyref hk hv _ ih=>intro n;cases n with
  |zero=>exact .nil
  |succ n=>exact .keyref hk hv (ih n)
 |spread hv _ ih=>intro n;cases n with
  |zero=>exact .nil
  |succ n=>exact .spread hv (ih n)
theorem Z8j {R:Z0c} {as ps} (h:Items R as ps):∀n,Items R (as.drop n) (ps.drop n):=by
 induction h with
 |nil=>intro n;rw [List.drop_nil,List.drop_nil];exact .nil
 |val hv h ih=>intro n;cases n with
  |zero=>exact .val hv h
  |succ n=>exact ih n
 |key hk hv h ih=>intro n;cases n with
  |zero=>exact .key hk hv h
  |succ n=>exact ih n
 |keyref hk hv h ih=>intro n;cases n with
  |zero=>exact .keyref hk hv h
  |succ n=>exact ih n
 |spread hv h ih=>intro n;cases n with
  |zero=>exact .spread hv h
  |succ n=>exact ih n
theorem Z7f:∀(ps:List (List Pc)) (n:Nat),Z1Y (ps.take n)≤Z1Y ps
 |[],n=>by rw [List.take_nil];exact Nat.le_refl _
 |p::ps,0=>Nat.zero_le _
 |p::ps,n+1=>by have:=Z7f ps n;show ln p+2+Z1Y (ps.take n)≤ln p+2+Z1Y ps;lia
theorem Z7g:∀(ps:List (List Pc)) (n:Nat),Z1Y (ps.drop n)≤Z1Y ps
 |[],n=>by rw [List.drop_nil];exact Nat.le_refl _
 |p::ps,0=>Nat.le_refl _
 |p::ps,n+1=>by have:=Z7g ps n;show Z1Y (ps.drop n)≤ln p+2+Z1Y ps;lia
theorem pt0 {h:Nat} {v L p} (n:Node (fun _ _ _=>False) v L p) (hl:ln p≤100):PT h v L p:=
 Z1P (Nat.zero_le h) (show PT 0 _ _ _ from ⟨n,Nat.le_trans hl (by decide),Z1C (fun v L p h=>h.elim) n⟩)
theorem Z3m {h:Nat} {n:List Nat} (hn:n∈varTab):PT h (tn [118,97,114] [.str n]) 21 [.var n]:=
 pt0 (.var hn) ((by decide:∀n∈varTab,ln [.var n]≤100) n hn)
theorem Z3n {h:Nat} {n:List Nat} (hn:n∈varTab):Z0z (PT h) (tn [118,97,114] [.str n]) [.var n]:=⟨rfl,21,Z3m hn⟩
noncomputable def is4 (a b:MV):List MV:=[.tup [.none,a,.bool false,.bool false],.tup [b,a,.bool false,.bool false],.tup [.none,b,.bool false,.bool true],.tup [a,tn [118,97,114] [.str [120]],.bool true,.bool false]]
noncomputable def arms2 (a t:MV):List MV:=[.tup [.tup [a,t],t],.tup [.none,a]]
section
variable {h B:Nat} (hB:5*B+100≤1000000) {a b c:MV}
include hB
theorem Zhd (lo hi:Nat) (ga:Gd h B a) (gb:Gd h B b):Gd (h+1) (5*B+100) (tn [97,114,114,97,121] [.tup (((is4 a b).take hi).drop lo)]):=by
 obtain ⟨pa',hpa,l1⟩:=ZK ga 5
 obtain ⟨pb',hpb,l2⟩:=ZK gb 5
 obtain ⟨La,pa,na,l3⟩:=ga
 obtain ⟨Lb,pb,nb,l4⟩:=gb
 have h4:Items (PT h) (is4 a b) [pa,pb'++[.sp,.op [61,62],.sp]++pa,.op [46,46,46]::pb,pa'++[.sp,.op [61,62],.sp,.op [38]]++[.var [120]]]:=
  .val na (.key hpb na (.spread nb (.keyref hpa (Z3m (by decide)) .nil)))
 refine Z0f (.arr (Z8j (Z8h h4 hi) lo)) ?_ hB
 have s1:=Z1w (List.drop lo (List.take hi [pa,pb'++[.sp,.op [61,62],.sp]++pa,.op [46,46,46]::pb,pa'++[.sp,.op [61,62],.sp,.op [38]]++[.var [120]]]))
 have s2:=Z7g (List.take hi [pa,pb'++[.sp,.op [61,62],.sp]++pa,.op [46,46,46]::pb,pa'++[.sp,.op [61,62],.sp,.op [38]]++[.var [120]]]) lo
 have s3:=Z7f [pa,pb'++[.sp,.op [61,62],.sp]++pa,.op [46,46,46]::pb,pa'++[.sp,.op [61,62],.sp,.op [38]]++[.var [120]]] hi
 have e:Z1Y [pa,pb'++[.sp,.op [61,62],.sp]++pa,.op [46,46,46]::pb,pa'++[.sp,.op [61,62],.sp,.op [38]]++[.var [120]]]=ln pa+2+(ln pb'+4+ln pa+2+(3+ln pb+2+(ln pa'+5+2+2+0))):=by
  show ln pa+2+(ln (pb'++[.sp,.op [61,62],.sp]++pa)+2+(ln (.op [46,46,46]::pb)+2+(ln (pa'++[.sp,.op [61,62],.sp,.op [38]]++[.var [120]])+2+0)))=_
  rw [Z6,Z6,Z7 (.op [46,46,46]) pb,Z6,Z6];rfl
 rw [e] at s3
 show ln _≤_
 rw [Z7,Z6]
 show 1+(ln _+1)≤_
 lia
theorem Zfa (n:Nat) {t:MV} (ga:Gd h B a) (gt:Gd h B t):Gd (h+1) (5*B+100) (tn [109,97,116,99,104] [a,.tup ((arms2 a t).take n)]):=by
 obtain ⟨pa',hpa,l1⟩:=ZK ga 5
 obtain ⟨pt',hpt,l2⟩:=ZK gt 5
 obtain ⟨La,pa,na,l3⟩:=ga
 obtain ⟨Lt,pt,nt,l4⟩:=gt
 have e1:ln (Z2 [pa',pt'])=ln pa'+2+ln pt':=by
  rw [ZS,Z6,Z6];rfl
 have hr:∃ps,Arms (PT h) ((arms2 a t).take n) ps∧ln (Z2 ps)≤4*B+60:=by
  match n with
  |0=>exact ⟨[],.nil,by show 0≤_;lia⟩
  |1=>
   refine ⟨_,.arm (.cons hpa (.one hpt)) nt .nil,?_⟩
   show ln (Z2 [pa',pt']++[.sp,.op [61,62],.sp]++pt)≤_
   rw [Z6,Z6,e1];show ln pa'+2+ln pt'+4+ln pt≤_;lia
  |n+2=>
   refine ⟨[Z2 [pa',pt']++[.sp,.op [61,62],.sp]++pt,.word [100,101,102,97,117,108,116]:: .sp:: .op [61,62]:: .sp::pa],?_,?_⟩
   ·have:(arms2 a t).take (n+2)=arms2 a t:=List.take_of_length_le (by show 2≤n+2;lia)
    rw [this]
    exact .arm (.cons hpa (.one hpt)) nt (.dflt na .nil)
   ·rw [ZS,Z6,Z6,Z6,Z6,e1]
    show ln pa'+2+ln pt'+4+ln pt+2+ln (.word [100,101,102,97,117,108,116]:: .sp:: .op [61,62]:: .sp::pa)≤_
    rw [Z7,Z7,Z7,Z7]
    show ln pa'+2+ln pt'+4+ln pt+2+(7+(1+(2+(1+ln pa))))≤_
    lia
 obtain ⟨ps,hps,hl⟩:=hr
 refine Z0f (.mtch na hps) ?_ hB
 show ln _≤_
 rw [Z7,Z7,Z6,Z6,ZJ,Z53]
 show 5+(1+(ln pa+2+1+(ln (Z2 ps)+2)))≤_
 lia
omit hB
noncomputable def pk1 (β:Bool) (p:List Pc):List Pc:=if β then .op [38]::p else p
theorem Z8c {R:Z0c} {G:MV→List Pc→Prop} {t:MV} {p:List Pc} (ht:G t p) (β:Bool) {r ps} (hr:Pats R G r ps):Pats R G (.tup [.none,t,.bool β]::r) (pk1 β p::ps):=by
 cases β with
 |true=>exact .ref ht hr
 |false=>exact .val ht hr
theorem ZeU (β:Bool) (p:List Pc):ln (pk1 β p)≤ln p+1:=by
 cases β with
 |true=>show ln (.op [38]::p)≤_;rw [Z7];show 1+ln p≤_;lia
 |false=>exact Nat.le_succ _
noncomputable def pk2 (β:Bool) (k p:List Pc):List Pc:=if β then k++[.sp,.op [61,62],.sp,.op [38]]++p else k++[.sp,.op [61,62],.sp]++p
theorem Zep {R:Z0c} {G:MV→List Pc→Prop} {k t:MV} {pk p:List Pc} (hk:Par R k 5 pk) (ht:G t p) (β:Bool) {r ps} (hr:Pats R G r ps):Pats R G (.tup [k,t,.bool β]::r) (pk2 β pk p::ps):=by
 cases β with
 |true=>exact .keyref hk ht hr
 |false=>exact .key hk ht hr
theorem ZbO (β:Bool) (k p:List Pc):ln (pk2 β k p)≤ln k+5+ln p:=by
 cases β with
 |true=>show ln (k++[.sp,.op [61,62],.sp,.op [38]]++p)≤_;rw [Z6,Z6];exact Nat.le_refl _
 |false=>show ln (k++[.sp,.op [61,62],.sp]++p)≤_;rw [Z6,Z6];show ln k+4+ln p≤_;lia
noncomputable abbrev G2 (h:Nat):MV→List Pc→Prop:=fun v p=>Z0z (PT h) v p∨(ZdL (PT h) v p∧Sm p)
theorem Z9w (is:List MV) (ps:List (List Pc)):ln (.op [91]::(Z2 ps++(if lastNone is then [.op [44]] else [])++[.op [93]]))≤Z1Y ps+3:=by
 have:=Z1w ps
 rw [Z7,Z6,Z6]
 cases lastNone is with
 |true=>show 1+(ln (Z2 ps)+1+1)≤_;lia
 |false=>show 1+(ln (Z2 ps)+0+1)≤_;lia
noncomputable def Z5V (f:MV):List (List MV):=[[.none,f,f],[f],[f,.none],[f,.tup [.none,tn [118,97,114] [.str [122]],.bool false]]]
theorem Zdd {t:MV} (β:Bool) (gt:Gp h B t) {is:List MV} (hi:is∈Z5V (.tup [.none,t,.bool β])):∃q,Zca (PT h) (tn [108,105,115,116] [.tup is]) q∧ln q≤4*B+60:=by
 obtain ⟨p,hp,hl⟩:=gt
 have h1:=ZeU β p
 have hp:G2 h t p:=.inl hp
 have hz:G2 h (tn [118,97,114] [.str [122]]) [.var [122]]:=.inl (Z3n (by decide))
 have fin:∀{is ps},Pats (PT h) (G2 h) is ps→is≠[]→Z1Y ps≤4*B+50→∃q,Zca (PT h) (tn [108,105,115,116] [.tup is]) q∧ln q≤4*B+60:=fun {is ps} hps hne hs=>
  ⟨_,⟨is,ps,rfl,hps,hne,rfl⟩,by have:=Z9w is ps;lia⟩
 simp only [Z5V,List.mem_cons,List.not_mem_nil,or_false] at hi
 rcases hi with rfl|rfl|rfl|rfl
 ·exact fin (.gap (Z8c hp β (Z8c hp β .nil))) (fun h=>by cases h) (by show 0+2+(ln (pk1 β p)+2+(ln (pk1 β p)+2+0))≤_;lia)
 ·exact fin (Z8c hp β .nil) (fun h=>by cases h) (by show ln (pk1 β p)+2+0≤_;lia)
 ·exact fin (Z8c hp β (.gap .nil)) (fun h=>by cases h) (by show ln (pk1 β p)+2+(0+2+0)≤_;lia)
 ·exact fin (Z8c hp β (Z8c hz false .nil)) (fun h=>by cases h) (by show ln (pk1 β p)+2+(2+2+0)≤_;lia)
noncomputable def Zba:MV:=tn [108,105,115,116] [.tup [.tup [.none,tn [118,97,114] [.str [121]],.bool false]]]
theorem Zde {k t x:MV} (β:Bool) (gk:Gd h 10 k) (gt:Gp h B t) (gx:Gd h B x):∃q,Zca (PT h) (tn [108,105,115,116] [.tup [.tup [k,t,.bool β],.tup [x,Zba,.bool false]]]) q∧ln q≤4*B+60:=by
 obtain ⟨p,hp,hl⟩:=gt
 obtain ⟨pk,hpk,hl2⟩:=ZK gk 5
 obtain ⟨px,hpx,hl3⟩:=ZK gx 5
 have hi:G2 h Zba [.op [91],.var [121],.op [93]]:=.inr ⟨⟨_,[[.var [121]]],rfl,.val (Z3n (by decide)) .nil,fun h=>(by cases h),rfl⟩,by decide,by decide⟩
 have h1:=ZbO β pk p
 have h2:=ZbO false px [.op [91],.var [121],.op [93]]
 refine ⟨_,⟨_,[pk2 β pk p,pk2 false px [.op [91],.var [121],.op [93]]],rfl,Zep hpk (.inl hp) β (Zep hpx hi false .nil),fun h=>(by cases h),rfl⟩,?_⟩
 have:=Z9w [.tup [k,t,.bool β],.tup [x,Zba,.bool false]] [pk2 β pk p,pk2 false px [.op [91],.var [121],.op [93]]]
 have e:Z1Y [pk2 β pk p,pk2 false px [.op [91],.var [121],.op [93]]]=ln (pk2 β pk p)+2+(ln (pk2 false px [.op [91],.var [121],.op [93]])+2+0):=rfl
 have e2:ln [.op [91],.var [121],.op [93]]=4:=rfl
 lia
end
end Mine
namespace Mine
theorem Zx {f np nl df b} (ft:FT f=some ⟨np,nl,df,b⟩) {d:Nat} {a:Addr} {vs:List MV} {l l':List MV} {v:MV} (t:List TE) {A:Prop→Prop} (x:∀F:Prop,F→A F)
  (h:Z6k (Z3 FT d) a np nl df b vs t l v l'=A (v=v∧some l'=some l')):Ct (Z3 FT (d+1)) a f vs l v l':=Zy ft (ZD (x _ ⟨rfl,rfl⟩) h)
noncomputable abbrev Sc (ns:List Int):MV:=.fl (ns.map .int)
noncomputable abbrev cn (n:Nat):List MV:=[.int (n:Nat)]
noncomputable abbrev Dr (d:Nat) (a:Addr) (ns:List Int) (n many r:Nat):Prop:=Ct (Z3 FT d) a 47 [Sc ns,.lst a,.int (many:Nat)] (cn n) (.int (r:Nat)) (cn (n+1))
theorem mulT {x y:Int} (h1:x.natAbs<2^64) (h2:y.natAbs<2^64):PrT .mul [.int x,.int y] (.int (x*y)):=Z5K (w:=.int (x*y)) (by
 show ifE (decide (x.natAbs<2^64)) (ifE (decide (y.natAbs<2^64)) _)=_
 rw [decide_eq_true h1,decide_eq_true h2];rfl) rfl
theorem fdivT {x y:Int} (h1:y≠0) (h2:y.natAbs<2^64):PrT .fdiv [.int x,.int y] (.int (x.fdiv y)):=fun σ Q q=>.inr ⟨x,y,rfl,h1,h2,q⟩
theorem modT {x:Int} {m r:Nat} (h:0<m) (e:x.fmod m=(r:Nat)):PrT .mod [.int x,.int (m:Nat)] (.int (r:Nat)):=fun σ Q q=>.inr ⟨x,m,rfl,by omega,by rw [e];exact q⟩
theorem Z1l {P:Nat→Prop} {n:Nat} (r:∀s,s<n→P s) (h:P n) (s:Nat) (hs:s<n+1):P s:=(Nat.lt_or_eq_of_le (Nat.le_of_lt_succ hs)).elim (r s) fun e=>e▸h
theorem by2 {P:Nat→Prop} (h0:P 0) (h1:P 1):∀s,s<2→P s:=Z1l (Z1l (fun _ h=>absurd h (Nat.not_lt_zero _)) h0) h1
theorem by3 {P:Nat→Prop} (h0:P 0) (h1:P 1) (h2:P 2):∀s,s<3→P s:=Z1l (by2 h0 h1) h2
theorem by4 {P:Nat→Prop} (h0:P 0) (h1:P 1) (h2:P 2) (h3:P 3):∀s,s<4→P s:=Z1l (by3 h0 h1 h2) h3
theorem Zib {P:Nat→Prop} (h0:P 0) (h1:P 1) (h2:P 2) (h3:P 3) (h4:P 4) (h5:P 5) (h6:P 6) (h7:P 7) (h8:P 8) (h9:P 9):∀s,s<10→P s:=Z1l (Z1l (Z1l (Z1l (Z1l (Z1l (by4 h0 h1 h2 h3) h4) h5) h6) h7) h8) h9
theorem Zje {P:Nat→Prop} (h0:P 0) (h1:P 1) (h2:P 2) (h3:P 3) (h4:P 4) (h5:P 5) (h6:P 6) (h7:P 7) (h8:P 8) (h9:P 9) (h10:P 10) (h11:P 11) (h12:P 12) (h13:P 13) (h14:P 14) (h15:P 15) (h16:P 16) (h17:P 17):∀s,s<18→P s:=Z1l (Z1l (Z1l (Z1l (Z1l (Z1l (Z1l (Z1l (Zib h0 h1 h2 h3 h4 h5 h6 h7 h8 h9) h10) h11) h12) h13) h14) h15) h16) h17
inductive DRe (d:Nat) (a:Addr) (ns:List Int) (n many:Nat):Prop
 |mk (r:Nat) (h:r<many) (x:Dr d a ns n many r)
inductive GRe (d:Nat) (a:Addr) (f:Nat) (vs:List MV) (n k:Nat) (P:MV→Prop):Prop
 |mk (v:MV) (n':Nat) (h:n'≤n+k) (c:Ct (Z3 FT d) a f vs (cn n) v (cn n')) (p:P v)
inductive GAe (d:Nat) (a:Addr) (f:Nat) (vs:List MV) (n k:Nat) (P:List MV→Prop):Prop
 |mk (v:List MV) (n':Nat) (h:n'≤n+k) (c:Ct (Z3 FT d) a f vs (cn n) (.tup v) (cn n')) (p:P v)
theorem Z4H {d:Nat} {a:Addr} {ns:List Int} {n:Nat} (many:Nat) (hm:0<many) (hn:n<1000000):DRe (d+1) a ns n many:=by
 have hf:∀x:Int,∃r:Nat,r<many∧x.fmod many=(r:Nat):=fun x=>by
  have hm':(0:Int)<many:=Int.natCast_pos.2 hm
  rw [Int.fmod_eq_emod_of_nonneg x (Int.le_of_lt hm')]
  obtain ⟨r,e⟩:=Int.eq_ofNat_of_zero_le (Int.emod_nonneg x (Int.ne_of_gt hm'))
  exact ⟨r,Int.ofNat_lt.1 (e▸Int.emod_lt_of_pos x hm'),e⟩
 by_cases h:n<ns.length
 ·obtain ⟨r,hr,e⟩:=hf ns[n]
  refine ⟨r,hr,?_⟩
  have hg:PrT .getitem [Sc ns,.int (n:Nat)] (.int ns[n]):=getF (by rw [List.getElem?_map,List.getElem?_eq_getElem h];rfl)
  have hl:MV.bool (decide ((n:Int)<((ns.map MV.int).length:Nat)))=.bool true:=ltT (by rw [List.length_map];exact h)
  exact Zx ZhW [.g (.int ((n:Int)+1)),.t true,.g (.int ns[n]),.g (.int (r:Nat))] (fun _ f=>And.intro (Eq.refl a)<|And.intro (addT n 1)<|And.intro (Eq.refl a)<|And.intro hl<|And.intro hg<|And.intro (modT hm e) f) (by kernel_rfl)
 ·have hl:MV.bool (decide ((n:Int)<((ns.map MV.int).length:Nat)))=.bool false:=ltF (by rw [List.length_map];exact h)
  have b1:((n:Nat):Int).natAbs<2^64:=Nat.lt_trans hn (by decide)
  generalize hx:(n:Int)*(n:Int)+(7*(n:Int)).fdiv 3+11*(n:Int).fdiv 6=x
  obtain ⟨r,hr,e⟩:=hf x
  refine ⟨r,hr,?_⟩
  have b2:((n:Int).fdiv 6).natAbs<2^64:=by
   have:(n:Int).fdiv 6=((n/6:Nat):Int):=by rw [Int.fdiv_eq_ediv_of_nonneg _ (by decide)];rfl
   rw [this];exact Nat.lt_of_le_of_lt (Nat.div_le_self n 6) (Nat.lt_trans hn (by decide))
  subst hx
  exact Zx ZhW [.g (.int ((n:Int)+1)),.t false,.g (.int ((n:Int)*n)),.g (.int (7*(n:Int))),.g (.int ((7*(n:Int)).fdiv 3)),.g (.int ((n:Int)*n+(7*(n:Int)).fdiv 3)),.g (.int ((n:Int).fdiv 6)),.g (.int (11*(n:Int).fdiv 6)),.g (.int ((n:Int)*n+(7*(n:Int)).fdiv 3+11*(n:Int).fdiv 6)),.g (.int (r:Nat))]
   (fun _ f=>And.intro (Eq.refl a)<|And.intro (addT n 1)<|And.intro (Eq.refl a)<|And.intro hl<|And.intro (mulT b1 b1)<|And.intro (mulT (x:=7) (by decide) b1)<|And.intro (fdivT (x:=7*(n:Int)) (y:=3) (by decide) (by decide))<|And.intro (addT ((n:Int)*n) ((7*(n:Int)).fdiv 3))<|And.intro (fdivT (x:=(n:Int)) (y:=6) (by decide) (by decide))<|And.intro (mulT (x:=11) (by decide) b2)<|And.intro (addT ((n:Int)*n+(7*(n:Int)).fdiv 3) (11*(n:Int).fdiv 6))<|And.intro (modT hm e) f) (by kernel_rfl)
end Mine
namespace Mine
noncomputable def Kt:Nat→Nat
 |0=>3
 |d+1=>6*Kt d+30
noncomputable def Bt:Nat→Nat
 |0=>30
 |d+1=>5*Bt d+100
theorem eqI (r k:Nat) {β:Bool} (h:(r==k)=β):MV.bool (((r:Int)==(k:Int)) !=false)=.bool β:=by
 have e:((r:Int)==(k:Int))=(r==k):=by rw [Bool.eq_iff_iff,beq_iff_eq,beq_iff_eq];lia
 rw [e,h];cases β<;>rfl
theorem eqPr (r k:Nat):PrT .eq [.int (r:Nat),.int (k:Nat)] (.bool (r==k)):=Z5K rfl (eqI r k rfl)
theorem subP (m n k:Nat) (h:m=n+k):PrT .sub [.int (m:Nat),.int (k:Nat)] (.int (n:Nat)):=Z5K rfl (congrArg MV.int (show ((m:Int)-(k:Int))=(n:Int) by lia))
theorem xyz {r:Nat} (h:r<3):∃c,[120,121,122][r]? =some c∧[c]∈varTab:=by
 have:∀r∈List.range 3,∃c∈[120,121,122],[120,121,122][r]? =some c∧[c]∈varTab:=by decide+kernel
 obtain ⟨c,-,h1,h2⟩:=this r (List.mem_range.2 h)
 exact ⟨c,h1,h2⟩
noncomputable def leaf6:List MV:=[.int 0,.int 1,.int 9223372036854775807,.none,.bool true,.bool false]
noncomputable def leaf7:List MV:=[.str [],.str [97],.str [39],.str [92],.str [92,39],.str [36,120,10],.str [45,45]]
noncomputable def leafC:List MV:=[.str [75],.str [102,114,111,109],.str [105,110,116],.str [83,116,114,105,110,103],.str [102,114,111,109,97,103,101],.str [111,98,106,101,99,116]]
theorem ZbP {x:MV} {p:Pc} (h:(x,p)∈litTab):Gd 0 30 (tn [108,105,116] [x]):=by
 have:∀x∈litTab,ln [x.2]≤30:=by decide+kernel
 exact Z5X (.lit h) (this _ h) (by decide)
theorem l6 {r:Nat} (h:r<6):∃x,leaf6[r]? =some x∧Gd 0 30 (tn [108,105,116] [x]):=by
 have e:leaf6=(litTab.take 6).map Prod.fst:=by kernel_rfl
 have hm:∀x∈leaf6,Gd 0 30 (tn [108,105,116] [x]):=fun x hx=>by
  rw [e] at hx
  obtain ⟨⟨y,q⟩,hy,rfl⟩:=List.mem_map.1 hx
  exact ZbP (List.mem_of_mem_take hy)
 exact ⟨_,List.getElem?_eq_getElem h,hm _ (List.getElem_mem (l:=leaf6) h)⟩
theorem ZdS {s:List Nat} (h:txtTab.contains s=true):Gd 0 30 (tn [108,105,116] [.str s]):=
 ZbP (p:=.text s) (List.mem_append_right _ (List.mem_append_right _ (List.mem_map.2 ⟨s,List.contains_iff_mem.1 h,rfl⟩)))
noncomputable def Zgo (x:MV):Bool:=x.s?.elim false txtTab.contains
theorem l7 {r:Nat} (h:r<7):∃x,leaf7[r]? =some x∧Gd 0 30 (tn [108,105,116] [x]):=by
 have e:∀x∈leaf7,Zgo x=true:=by decide+kernel
 have e:=e _ (List.getElem_mem (l:=leaf7) h)
 refine ⟨_,List.getElem?_eq_getElem h,?_⟩
 generalize leaf7[r]=x at e ⊢
 cases x with
 |str s=>exact ZdS e
 |_=>cases e
theorem Zfr {n:List Nat} (h:cstTab.any (fun x=>x.1==n)=true):Gd 0 30 (tn [99,111,110,115,116] [.str n]):=by
 obtain ⟨⟨m,p⟩,hx,e⟩:=List.any_eq_true.1 h
 obtain rfl:=eq_of_beq e
 have:∀x∈cstTab,ln x.2≤30:=by decide+kernel
 exact Z5X (.cst hx) (this _ hx) (by decide)
noncomputable def Zj7 (x:MV):Bool:=x.s?.elim false fun n=>cstTab.any fun x=>x.1==n
theorem lC {r:Nat} (h:r<6):∃x,leafC[r]? =some x∧Gd 0 30 (tn [99,111,110,115,116] [x]):=by
 have e:∀x∈leafC,Zj7 x=true:=by decide+kernel
 have e:=e _ (List.getElem_mem (l:=leafC) h)
 refine ⟨_,List.getElem?_eq_getElem h,?_⟩
 generalize leafC[r]=x at e ⊢
 cases x with
 |str s=>exact Zfr e
 |_=>cases e
theorem Z8w {n:List Nat} (h:n∈varTab):Gd 0 30 (tn [118,97,114] [.str n]):=by
 have:∀n∈varTab,ln [.var n]≤30:=by decide+kernel
 exact Z5X (.var h) (this _ h) (by decide)
theorem c50 {d:Nat} {a:Addr} {ns:List Int} {n:Nat} (hn:n+3≤1000000):∃v,Ct (Z3 FT (d+2)) a 50 [Sc ns,.lst a] (cn n) v (cn (n+2))∧Gd 0 30 v:=by
 obtain ⟨r,hr,h1⟩:=Z4H (d:=d) (a:=a) (ns:=ns) (n:=n) 10 (by decide) (by lia)
 by_cases c1:r<5
 ·obtain ⟨r2,hr2,h2⟩:=Z4H (d:=d) (a:=a) (ns:=ns) (n:=n+1) 3 (by decide) (by lia)
  obtain ⟨c,hc,hv⟩:=xyz hr2
  exact ⟨tn [118,97,114] [.str [c]],Zx Zg0 [.c (.int (r:Nat)) (cn (n+1)),.t true,.c (.int (r2:Nat)) (cn (n+2)),.g (.str [c])] (fun _ f=>And.intro h1<|And.intro (ltT (n:=5) c1)<|And.intro h2<|And.intro (getT hc) f) (by kernel_rfl),Z8w hv⟩
 ·by_cases c2:r<7
  ·obtain ⟨r2,hr2,h2⟩:=Z4H (d:=d) (a:=a) (ns:=ns) (n:=n+1) 6 (by decide) (by lia)
   obtain ⟨x,hx,g⟩:=l6 hr2
   exact ⟨tn [108,105,116] [x],Zx Zg0 [.c (.int (r:Nat)) (cn (n+1)),.t false,.t true,.c (.int (r2:Nat)) (cn (n+2)),.g x] (fun _ f=>And.intro h1<|And.intro (ltF (n:=5) c1)<|And.intro (ltT (n:=7) c2)<|And.intro h2<|And.intro (getF hx) f) (by kernel_rfl),g⟩
  ·by_cases c3:r=7
   ·obtain ⟨r2,hr2,h2⟩:=Z4H (d:=d) (a:=a) (ns:=ns) (n:=n+1) 7 (by decide) (by lia)
    obtain ⟨x,hx,g⟩:=l7 hr2
    exact ⟨tn [108,105,116] [x],Zx Zg0 [.c (.int (r:Nat)) (cn (n+1)),.t false,.t false,.t true,.c (.int (r2:Nat)) (cn (n+2)),.g x] (fun _ f=>And.intro h1<|And.intro (ltF (n:=5) c1)<|And.intro (ltF (n:=7) c2)<|And.intro (eqI r 7 (by rw [c3]))<|And.intro h2<|And.intro (getF hx) f) (by kernel_rfl),g⟩
   ·obtain ⟨r2,hr2,h2⟩:=Z4H (d:=d) (a:=a) (ns:=ns) (n:=n+1) 6 (by decide) (by lia)
    obtain ⟨x,hx,g⟩:=lC hr2
    exact ⟨tn [99,111,110,115,116] [x],Zx Zg0 [.c (.int (r:Nat)) (cn (n+1)),.t false,.t false,.t false,.c (.int (r2:Nat)) (cn (n+2)),.g x] (fun _ f=>And.intro h1<|And.intro (ltF (n:=5) c1)<|And.intro (ltF (n:=7) c2)<|And.intro (eqI r 7 (beq_eq_false_iff_ne.2 c3))<|And.intro h2<|And.intro (getF hx) f) (by kernel_rfl),g⟩
noncomputable def Tr (deep D:Nat):Prop:=∀{d:Nat} {a:Addr} {ns:List Int} {n:Nat},D≤d→n+Kt deep≤900000→GRe d a 54 [Sc ns,.lst a,.int (deep:Nat)] n (Kt deep) (Gd (deep+2) (Bt deep))
noncomputable def Tg (deep D:Nat):Prop:=∀{d:Nat} {a:Addr} {ns:List Int} {n:Nat},D≤d→n+Kt deep≤900000→GRe d a 51 [Sc ns,.lst a,.int (deep:Nat)] n (Kt deep) (Gp (deep+2) (Bt deep))
theorem Z99 {h:Nat} {c:List Nat} {m:List Nat} (hc:c∈varTab) (hm:m∈memNames):PT (h+1) (tn [112,114,111,112] [tn [118,97,114] [.str c],tn [108,105,116] [.str m],.bool false]) 21 ([.var c]++[arrow false]++[.word m]):=by
 have hl:∀c∈varTab,∀m∈memNames,ln ([.var c]++[arrow false]++[.word m])≤8:=by decide+kernel
 have nd:Node (PT h) (tn [112,114,111,112] [tn [118,97,114] [.str c],tn [108,105,116] [.str m],.bool false]) 21 ([.var c]++[arrow false]++[.word m]):=.prop ⟨21,[.var c],Z3m hc,rfl⟩ (.plain hm)
 exact .inr ⟨nd,Nat.le_trans (hl c hc m hm) (by decide),Z1C (fun v L p h=>(Z6I h).2) nd⟩
theorem Z6e:∀d,30≤Bt d
 |0=>Nat.le_refl 30
 |d+1=>by show 30≤5*Bt d+100;lia
theorem Z7s:∀d,3≤Kt d
 |0=>Nat.le_refl 3
 |d+1=>by show 3≤6*Kt d+30;lia
theorem Zco {deep D:Nat} (hT:∀e,deep=e+1→Tr e D∧Bt deep≤1000000):Tg deep (D+2):=by
 intro d a ns n hd hn
 obtain ⟨d,rfl⟩:=Nat.exists_eq_add_of_le' (Nat.le_trans (Nat.le_add_left 2 _) hd)
 have kp:=Z7s deep
 have bp:=Z6e deep
 obtain ⟨r,hr,h1⟩:=Z4H (d:=d) (a:=a) (ns:=ns) (n:=n) 5 (by decide) (by lia)
 obtain ⟨r2,hr2,h2⟩:=Z4H (d:=d) (a:=a) (ns:=ns) (n:=n+1) 3 (by decide) (by lia)
 obtain ⟨c,hc,hv⟩:=xyz hr2
 have base:Gp (deep+2) (Bt deep) (tn [118,97,114] [.str [c]]):=⟨_,Z3n hv,by
  have:∀n∈varTab,ln [.var n]≤30:=by decide+kernel
  exact Nat.le_trans (this _ hv) bp⟩
 have pp:∀(m:List Nat) (_:m∈memNames) (h:Nat),ln ([.var [c]]++[arrow false]++[.word m])≤8:=fun m hm h=>by
  have hl:∀c∈varTab,∀m∈memNames,ln ([.var c]++[arrow false]++[.word m])≤8:=by decide+kernel
  exact hl _ hv m hm
 match r,hr,h1 with
 |0,_,h1=>exact ⟨_,n+2,by lia,Zx ZdK [.c (.int (0:Nat)) (cn (n+1)),.c (.int (r2:Nat)) (cn (n+2)),.g (.str [c])] (fun _ f=>And.intro h1<|And.intro h2<|And.intro (getT hc) f) (by kernel_rfl),base⟩
 |4,_,h1=>exact ⟨_,n+2,by lia,Zx ZdK [.c (.int (4:Nat)) (cn (n+1)),.c (.int (r2:Nat)) (cn (n+2)),.g (.str [c])] (fun _ f=>And.intro h1<|And.intro h2<|And.intro (getT hc) f) (by kernel_rfl),base⟩
 |2,_,h1=>
  refine ⟨tn [112,114,111,112] [tn [118,97,114] [.str [c]],tn [108,105,116] [.str [112]],.bool false],n+2,by lia,Zx ZdK [.c (.int (2:Nat)) (cn (n+1)),.c (.int (r2:Nat)) (cn (n+2)),.g (.str [c])] (fun _ f=>And.intro h1<|And.intro h2<|And.intro (getT hc) f) (by kernel_rfl),?_⟩
  exact ⟨_,⟨rfl,21,Z1P (Nat.succ_le_succ (Nat.zero_le (deep+1))) (Z99 (h:=0) hv (by decide:[112]∈memNames))⟩,Nat.le_trans (pp [112] (by decide) 0) (by lia)⟩
 |3,_,h1=>
  refine ⟨tn [100,105,109] [tn [112,114,111,112] [tn [118,97,114] [.str [c]],tn [108,105,116] [.str [113]],.bool false],.none],n+2,by lia,Zx ZdK [.c (.int (3:Nat)) (cn (n+1)),.c (.int (r2:Nat)) (cn (n+2)),.g (.str [c])] (fun _ f=>And.intro h1<|And.intro h2<|And.intro (getT hc) f) (by kernel_rfl),?_⟩
  have nd:Node (PT 1) (tn [100,105,109] [tn [112,114,111,112] [tn [118,97,114] [.str [c]],tn [108,105,116] [.str [113]],.bool false],.none]) 21 ([.var [c]]++[arrow false]++[.word [113]]++[.op [91],.op [93]]):=
   .dim0 ⟨21,_,Z99 (h:=0) hv (by decide:[113]∈memNames),rfl⟩
  have l1:=pp [113] (by decide) 0
  have l2:ln ([.var [c]]++[arrow false]++[.word [113]]++[.op [91],.op [93]])≤10:=by rw [Z6];show ln _+2≤10;lia
  exact ⟨_,⟨rfl,21,Z1P (Nat.le_add_left 2 deep) (show PT 2 _ _ _ from .inr ⟨nd,Nat.le_trans l2 (by decide),Z1C (fun v L p h=>(Z6I h).2) nd⟩)⟩,Nat.le_trans l2 (by lia)⟩
 |1,_,h1=>
  match deep,hT,hn,kp,bp,base with
  |0,_,hn,kp,bp,base=>
   exact ⟨_,n+2,by lia,Zx ZdK [.c (.int (1:Nat)) (cn (n+1)),.c (.int (r2:Nat)) (cn (n+2)),.g (.str [c]),.t true,.t false] (fun _ f=>And.intro h1<|And.intro h2<|And.intro (getT hc)<|And.intro (Eq.refl (MV.bool true))<|And.intro (Eq.refl (MV.bool false)) f) (by kernel_rfl),base⟩
  |e+1,hT,hn,kp,bp,base=>
   obtain ⟨hT,hB⟩:=hT e rfl
   have hn':n+(6*Kt e+30)≤900000:=hn
   obtain ⟨v,n',hk,hc54,hg⟩:=hT (d:=d+1) (a:=a) (ns:=ns) (n:=n+2) (by lia) (by lia)
   refine ⟨tn [100,105,109] [tn [118,97,114] [.str [c]],v],n',by show n'≤n+(6*Kt e+30);lia,Zx ZdK [.c (.int (1:Nat)) (cn (n+1)),.c (.int (r2:Nat)) (cn (n+2)),.g (.str [c]),.t true,.t true,.g (.int (e:Nat)),.c v (cn n')]
    (fun _ f=>And.intro h1<|And.intro h2<|And.intro (getT hc)<|And.intro (Eq.refl (MV.bool true))<|And.intro (ltT (i:=0) (Nat.succ_pos e))<|And.intro (subP (e+1) e 1 rfl)<|And.intro hc54 f) (by kernel_rfl),?_⟩
   obtain ⟨L,p,hp,hl⟩:=hg
   have nd:Node (PT (e+2)) (tn [100,105,109] [tn [118,97,114] [.str [c]],v]) 21 ([.var [c]]++[.op [91]]++p++[.op [93]]):=.dim ⟨21,[.var [c]],Z3m hv,rfl⟩ hp
   have l2:ln ([.var [c]]++[.op [91]]++p++[.op [93]])≤Bt (e+1):=by
    rw [Z6,Z6,Z6]
    have:∀n∈varTab,ln [.var n]≤30:=by decide+kernel
    have:=this _ hv
    show ln [.var [c]]+1+ln p+1≤5*Bt e+100
    lia
   exact ⟨_,⟨rfl,21,.inr ⟨nd,Nat.le_trans l2 hB,Z1C (fun v L p h=>(Z6I h).2) nd⟩⟩,l2⟩
end Mine
namespace Mine
theorem getU {l:List MV} {i:Nat} {v:MV} (h:l[i]? =some v):PrT .getitem [.tup l,.int (i:Nat)] v:=Z5K (w:=v) (by
 show orE (orE (b0 (l[i]?) ok) (orE none none)) none=_
 rw [h];rfl) rfl
theorem rngT (r:Nat) (h:r<2^30):PrT .range [.int (r:Nat)] (.rng (r:Nat)):=fun σ Q q=>.inr ⟨_,rfl,by show ((r:Nat):Int).natAbs<2^30;lia,q⟩
noncomputable def Gq (h B:Nat) (v:MV):Prop:=∃q,Zca (PT h) v q∧ln q≤B
theorem lb {x p B k:Nat} (h:x≤p+k) (g:p≤B) (hk:k≤6):x≤B+6:=Nat.le_trans h (Nat.add_le_add g hk)
theorem lb1 {a B:Nat} (h:a≤B+6):a+2+0≤4*B+60:=by lia
theorem lb2 {a b B:Nat} (h:a≤B+6) (h':b≤B+6):a+2+(b+2+0)≤4*B+60:=by lia
theorem lb3 {a b c B:Nat} (h:a≤B+6) (h':b≤B+6) (h'':c≤B+6):a+2+(b+2+(c+2+0))≤4*B+60:=by lia
theorem lt3 {r:Nat} (h:r<3):r=0∨r=1∨r=2:=by lia
theorem lt4 {r:Nat} (h:r<4):r=0∨r=1∨r=2∨r=3:=by lia
section
variable {deep D:Nat} (hT:Tr deep D) (hG:Tg 0 D) (hB:5*Bt deep+100≤1000000)
include hT hG hB
theorem c52 {d:Nat} {a:Addr} {ns:List Int} {n:Nat} (hd:D+1≤d) (hn:n+Kt deep+20≤900000):
  GRe (d+1) a 52 [Sc ns,.lst a,.int (deep:Nat)] n (Kt deep+10) (Gq (deep+2) (4*Bt deep+60)):=by
 obtain ⟨d,rfl⟩:=Nat.exists_eq_add_of_le' (Nat.le_trans (Nat.le_add_left 1 _) hd)
 obtain ⟨r,hr,h1⟩:=Z4H (d:=d) (a:=a) (ns:=ns) (n:=n) 3 (by decide) (by lia)
 obtain ⟨t,n1,hn1,h2,gt⟩:=hG (d:=d+1) (a:=a) (ns:=ns) (n:=n+1) (by lia) (by show n+1+3≤900000;lia)
 have hn1:n1≤n+1+3:=hn1
 have gt:=Zh5 gt (Nat.le_add_left 2 deep:0+2≤deep+2) (Z6e deep)
 obtain ⟨r2,hr2,h3⟩:=Z4H (d:=d) (a:=a) (ns:=ns) (n:=n1) 3 (by decide) (by lia)
 have hkey:∀key:MV,Gd 0 30 key→Gd (deep+2) 10 key→key.isNil=false→[MV.none,tn [108,105,116] [.str [107]],tn [99,111,110,115,116] [.str [75]]][r]? =some key→
   GRe (d+1+1) a 52 [Sc ns,.lst a,.int (deep:Nat)] n (Kt deep+10) (Gq (deep+2) (4*Bt deep+60)):=by
  intro key _ gk hnil hk
  obtain ⟨x,n2,hn2,h4,gx⟩:=hT (d:=d+1) (a:=a) (ns:=ns) (n:=n1+1) (by lia) (by lia)
  have e1:MV.bool (key.isNil !=true)=.bool true:=by rw [hnil];rfl
  refine ⟨tn [108,105,115,116] [.tup [.tup [key,t,.bool (r2==1)],.tup [x,Zba,.bool false]]],n2,by lia,Zx ZhV [.c (.int (r:Nat)) (cn (n+1)),.g key,.c t (cn n1),.c (.int (r2:Nat)) (cn (n1+1)),.g (.bool (r2==1)),.t true,.c x (cn n2)]
   (fun _ f=>And.intro h1<|And.intro (getF hk)<|And.intro h2<|And.intro h3<|And.intro (eqPr r2 1)<|And.intro e1<|And.intro h4 f) (by kernel_rfl),?_⟩
  exact Zde (r2==1) gk gt gx
 rcases lt3 hr with rfl|rfl|rfl
 ·obtain ⟨r4,hr4,h4⟩:=Z4H (d:=d) (a:=a) (ns:=ns) (n:=n1+1) 4 (by decide) (by lia)
  obtain ⟨is,hi,hm⟩:∃is,(Z5V (.tup [.none,t,.bool (r2==1)]))[r4]? =some is∧is∈Z5V (.tup [.none,t,.bool (r2==1)]):=⟨_,List.getElem?_eq_getElem (show r4<4 from hr4),List.getElem_mem _⟩
  have hi2:[MV.tup [.none,.tup [.none,t,.bool (r2==1)],.tup [.none,t,.bool (r2==1)]],.tup [.tup [.none,t,.bool (r2==1)]],.tup [.tup [.none,t,.bool (r2==1)],.none],.tup [.tup [.none,t,.bool (r2==1)],.tup [.none,tn [118,97,114] [.str [122]],.bool false]]][r4]? =some (.tup is):=by
   have:((Z5V (.tup [.none,t,.bool (r2==1)])).map MV.tup)[r4]? =some (.tup is):=by rw [List.getElem?_map,hi];rfl
   exact this
  refine ⟨tn [108,105,115,116] [.tup is],n1+2,by have:=Z7s deep;lia,Zx ZhV [.c (.int (0:Nat)) (cn (n+1)),.g .none,.c t (cn n1),.c (.int (r2:Nat)) (cn (n1+1)),.g (.bool (r2==1)),.t false,.c (.int (r4:Nat)) (cn (n1+2)),.g (.tup is)]
   (fun _ f=>And.intro h1<|And.intro (getF (ts:=[MV.none,tn [108,105,116] [.str [107]],tn [99,111,110,115,116] [.str [75]]]) (i:=0) (v:=MV.none) rfl)<|And.intro h2<|And.intro h3<|And.intro (eqPr r2 1)<|And.intro (Eq.refl (MV.bool false))<|And.intro h4<|And.intro (getU hi2) f) (by kernel_rfl),?_⟩
  exact Zdd (r2==1) gt hm
 ·have gk:Gd 0 10 (tn [108,105,116] [.str [107]]):=Z5X (.lit (List.mem_append_right _ (List.mem_append_right _ (List.mem_map.2 ⟨[107],by decide,rfl⟩)))) (by decide) (by decide)
  exact hkey _ (Z4j gk (Nat.le_refl 0) (by decide)) (Z4j gk (Nat.zero_le _) (Nat.le_refl 10)) rfl rfl
 ·have hm:∃p,([75],p)∈cstTab∧ln p≤10:=⟨[.word [75]],List.mem_append_left _ (.head _),by decide⟩
  obtain ⟨p,hp,hl⟩:=hm
  have gk:Gd 0 10 (tn [99,111,110,115,116] [.str [75]]):=Z5X (.cst hp) hl (by decide)
  exact hkey _ (Z4j gk (Nat.le_refl 0) (by decide)) (Z4j gk (Nat.zero_le _) (Nat.le_refl 10)) rfl rfl
theorem c53 {d:Nat} {a:Addr} {ns:List Int} {n:Nat} (hd:D+1≤d) (hn:n+3*Kt deep+20≤900000):
  GAe (d+1) a 53 [Sc ns,.lst a,.int (deep:Nat)] n (3*Kt deep+10) (Ga (deep+2) (Bt deep)):=by
 obtain ⟨d,rfl⟩:=Nat.exists_eq_add_of_le' (Nat.le_trans (Nat.le_add_left 1 _) hd)
 have bp:=Z6e deep
 obtain ⟨r,hr,h1⟩:=Z4H (d:=d) (a:=a) (ns:=ns) (n:=n) 3 (by decide) (by lia)
 have tree:∀m,m+Kt deep≤900000→GRe (d+1) a 54 [Sc ns,.lst a,.int (deep:Nat)] m (Kt deep) (Gd (deep+2) (Bt deep)):=fun m hm=>hT (by lia) hm
 have whole:∀{n' as},(∀b,(ne:a≠b)→∀σ0:Z4,σ0 b=none→∀Q:ZT,Q (.tup as) (upd σ0 a (cn n'))→wpSs (Z3 FT (d+1)) (b53.drop 1) [some (Sc ns),some (.lst a),some (.int (deep:Nat)),some (.lst b),none] (S2 σ0 a b (cn n) []) fun o _ σ'=>∃σ'',ZG σ'' σ'∧Q (ZbJ o) σ'')→
   Ct (Z3 FT (d+1+1)) a 53 [Sc ns,.lst a,.int (deep:Nat)] (cn n) (.tup as) (cn n'):=by
  intro n' as hw σ Q hs q
  refine Z03 ZiU rfl ?_
  show wpSs _ (.assign 3 (.pr .mkList [])::b53.drop 1) _ _ _
  refine Z0Q fun b hb=>?_
  have ne:a≠b:=fun e=>by rw [←e,hs] at hb;cases hb
  rw [Z3o hs]
  exact hw b ne σ hb Q q
 have item:∀{β:Bool} {v:MV} {L:Nat} {p:List Pc} {r ps},PT (deep+2) v L p→Args (PT (deep+2)) r ps→Args (PT (deep+2)) (.tup [v,.bool β,.none]::r) ((if β then .op [46,46,46]::p else p)::ps):=by
  intro β v L p r ps hv hr
  cases β with
  |true=>exact .spread hv hr
  |false=>exact .val hv hr
 have iln:∀(β:Bool) (p:List Pc),ln (if β then .op [46,46,46]::p else p)≤ln p+3:=by
  intro β p
  cases β with
  |true=>show ln (.op [46,46,46]::p)≤_;rw [Z7];show 3+ln p≤_;lia
  |false=>exact Nat.le_add_right _ _
 have nln:∀p:List Pc,ln (.word [110,97,109,101]:: .op [58]:: .sp::p)≤ln p+6:=fun p=>by rw [Z7,Z7,Z7];show 4+(1+(1+ln p))≤_;lia
 rcases lt3 hr with rfl|rfl|rfl
 ·obtain ⟨rz,hrz,hz⟩:=Z4H (d:=d) (a:=a) (ns:=ns) (n:=n+1) 3 (by decide) (by lia)
  cases hβ:(rz==1) with
  |false=>
   refine ⟨[],n+2,by lia,whole fun b ne σ0 hb Q q=>Z67 ne (l':=cn (n+2)) (m':=[]) (t:=[.c (.int (0:Nat)) (cn (n+1)),.g (.rng (0:Nat)),.c (.int (rz:Nat)) (cn (n+2)),.t false])
    (ZD (And.intro h1<|And.intro (rngT 0 (by decide))<|And.intro hz<|And.intro (eqI rz 1 hβ)<|And.intro (Eq.refl b)<|And.intro (Eq.refl (Out.ret (.tup [])))<|And.intro (Eq.refl (some (cn (n+2)))) (Eq.refl (some ([]:List MV)))) (by kernel_rfl)) hb q,[],.nil,Nat.zero_le _⟩
  |true=>
   obtain ⟨v,n3,hn3,hv,L,p,gp,gl⟩:=tree (n+2) (by lia)
   refine ⟨[.tup [v,.bool false,.str [110,97,109,101]]],n3,by lia,whole fun b ne σ0 hb Q q=>Z67 ne (l':=cn n3) (m':=[.tup [v,.bool false,.str [110,97,109,101]]]) (t:=[.c (.int (0:Nat)) (cn (n+1)),.g (.rng (0:Nat)),.c (.int (rz:Nat)) (cn (n+2)),.t true,.c v (cn n3)])
    (ZD (And.intro h1<|And.intro (rngT 0 (by decide))<|And.intro hz<|And.intro (eqI rz 1 hβ)<|And.intro (Eq.refl b)<|And.intro hv<|And.intro (Eq.refl b)<|And.intro (by decide:([]:List MV).length<SL)<|And.intro (Eq.refl b)<|And.intro (Eq.refl (Out.ret (.tup [.tup [v,.bool false,.str [110,97,109,101]]])))<|And.intro (Eq.refl (some (cn n3))) (Eq.refl (some [MV.tup [v,.bool false,.str [110,97,109,101]]]))) (by kernel_rfl)) hb q,
    _,.named gp .nil,lb1 (lb (nln p) gl (by decide))⟩
 ·obtain ⟨v1,n1,hn1,hv1,L1,p1,gp1,gl1⟩:=tree (n+1) (by lia)
  obtain ⟨r1,hr1,hd1⟩:=Z4H (d:=d) (a:=a) (ns:=ns) (n:=n1) 4 (by decide) (by lia)
  obtain ⟨rz,hrz,hz⟩:=Z4H (d:=d) (a:=a) (ns:=ns) (n:=n1+1) 3 (by decide) (by lia)
  cases hβ:(rz==1) with
  |false=>
   refine ⟨[.tup [v1,.bool (r1==1),.none]],n1+2,by lia,whole fun b ne σ0 hb Q q=>Z67 ne (l':=cn (n1+2)) (m':=[.tup [v1,.bool (r1==1),.none]]) (t:=[.c (.int (1:Nat)) (cn (n+1)),.g (.rng (1:Nat)),.c v1 (cn n1),.c (.int (r1:Nat)) (cn (n1+1)),.g (.bool (r1==1)),.c (.int (rz:Nat)) (cn (n1+2)),.t false])
    (ZD (And.intro h1<|And.intro (rngT 1 (by decide))<|And.intro (Eq.refl b)<|And.intro hv1<|And.intro hd1<|And.intro (eqPr r1 1)<|And.intro (Eq.refl b)<|And.intro (by decide:([]:List MV).length<SL)<|And.intro hz<|And.intro (eqI rz 1 hβ)<|And.intro (Eq.refl b)<|
     And.intro (Eq.refl (Out.ret (.tup [.tup [v1,.bool (r1==1),.none]])))<|And.intro (Eq.refl (some (cn (n1+2)))) (Eq.refl (some [MV.tup [v1,.bool (r1==1),.none]]))) (by kernel_rfl)) hb q,
    _,item gp1 .nil,lb1 (lb (iln (r1==1) p1) gl1 (by decide))⟩
  |true=>
   obtain ⟨v,n3,hn3,hv,L,p,gp,gl⟩:=tree (n1+2) (by lia)
   refine ⟨[.tup [v1,.bool (r1==1),.none],.tup [v,.bool false,.str [110,97,109,101]]],n3,by lia,whole fun b ne σ0 hb Q q=>Z67 ne (l':=cn n3) (m':=[.tup [v1,.bool (r1==1),.none],.tup [v,.bool false,.str [110,97,109,101]]]) (t:=[.c (.int (1:Nat)) (cn (n+1)),.g (.rng (1:Nat)),.c v1 (cn n1),.c (.int (r1:Nat)) (cn (n1+1)),.g (.bool (r1==1)),.c (.int (rz:Nat)) (cn (n1+2)),.t true,.c v (cn n3)])
    (ZD (And.intro h1<|And.intro (rngT 1 (by decide))<|And.intro (Eq.refl b)<|And.intro hv1<|And.intro hd1<|And.intro (eqPr r1 1)<|And.intro (Eq.refl b)<|And.intro (by decide:([]:List MV).length<SL)<|And.intro hz<|And.intro (eqI rz 1 hβ)<|
     And.intro (Eq.refl b)<|And.intro hv<|And.intro (Eq.refl b)<|And.intro (by show 1<SL;decide:[MV.tup [v1,.bool (r1==1),.none]].length<SL)<|And.intro (Eq.refl b)<|
     And.intro (Eq.refl (Out.ret (.tup [.tup [v1,.bool (r1==1),.none],.tup [v,.bool false,.str [110,97,109,101]]])))<|And.intro (Eq.refl (some (cn n3))) (Eq.refl (some [MV.tup [v1,.bool (r1==1),.none],MV.tup [v,.bool false,.str [110,97,109,101]]]))) (by kernel_rfl)) hb q,
    _,item gp1 (.named gp .nil),lb2 (lb (iln (r1==1) p1) gl1 (by decide)) (lb (nln p) gl (by decide))⟩
 ·obtain ⟨v1,n1,hn1,hv1,L1,p1,gp1,gl1⟩:=tree (n+1) (by lia)
  obtain ⟨r1,hr1,hd1⟩:=Z4H (d:=d) (a:=a) (ns:=ns) (n:=n1) 4 (by decide) (by lia)
  obtain ⟨v2,n2,hn2,hv2,L2,p2,gp2,gl2⟩:=tree (n1+1) (by lia)
  obtain ⟨r2,hr2,hd2⟩:=Z4H (d:=d) (a:=a) (ns:=ns) (n:=n2) 4 (by decide) (by lia)
  obtain ⟨rz,hrz,hz⟩:=Z4H (d:=d) (a:=a) (ns:=ns) (n:=n2+1) 3 (by decide) (by lia)
  cases hβ:(rz==1) with
  |false=>
   refine ⟨[.tup [v1,.bool (r1==1),.none],.tup [v2,.bool (r2==1),.none]],n2+2,by lia,whole fun b ne σ0 hb Q q=>Z67 ne (l':=cn (n2+2)) (m':=[.tup [v1,.bool (r1==1),.none],.tup [v2,.bool (r2==1),.none]]) (t:=[.c (.int (2:Nat)) (cn (n+1)),.g (.rng (2:Nat)),.c v1 (cn n1),.c (.int (r1:Nat)) (cn (n1+1)),.g (.bool (r1==1)),.c v2 (cn n2),.c (.int (r2:Nat)) (cn (n2+1)),.g (.bool (r2==1)),.c (.int (rz:Nat)) (cn (n2+2)),.t false])
    (ZD (And.intro h1<|And.intro (rngT 2 (by decide))<|And.intro (Eq.refl b)<|And.intro hv1<|And.intro hd1<|And.intro (eqPr r1 1)<|And.intro (Eq.refl b)<|And.intro (by decide:([]:List MV).length<SL)<|And.intro (Eq.refl b)<|And.intro hv2<|And.intro hd2<|And.intro (eqPr r2 1)<|And.intro (Eq.refl b)<|And.intro (by show 1<SL;decide:[MV.tup [v1,.bool (r1==1),.none]].length<SL)<|And.intro hz<|And.intro (eqI rz 1 hβ)<|And.intro (Eq.refl b)<|
     And.intro (Eq.refl (Out.ret (.tup [.tup [v1,.bool (r1==1),.none],.tup [v2,.bool (r2==1),.none]])))<|And.intro (Eq.refl (some (cn (n2+2)))) (Eq.refl (some [MV.tup [v1,.bool (r1==1),.none],MV.tup [v2,.bool (r2==1),.none]]))) (by kernel_rfl)) hb q,
    _,item gp1 (item gp2 .nil),lb2 (lb (iln (r1==1) p1) gl1 (by decide)) (lb (iln (r2==1) p2) gl2 (by decide))⟩
  |true=>
   obtain ⟨v,n3,hn3,hv,L,p,gp,gl⟩:=tree (n2+2) (by lia)
   refine ⟨[.tup [v1,.bool (r1==1),.none],.tup [v2,.bool (r2==1),.none],.tup [v,.bool false,.str [110,97,109,101]]],n3,by lia,whole fun b ne σ0 hb Q q=>Z67 ne (l':=cn n3) (m':=[.tup [v1,.bool (r1==1),.none],.tup [v2,.bool (r2==1),.none],.tup [v,.bool false,.str [110,97,109,101]]]) (t:=[.c (.int (2:Nat)) (cn (n+1)),.g (.rng (2:Nat)),.c v1 (cn n1),.c (.int (r1:Nat)) (cn (n1+1)),.g (.bool (r1==1)),.c v2 (cn n2),.c (.int (r2:Nat)) (cn (n2+1)),.g (.bool (r2==1)),.c (.int (rz:Nat)) (cn (n2+2)),.t true,.c v (cn n3)])
    (ZD (And.intro h1<|And.intro (rngT 2 (by decide))<|And.intro (Eq.refl b)<|And.intro hv1<|And.intro hd1<|And.intro (eqPr r1 1)<|And.intro (Eq.refl b)<|And.intro (by decide:([]:List MV).length<SL)<|And.intro (Eq.refl b)<|And.intro hv2<|And.intro hd2<|And.intro (eqPr r2 1)<|And.intro (Eq.refl b)<|And.intro (by show 1<SL;decide:[MV.tup [v1,.bool (r1==1),.none]].length<SL)<|And.intro hz<|And.intro (eqI rz 1 hβ)<|
     And.intro (Eq.refl b)<|And.intro hv<|And.intro (Eq.refl b)<|And.intro (by show 2<SL;decide:[MV.tup [v1,.bool (r1==1),.none],MV.tup [v2,.bool (r2==1),.none]].length<SL)<|And.intro (Eq.refl b)<|
     And.intro (Eq.refl (Out.ret (.tup [.tup [v1,.bool (r1==1),.none],.tup [v2,.bool (r2==1),.none],.tup [v,.bool false,.str [110,97,109,101]]])))<|And.intro (Eq.refl (some (cn n3))) (Eq.refl (some [MV.tup [v1,.bool (r1==1),.none],MV.tup [v2,.bool (r2==1),.none],MV.tup [v,.bool false,.str [110,97,109,101]]]))) (by kernel_rfl)) hb q,
    _,item gp1 (item gp2 (.named gp .nil)),lb3 (lb (iln (r1==1) p1) gl1 (by decide)) (lb (iln (r2==1) p2) gl2 (by decide)) (lb (nln p) gl (by decide))⟩
end
end Mine
namespace Mine
theorem Zem {α:Type} (l:List α) (n m:Nat):Z1s l (.int (n:Nat)) (.int (m:Nat))=(l.take m).drop n:=by
 have h1:∀(d m:Nat),pyBnd l.length d (.int (m:Nat))=min m l.length:=fun d m=>by
  show (if (0:Int)≤(m:Int) then min ((m:Int).toNat) l.length else ((m:Int)+l.length).toNat)=_
  rw [if_pos (Int.natCast_nonneg m)];rfl
 unfold Z1s
 rw [h1,h1,List.take_eq_take_min.symm]
 by_cases h:n≤l.length
 ·rw [Nat.min_eq_left h]
 ·rw [Nat.min_eq_right (by lia),List.drop_of_length_le (by rw [List.length_take];lia),List.drop_of_length_le (by rw [List.length_take];lia)]
theorem slU (l:List MV) (n m:Nat):PrT .slice [.tup l,.int (n:Nat),.int (m:Nat)] (.tup ((l.take m).drop n)):=Z5K (w:=.tup (Z1s l (.int (n:Nat)) (.int (m:Nat)))) (by
 have h:(Z0G (.int (n:Nat))&&Z0G (.int (m:Nat)))=true:=Bool.and_eq_true_iff.2 ⟨decide_eq_true (Int.natCast_nonneg n),decide_eq_true (Int.natCast_nonneg m)⟩
 show orE none (ifE (Z0G (.int (n:Nat))&&Z0G (.int (m:Nat))) (ok (.tup (Z1s l (.int (n:Nat)) (.int (m:Nat))))))=_
 rw [h];rfl) (by rw [Zem])
theorem slU0 (l:List MV) (m:Nat):PrT .slice [.tup l,.none,.int (m:Nat)] (.tup (l.take m)):=by
 have e:Z1s l .none (.int (m:Nat))=l.take m:=by
  have:=Zem l 0 m
  rw [List.drop_zero] at this
  rw [←this]
  have h1:pyBnd l.length 0 (.int ((0:Nat):Int))=0:=by
   show (if (0:Int)≤((0:Nat):Int) then min (((0:Nat):Int).toNat) l.length else (((0:Nat):Int)+l.length).toNat)=0
   rw [if_pos (by decide)];exact Nat.zero_min _
  unfold Z1s
  rw [h1];rfl
 have h:(Z0G .none&&Z0G (.int (m:Nat)))=true:=decide_eq_true (Int.natCast_nonneg m)
 refine Z5K (w:=.tup (Z1s l .none (.int (m:Nat)))) ?_ (by rw [e])
 show orE none (ifE (Z0G .none&&Z0G (.int (m:Nat))) (ok (.tup (Z1s l .none (.int (m:Nat))))))=_
 rw [h];rfl
theorem gtT {r:Nat} {β:Bool} (h:decide (0<r)=β):MV.bool (decide ((0:Int)<(r:Nat)))=.bool β:=by
 rw [←h];congr 1;exact decide_eq_decide.2 (by lia)
theorem ZhA {r:Nat} (h:r<6):∃o,(aopTab.map MV.str)[r]? =some (.str o)∧o∈aopTab:=by
 obtain ⟨o,ho,hm⟩:∃o,aopTab[r]? =some o∧o∈aopTab:=⟨_,List.getElem?_eq_getElem (show r<6 from h),List.getElem_mem _⟩
 exact ⟨o,by rw [List.getElem?_map,ho];rfl,hm⟩
theorem Zbn {h:Nat} (hh:1≤h):Gd h 30 (tn [99,97,108,108] [tn [110,97,109,101] [.str [102]],.tup []]):=Z4j (Z0f (h:=0) (B:=30) (.callf .nil) (by decide) (by decide)) hh (Nat.le_refl 30)
theorem lt2 {r:Nat} (h:r<2):r=0∨r=1:=by lia
section
variable {deep D:Nat} (hT:Tr deep D) (hG:Tg deep D) (hG0:Tg 0 D) (hB:5*Bt deep+100≤1000000)
include hT hG hG0 hB
theorem c55 {d s:Nat} {a:Addr} {ns:List Int} {n:Nat} (hs:s<10) (hd:D+3≤d) (hn:n+5*Kt deep+30≤900000):
  GRe (d+1) a 55 [Sc ns,.lst a,.int (s:Nat),.int (deep:Nat)] n (5*Kt deep+25) (Gd (deep+2+1) (5*Bt deep+100)):=by
 have kp:=Z7s deep
 have bp:=Z6e deep
 have dr:∀m many,0<many→m<1000000→DRe d a ns m many:=fun m many h1 h2=>by
  obtain ⟨r,hr,h⟩:=Z4H (d:=0) (a:=a) (ns:=ns) (n:=m) many h1 h2
  exact ⟨r,hr,Z0a h (by lia)⟩
 have tree:∀m,m+Kt deep≤900000→GRe d a 54 [Sc ns,.lst a,.int (deep:Nat)] m (Kt deep) (Gd (deep+2) (Bt deep)):=fun m hm=>hT (by lia) hm
 have targ:∀m,m+Kt deep≤900000→GRe d a 51 [Sc ns,.lst a,.int (deep:Nat)] m (Kt deep) (Gp (deep+2) (Bt deep)):=fun m hm=>hG (by lia) hm
 have args:∀m,m+3*Kt deep+20≤900000→GAe d a 53 [Sc ns,.lst a,.int (deep:Nat)] m (3*Kt deep+10) (Ga (deep+2) (Bt deep)):=fun m hm=>by
  obtain ⟨as,n',h1,h2,h3⟩:=c53 hT hG0 hB (d:=D+1) (a:=a) (ns:=ns) (n:=m) (by lia) hm
  exact ⟨as,n',h1,Z0a h2 (by lia),h3⟩
 refine Zib (P:=fun s=>GRe (d+1) a 55 [Sc ns,.lst a,.int (s:Nat),.int (deep:Nat)] n (5*Kt deep+25) (Gd (deep+2+1) (5*Bt deep+100))) ?_ ?_ ?_ ?_ ?_ ?_ ?_ ?_ ?_ ?_ s hs
 ·obtain ⟨t,n1,k1,h1,g1⟩:=targ n (by lia)
  obtain ⟨x,n2,k2,h2,g2⟩:=tree n1 (by lia)
  exact ⟨_,n2,by lia,Zx Z4E [.c t (cn n1),.c x (cn n2)] (fun _ f=>And.intro h1<|And.intro h2 f) (by kernel_rfl),Zhc hB g1 g2⟩
 ·obtain ⟨t,n1,k1,h1,q,g1,l1⟩:=c52 hT hG0 hB (d:=D+1) (a:=a) (ns:=ns) (n:=n) (by lia) (by lia)
  obtain ⟨x,n2,k2,h2,g2⟩:=tree n1 (by lia)
  exact ⟨_,n2,by lia,Zx Z4E [.c t (cn n1),.c x (cn n2)] (fun _ f=>And.intro (Z0a h1 (by lia:D+1+1≤d))<|And.intro h2 f) (by kernel_rfl),Zfe hB g1 l1 g2⟩
 ·obtain ⟨t,n1,k1,h1,g1⟩:=targ n (by lia)
  obtain ⟨u,n2,k2,h2,g2⟩:=targ n1 (by lia)
  obtain ⟨r,hr,h3⟩:=dr n2 2 (by decide) (by lia)
  rcases lt2 hr with rfl|rfl
  ·obtain ⟨pu,⟨bu,Lu,nu⟩,lu⟩:=g2
   exact ⟨_,n2+1,by lia,Zx Z4E [.c t (cn n1),.c u (cn n2),.c (.int (0:Nat)) (cn (n2+1))] (fun _ f=>And.intro h1<|And.intro h2<|And.intro h3 f) (by kernel_rfl),ZbU hB g1 (Z2z (R:=PT 0) (fun v L p x=>Z6q (fun _ _ _ h=>h.elim) x.1) bu) ⟨Lu,pu,nu,lu⟩⟩
  ·exact ⟨_,n2+1,by lia,Zx Z4E [.c t (cn n1),.c u (cn n2),.c (.int (1:Nat)) (cn (n2+1))] (fun _ f=>And.intro h1<|And.intro h2<|And.intro h3 f) (by kernel_rfl),ZbU hB g1 (a:=tn [99,97,108,108] [tn [110,97,109,101] [.str [102]],.tup []]) rfl (Z4j (Zbn (Nat.le_add_left 1 (deep+1))) (Nat.le_refl _) bp)⟩
 ·obtain ⟨t,n1,k1,h1,g1⟩:=targ n (by lia)
  obtain ⟨r,hr,h2⟩:=dr n1 6 (by decide) (by lia)
  obtain ⟨o,ho,hm⟩:=ZhA hr
  obtain ⟨x,n2,k2,h3,g2⟩:=tree (n1+1) (by lia)
  exact ⟨_,n2,by lia,Zx Z4E [.c t (cn n1),.c (.int (r:Nat)) (cn (n1+1)),.g (.str o),.c x (cn n2)] (fun _ f=>And.intro h1<|And.intro h2<|And.intro (getF ho)<|And.intro h3 f) (by kernel_rfl),Zhe hB hm g1 g2⟩
 ·obtain ⟨r,hr,h1⟩:=dr n 2 (by decide) (by lia)
  obtain ⟨r2,hr2,h2⟩:=dr (n+1) 2 (by decide) (by lia)
  obtain ⟨t,n1,k1,h3,g1⟩:=targ (n+2) (by lia)
  have hs:∃o,([[43,43],[45,45]].map MV.str)[r]? =some (.str o)∧o∈[[43,43],[45,45]]:=by
   rcases lt2 hr with rfl|rfl
   ·exact ⟨[43,43],rfl,by decide⟩
   ·exact ⟨[45,45],rfl,by decide⟩
  obtain ⟨o,ho,hm⟩:=hs
  exact ⟨_,n1,by lia,Zx Z4E [.c (.int (r:Nat)) (cn (n+1)),.g (.str o),.c (.int (r2:Nat)) (cn (n+2)),.g (.bool (r2==1)),.c t (cn n1)] (fun _ f=>And.intro h1<|And.intro (getF ho)<|And.intro h2<|And.intro (eqPr r2 1)<|And.intro h3 f) (by kernel_rfl),Zhb hB (β:=(r2==1)) hm g1⟩
 ·obtain ⟨x,n1,k1,h1,g1⟩:=tree n (by lia)
  obtain ⟨r,hr,h2⟩:=dr n1 3 (by decide) (by lia)
  obtain ⟨r2,hr2,h3⟩:=dr (n1+1) 3 (by decide) (by lia)
  have hw:∃c,[tn [110,97,109,101] [.str [65]],tn [118,97,114] [.str [121]],tn [110,97,109,101] [.str [115,101,108,102]]][r]? =some c∧Gd (deep+2+1) (5*Bt deep+100) (tn [105,110,115,116,97,110,99,101,111,102] [x,c]):=by
   rcases lt3 hr with rfl|rfl|rfl
   ·exact ⟨_,rfl,ZbS hB (cp:=[.word [65]]) (.head _) g1⟩
   ·exact ⟨_,rfl,Zfb hB g1 (Z4j (Z8w (by decide)) (Nat.zero_le _) bp)⟩
   ·exact ⟨_,rfl,ZbS hB (cp:=[.word [115,101,108,102]]) (.tail _ (.head _)) g1⟩
  obtain ⟨c,hc,gc⟩:=hw
  cases hβ:decide (0<r2) with
  |true=>exact ⟨_,n1+2,by lia,Zx Z4E [.c x (cn n1),.c (.int (r:Nat)) (cn (n1+1)),.g c,.c (.int (r2:Nat)) (cn (n1+2)),.t true] (fun _ f=>And.intro h1<|And.intro h2<|And.intro (getF hc)<|And.intro h3<|And.intro (gtT hβ) f) (by kernel_rfl),gc⟩
  |false=>
   obtain ⟨y,n2,k2,h4,g2⟩:=tree (n1+2) (by lia)
   exact ⟨_,n2,by lia,Zx Z4E [.c x (cn n1),.c (.int (r:Nat)) (cn (n1+1)),.g c,.c (.int (r2:Nat)) (cn (n1+2)),.t false,.c y (cn n2)] (fun _ f=>And.intro h1<|And.intro h2<|And.intro (getF hc)<|And.intro h3<|And.intro (gtT hβ)<|And.intro h4 f) (by kernel_rfl),Zfb hB g1 g2⟩
 ·obtain ⟨x,n1,k1,h1,g1⟩:=tree n (by lia)
  obtain ⟨r,hr,h2⟩:=dr n1 3 (by decide) (by lia)
  obtain ⟨w,hw,h3⟩:=dr (n1+1) 4 (by decide) (by lia)
  obtain ⟨m,hm,hmm⟩:∃m,Z4A[r]? =some m∧m∈Z4A:=⟨_,List.getElem?_eq_getElem (show r<3 from hr),List.getElem_mem _⟩
  have dimc:∀w,Dr d a ns (n1+1) 4 w→(w=0∨w=1)→GRe (d+1) a 55 [Sc ns,.lst a,.int (6:Nat),.int (deep:Nat)] n (5*Kt deep+25) (Gd (deep+2+1) (5*Bt deep+100)):=by
   intro w h3 hw
   obtain ⟨y,n2,k2,h4,g2⟩:=tree (n1+2) (by lia)
   rcases hw with rfl|rfl
   ·exact ⟨_,n2,by lia,Zx Z4E [.c x (cn n1),.c (.int (r:Nat)) (cn (n1+1)),.g m,.c (.int (0:Nat)) (cn (n1+2)),.c y (cn n2)] (fun _ f=>And.intro h1<|And.intro h2<|And.intro (getF hm)<|And.intro h3<|And.intro h4 f) (by kernel_rfl),Zfc hB g1 g2⟩
   ·exact ⟨_,n2,by lia,Zx Z4E [.c x (cn n1),.c (.int (r:Nat)) (cn (n1+1)),.g m,.c (.int (1:Nat)) (cn (n1+2)),.c y (cn n2)] (fun _ f=>And.intro h1<|And.intro h2<|And.intro (getF hm)<|And.intro h3<|And.intro h4 f) (by kernel_rfl),Zfc hB g1 g2⟩
  rcases lt4 hw with rfl|rfl|rfl|rfl
  ·exact dimc 0 h3 (.inl rfl)
  ·exact dimc 1 h3 (.inr rfl)
  ·exact ⟨_,n1+2,by lia,Zx Z4E [.c x (cn n1),.c (.int (r:Nat)) (cn (n1+1)),.g m,.c (.int (2:Nat)) (cn (n1+2))] (fun _ f=>And.intro h1<|And.intro h2<|And.intro (getF hm)<|And.intro h3 f) (by kernel_rfl),Zf9 hB (ns:=true) hmm g1⟩
  ·obtain ⟨as,n2,k2,h4,g2⟩:=args (n1+2) (by lia)
   exact ⟨_,n2,by lia,Zx Z4E [.c x (cn n1),.c (.int (r:Nat)) (cn (n1+1)),.g m,.c (.int (3:Nat)) (cn (n1+2)),.c (.tup as) (cn n2)] (fun _ f=>And.intro h1<|And.intro h2<|And.intro (getF hm)<|And.intro h3<|And.intro h4 f) (by kernel_rfl),Zdc hB (ns:=false) hmm g1 g2⟩
 ·obtain ⟨x,n1,k1,h1,g1⟩:=tree n (by lia)
  obtain ⟨r,hr,h2⟩:=dr n1 2 (by decide) (by lia)
  obtain ⟨as,n2,k2,h3,g2⟩:=args (n1+1) (by lia)
  rcases lt2 hr with rfl|rfl
  ·exact ⟨_,n2,by lia,Zx Z4E [.c x (cn n1),.c (.int (0:Nat)) (cn (n1+1)),.c (.tup as) (cn n2)] (fun _ f=>And.intro h1<|And.intro h2<|And.intro h3 f) (by kernel_rfl),Zdh hB g2⟩
  ·exact ⟨_,n2,by lia,Zx Z4E [.c x (cn n1),.c (.int (1:Nat)) (cn (n1+1)),.c (.tup as) (cn n2)] (fun _ f=>And.intro h1<|And.intro h2<|And.intro h3 f) (by kernel_rfl),Zdg hB g1 g2⟩
 ·obtain ⟨x,n1,k1,h1,g1⟩:=tree n (by lia)
  obtain ⟨y,n2,k2,h2,g2⟩:=tree n1 (by lia)
  obtain ⟨r,hr,h3⟩:=dr n2 3 (by decide) (by lia)
  obtain ⟨r2,hr2,h4⟩:=dr (n2+1) 4 (by decide) (by lia)
  exact ⟨_,n2+2,by lia,Zx Z4E [.c x (cn n1),.c y (cn n2),.c (.int (r:Nat)) (cn (n2+1)),.c (.int (r2:Nat)) (cn (n2+2)),.g (.int ((1+r2:Nat):Int)),.g (.tup (((is4 x y).take (1+r2)).drop r))]
   (fun _ f=>And.intro h1<|And.intro h2<|And.intro h3<|And.intro h4<|And.intro (addT 1 r2)<|And.intro (slU (is4 x y) r (1+r2)) f) (by kernel_rfl),Zhd hB r (1+r2) g1 g2⟩
 ·obtain ⟨x,n1,k1,h1,g1⟩:=tree n (by lia)
  obtain ⟨t,n2,k2,h2,g2⟩:=targ n1 (by lia)
  obtain ⟨r,hr,h3⟩:=dr n2 3 (by decide) (by lia)
  have g3:=Zh6 g2
  have gx:Gd (deep+2) (Bt deep) (tn [118,97,114] [.str [120]]):=Z4j (Z8w (by decide)) (Nat.zero_le _) bp
  have other:∀r,Dr d a ns n2 3 r→(r=1∨r=2)→GRe (d+1) a 55 [Sc ns,.lst a,.int (9:Nat),.int (deep:Nat)] n (5*Kt deep+25) (Gd (deep+2+1) (5*Bt deep+100)):=by
   intro r h3 hr
   obtain ⟨r2,hr2,h4⟩:=dr (n2+1) 2 (by decide) (by lia)
   rcases hr with rfl|rfl<;>rcases lt2 hr2 with rfl|rfl
   ·exact ⟨_,n2+2,by lia,Zx Z4E [.c x (cn n1),.c t (cn n2),.c (.int (1:Nat)) (cn (n2+1)),.c (.int (0:Nat)) (cn (n2+2))] (fun _ f=>And.intro h1<|And.intro h2<|And.intro h3<|And.intro h4 f) (by kernel_rfl),ZbT hB g1⟩
   ·exact ⟨_,n2+2,by lia,Zx Z4E [.c x (cn n1),.c t (cn n2),.c (.int (1:Nat)) (cn (n2+1)),.c (.int (1:Nat)) (cn (n2+2))] (fun _ f=>And.intro h1<|And.intro h2<|And.intro h3<|And.intro h4 f) (by kernel_rfl),ZbR hB g3 gx⟩
   ·exact ⟨_,n2+2,by lia,Zx Z4E [.c x (cn n1),.c t (cn n2),.c (.int (2:Nat)) (cn (n2+1)),.c (.int (0:Nat)) (cn (n2+2))] (fun _ f=>And.intro h1<|And.intro h2<|And.intro h3<|And.intro h4 f) (by kernel_rfl),ZbT hB g1⟩
   ·exact ⟨_,n2+2,by lia,Zx Z4E [.c x (cn n1),.c t (cn n2),.c (.int (2:Nat)) (cn (n2+1)),.c (.int (1:Nat)) (cn (n2+2))] (fun _ f=>And.intro h1<|And.intro h2<|And.intro h3<|And.intro h4 f) (by kernel_rfl),ZbR hB g3 gx⟩
  rcases lt3 hr with rfl|rfl|rfl
  ·obtain ⟨r3,hr3,h4⟩:=dr (n2+1) 3 (by decide) (by lia)
   exact ⟨_,n2+2,by lia,Zx Z4E [.c x (cn n1),.c t (cn n2),.c (.int (0:Nat)) (cn (n2+1)),.c (.int (r3:Nat)) (cn (n2+2)),.g (.tup ((arms2 x t).take r3))] (fun _ f=>And.intro h1<|And.intro h2<|And.intro h3<|And.intro h4<|And.intro (slU0 (arms2 x t) r3) f) (by kernel_rfl),Zfa hB r3 g1 g3⟩
  ·exact other 1 h3 (.inl rfl)
  ·exact other 2 h3 (.inr rfl)
end
end Mine
namespace Mine
noncomputable def ZcN:List MV:=opTab.map fun x=>.str x.1
theorem c49 (d:Nat):Pct (Z3 FT (d+1)) 49 [] (.fl ZcN):=Z4Y ZiV [] (by kernel_rfl)
theorem ZfV {r:Nat} (h:r<22):∃x,ZcN[r]? =some (.str x.1)∧x∈opTab:=by
 obtain ⟨o,ho,hm⟩:∃o,opTab[r]? =some o∧o∈opTab:=⟨_,List.getElem?_eq_getElem (show r<22 from h),List.getElem_mem _⟩
 exact ⟨o,by unfold ZcN;rw [List.getElem?_map,ho];rfl,hm⟩
theorem Zif {r:Nat} (h:r<4):∃c,[43,45,126,33][r]? =some c∧[c]∈[[43],[45],[126],[33]]:=by
 have:∀r∈List.range 4,∃c∈[43,45,126,33],[43,45,126,33][r]? =some c∧[c]∈[[43],[45],[126],[33]]:=by decide+kernel
 obtain ⟨c,-,h1,h2⟩:=this r (List.mem_range.2 h)
 exact ⟨c,h1,h2⟩
theorem Zfy {r:Nat} (h:r<5):∃t,(castTab.map MV.str)[r]? =some (.str t)∧t∈castTab:=by
 obtain ⟨o,ho,hm⟩:∃o,castTab[r]? =some o∧o∈castTab:=⟨_,List.getElem?_eq_getElem (show r<5 from h),List.getElem_mem _⟩
 exact ⟨o,by rw [List.getElem?_map,ho];rfl,hm⟩
theorem gtN {r k:Nat} {β:Bool} (h:decide (k<r)=β):MV.bool (decide ((k:Int)<(r:Nat)))=.bool β:=by
 rw [←h];congr 1;exact decide_eq_decide.2 (by lia)
theorem tr0:Tr 0 3:=by
 intro d a ns n hd hn
 have hn:n+3≤900000:=hn
 obtain ⟨d,rfl⟩:=Nat.exists_eq_add_of_le' hd
 obtain ⟨r,hr,h1⟩:=Z4H (d:=d+1) (a:=a) (ns:=ns) (n:=n) 30 (by decide) (by lia)
 obtain ⟨v,h2,g⟩:=c50 (d:=d) (a:=a) (ns:=ns) (n:=n+1) (by lia)
 exact ⟨v,n+3,Nat.le_refl _,Zx Z4d [.c (.int (r:Nat)) (cn (n+1)),.t true,.t true,.c v (cn (n+3))] (fun _ f=>And.intro h1<|And.intro (Eq.refl (MV.bool true))<|And.intro (Eq.refl (MV.bool true))<|And.intro h2 f) (by kernel_rfl),Z4j g (Nat.zero_le _) (Nat.le_refl 30)⟩
section
variable {deep D:Nat} (hT:Tr deep D) (hG:Tg deep D) (hG0:Tg 0 D) (hB:5*Bt deep+100≤1000000)
include hT hG hG0 hB
theorem Z6r:Tr (deep+1) (D+6):=by
 intro d a ns n hd hn
 have hn:n+(6*Kt deep+30)≤900000:=hn
 have kp:=Z7s deep
 have bp:=Z6e deep
 obtain ⟨d,rfl⟩:=Nat.exists_eq_add_of_le' (Nat.le_trans (Nat.le_add_left 1 _) hd)
 have dr:∀m many,0<many→m<1000000→DRe d a ns m many:=fun m many h1 h2=>by
  obtain ⟨r,hr,h⟩:=Z4H (d:=0) (a:=a) (ns:=ns) (n:=m) many h1 h2
  exact ⟨r,hr,Z0a h (by lia)⟩
 have tree:∀m,m+Kt deep≤900000→GRe d a 54 [Sc ns,.lst a,.int (deep:Nat)] m (Kt deep) (Gd (deep+2) (Bt deep)):=fun m hm=>hT (by lia) hm
 obtain ⟨r,hr,h1⟩:=dr n 30 (by decide) (by lia)
 have e0:MV.bool ((((deep+1:Nat):Int)==((0:Nat):Int)) !=false)=.bool false:=eqI (deep+1) 0 rfl
 have sub1:=subP (deep+1) deep 1 rfl
 by_cases c1:27<r
 ·obtain ⟨v,h2,g⟩:=c50 (d:=0) (a:=a) (ns:=ns) (n:=n+1) (by lia)
  refine ⟨v,n+3,by show _≤n+(6*Kt deep+30);lia,Zx Z4d [.c (.int (r:Nat)) (cn (n+1)),.t false,.t true,.c v (cn (n+3))] (fun _ f=>And.intro h1<|And.intro e0<|And.intro (gtN (decide_eq_true c1))<|And.intro (Z0a h2 (by lia:2≤d)) f) (by kernel_rfl),Z4j g (Nat.zero_le _) (by show 30≤5*Bt deep+100;lia)⟩
 by_cases c2:17<r
 ·obtain ⟨v,n',k,h2,g⟩:=c55 hT hG hG0 hB (d:=D+3) (s:=r-18) (a:=a) (ns:=ns) (n:=n+1) (by lia) (by lia) (by lia)
  exact ⟨v,n',by show _≤n+(6*Kt deep+30);lia,Zx Z4d [.c (.int (r:Nat)) (cn (n+1)),.t false,.t false,.t true,.g (.int ((r-18:Nat):Int)),.g (.int (deep:Nat)),.c v (cn n')]
   (fun _ f=>And.intro h1<|And.intro e0<|And.intro (gtN (decide_eq_false c1))<|And.intro (gtN (decide_eq_true c2))<|And.intro (subP r (r-18) 18 (by lia))<|And.intro sub1<|And.intro (Z0a h2 (by lia:D+3+1≤d)) f) (by kernel_rfl),g⟩
 have hr:r<18:=by lia
 clear c1 c2
 obtain ⟨x,n1,k1,h2,g1⟩:=tree (n+1) (by lia)
 refine Zje (P:=fun r=>Dr d a ns n 30 r→GRe (d+1) a 54 [Sc ns,.lst a,.int (deep+1:Nat)] n (Kt (deep+1)) (Gd (deep+1+2) (Bt (deep+1)))) ?_ ?_ ?_ ?_ ?_ ?_ ?_ ?_ ?_ ?_ ?_ ?_ ?_ ?_ ?_ ?_ ?_ ?_ r hr h1
 ·intro h1
  obtain ⟨r2,hr2,h3⟩:=dr n1 4 (by decide) (by lia)
  obtain ⟨c,hc,hm⟩:=Zif hr2
  exact ⟨_,n1+1,by show _≤n+(6*Kt deep+30);lia,Zx Z4d [.c (.int (0:Nat)) (cn (n+1)),.t false,.t false,.t false,.t false,.g (.int (deep:Nat)),.c x (cn n1),.t true,.c (.int (r2:Nat)) (cn (n1+1)),.g (.str [c])] (fun _ f=>And.intro (h1)<|And.intro (e0)<|And.intro (Eq.refl (MV.bool false))<|And.intro (Eq.refl (MV.bool false))<|And.intro (Eq.refl (MV.bool false))<|And.intro (sub1)<|And.intro (h2)<|And.intro (Eq.refl (MV.bool true))<|And.intro (h3)<|And.intro (getT hc) f) (by kernel_rfl),ZiG hB hm g1⟩
 ·intro h1
  obtain ⟨r2,hr2,h3⟩:=dr n1 5 (by decide) (by lia)
  obtain ⟨t,ht,hm⟩:=Zfy hr2
  exact ⟨_,n1+1,by show _≤n+(6*Kt deep+30);lia,Zx Z4d [.c (.int (1:Nat)) (cn (n+1)),.t false,.t false,.t false,.t false,.g (.int (deep:Nat)),.c x (cn n1),.t false,.t true,.c (.int (r2:Nat)) (cn (n1+1)),.g (.str t)] (fun _ f=>And.intro (h1)<|And.intro (e0)<|And.intro (Eq.refl (MV.bool false))<|And.intro (Eq.refl (MV.bool false))<|And.intro (Eq.refl (MV.bool false))<|And.intro (sub1)<|And.intro (h2)<|And.intro (Eq.refl (MV.bool false))<|And.intro (Eq.refl (MV.bool true))<|And.intro (h3)<|And.intro (getF ht) f) (by kernel_rfl),Zfd hB hm g1⟩
 ·intro h1
  exact ⟨_,n1,by show _≤n+(6*Kt deep+30);lia,Zx Z4d [.c (.int (2:Nat)) (cn (n+1)),.t false,.t false,.t false,.t false,.g (.int (deep:Nat)),.c x (cn n1),.t false,.t false,.t true] (fun _ f=>And.intro (h1)<|And.intro (e0)<|And.intro (Eq.refl (MV.bool false))<|And.intro (Eq.refl (MV.bool false))<|And.intro (Eq.refl (MV.bool false))<|And.intro (sub1)<|And.intro (h2)<|And.intro (Eq.refl (MV.bool false))<|And.intro (Eq.refl (MV.bool false))<|And.intro (Eq.refl (MV.bool true)) f) (by kernel_rfl),Zh8 hB g1⟩
 ·intro h1
  exact ⟨_,n1,by show _≤n+(6*Kt deep+30);lia,Zx Z4d [.c (.int (3:Nat)) (cn (n+1)),.t false,.t false,.t false,.t false,.g (.int (deep:Nat)),.c x (cn n1),.t false,.t false,.t true] (fun _ f=>And.intro (h1)<|And.intro (e0)<|And.intro (Eq.refl (MV.bool false))<|And.intro (Eq.refl (MV.bool false))<|And.intro (Eq.refl (MV.bool false))<|And.intro (sub1)<|And.intro (h2)<|And.intro (Eq.refl (MV.bool false))<|And.intro (Eq.refl (MV.bool false))<|And.intro (Eq.refl (MV.bool true)) f) (by kernel_rfl),Zdb hB (.head _) g1⟩
 ·intro h1
  exact ⟨_,n1,by show _≤n+(6*Kt deep+30);lia,Zx Z4d [.c (.int (4:Nat)) (cn (n+1)),.t false,.t false,.t false,.t false,.g (.int (deep:Nat)),.c x (cn n1),.t false,.t false,.t true] (fun _ f=>And.intro (h1)<|And.intro (e0)<|And.intro (Eq.refl (MV.bool false))<|And.intro (Eq.refl (MV.bool false))<|And.intro (Eq.refl (MV.bool false))<|And.intro (sub1)<|And.intro (h2)<|And.intro (Eq.refl (MV.bool false))<|And.intro (Eq.refl (MV.bool false))<|And.intro (Eq.refl (MV.bool true)) f) (by kernel_rfl),Zdb hB (.tail _ (.tail _ (.head _))) g1⟩
 ·intro h1
  exact ⟨_,n1,by show _≤n+(6*Kt deep+30);lia,Zx Z4d [.c (.int (5:Nat)) (cn (n+1)),.t false,.t false,.t false,.t false,.g (.int (deep:Nat)),.c x (cn n1),.t false,.t false,.t true] (fun _ f=>And.intro (h1)<|And.intro (e0)<|And.intro (Eq.refl (MV.bool false))<|And.intro (Eq.refl (MV.bool false))<|And.intro (Eq.refl (MV.bool false))<|And.intro (sub1)<|And.intro (h2)<|And.intro (Eq.refl (MV.bool false))<|And.intro (Eq.refl (MV.bool false))<|And.intro (Eq.refl (MV.bool true)) f) (by kernel_rfl),Zdb hB (.tail _ (.head _)) g1⟩
 ·intro h1
  exact ⟨_,n1,by show _≤n+(6*Kt deep+30);lia,Zx Z4d [.c (.int (6:Nat)) (cn (n+1)),.t false,.t false,.t false,.t false,.g (.int (deep:Nat)),.c x (cn n1),.t false,.t false,.t true] (fun _ f=>And.intro (h1)<|And.intro (e0)<|And.intro (Eq.refl (MV.bool false))<|And.intro (Eq.refl (MV.bool false))<|And.intro (Eq.refl (MV.bool false))<|And.intro (sub1)<|And.intro (h2)<|And.intro (Eq.refl (MV.bool false))<|And.intro (Eq.refl (MV.bool false))<|And.intro (Eq.refl (MV.bool true)) f) (by kernel_rfl),Zda hB g1⟩
 ·intro h1
  obtain ⟨r2,hr2,h3⟩:=dr n1 2 (by decide) (by lia)
  rcases lt2 hr2 with rfl|rfl
  ·exact ⟨_,n1+1,by show _≤n+(6*Kt deep+30);lia,Zx Z4d [.c (.int (7:Nat)) (cn (n+1)),.t false,.t false,.t false,.t false,.g (.int (deep:Nat)),.c x (cn n1),.t false,.t false,.t false,.t true,.c (.int (0:Nat)) (cn (n1+1)),.t true] (fun _ f=>And.intro (h1)<|And.intro (e0)<|And.intro (Eq.refl (MV.bool false))<|And.intro (Eq.refl (MV.bool false))<|And.intro (Eq.refl (MV.bool false))<|And.intro (sub1)<|And.intro (h2)<|And.intro (Eq.refl (MV.bool false))<|And.intro (Eq.refl (MV.bool false))<|And.intro (Eq.refl (MV.bool false))<|And.intro (Eq.refl (MV.bool true))<|And.intro (h3)<|And.intro (Eq.refl (MV.bool true)) f) (by kernel_rfl),Zh7 hB g1⟩
  ·obtain ⟨y,n2,k2,h4,g2⟩:=tree (n1+1) (by lia)
   exact ⟨_,n2,by show _≤n+(6*Kt deep+30);lia,Zx Z4d [.c (.int (7:Nat)) (cn (n+1)),.t false,.t false,.t false,.t false,.g (.int (deep:Nat)),.c x (cn n1),.t false,.t false,.t false,.t true,.c (.int (1:Nat)) (cn (n1+1)),.t false,.g (.int (deep:Nat)),.c y (cn n2)] (fun _ f=>And.intro (h1)<|And.intro (e0)<|And.intro (Eq.refl (MV.bool false))<|And.intro (Eq.refl (MV.bool false))<|And.intro (Eq.refl (MV.bool false))<|And.intro (sub1)<|And.intro (h2)<|And.intro (Eq.refl (MV.bool false))<|And.intro (Eq.refl (MV.bool false))<|And.intro (Eq.refl (MV.bool false))<|And.intro (Eq.refl (MV.bool true))<|And.intro (h3)<|And.intro (Eq.refl (MV.bool false))<|And.intro (sub1)<|And.intro (h4) f) (by kernel_rfl),Zf6 hB g2 g1⟩
 ·intro h1
  obtain ⟨y,n2,k2,h4,g2⟩:=tree n1 (by lia)
  obtain ⟨r2,hr2,h5⟩:=dr n2 22 (by decide) (by lia)
  obtain ⟨o,ho,hm⟩:=ZfV hr2
  exact ⟨_,n2+1,by show _≤n+(6*Kt deep+30);lia,Zx Z4d [.c (.int (8:Nat)) (cn (n+1)),.t false,.t false,.t false,.t false,.g (.int (deep:Nat)),.c x (cn n1),.t false,.t false,.t false,.t false,.g (.int (deep:Nat)),.c y (cn n2),.t true,.v (.fl ZcN),.c (.int (r2:Nat)) (cn (n2+1)),.g (.str o.1)] (fun _ f=>And.intro (h1)<|And.intro (e0)<|And.intro (Eq.refl (MV.bool false))<|And.intro (Eq.refl (MV.bool false))<|And.intro (Eq.refl (MV.bool false))<|And.intro (sub1)<|And.intro (h2)<|And.intro (Eq.refl (MV.bool false))<|And.intro (Eq.refl (MV.bool false))<|And.intro (Eq.refl (MV.bool false))<|And.intro (Eq.refl (MV.bool false))<|And.intro (sub1)<|And.intro (h4)<|And.intro (Eq.refl (MV.bool true))<|And.intro (Z1U (c49 0) (by lia:1≤d))<|And.intro (h5)<|And.intro (getF ho) f) (by kernel_rfl),Zbb hB hm g1 g2⟩
 ·intro h1
  obtain ⟨y,n2,k2,h4,g2⟩:=tree n1 (by lia)
  obtain ⟨r2,hr2,h5⟩:=dr n2 22 (by decide) (by lia)
  obtain ⟨o,ho,hm⟩:=ZfV hr2
  exact ⟨_,n2+1,by show _≤n+(6*Kt deep+30);lia,Zx Z4d [.c (.int (9:Nat)) (cn (n+1)),.t false,.t false,.t false,.t false,.g (.int (deep:Nat)),.c x (cn n1),.t false,.t false,.t false,.t false,.g (.int (deep:Nat)),.c y (cn n2),.t true,.v (.fl ZcN),.c (.int (r2:Nat)) (cn (n2+1)),.g (.str o.1)] (fun _ f=>And.intro (h1)<|And.intro (e0)<|And.intro (Eq.refl (MV.bool false))<|And.intro (Eq.refl (MV.bool false))<|And.intro (Eq.refl (MV.bool false))<|And.intro (sub1)<|And.intro (h2)<|And.intro (Eq.refl (MV.bool false))<|And.intro (Eq.refl (MV.bool false))<|And.intro (Eq.refl (MV.bool false))<|And.intro (Eq.refl (MV.bool false))<|And.intro (sub1)<|And.intro (h4)<|And.intro (Eq.refl (MV.bool true))<|And.intro (Z1U (c49 0) (by lia:1≤d))<|And.intro (h5)<|And.intro (getF ho) f) (by kernel_rfl),Zbb hB hm g1 g2⟩
 ·intro h1
  obtain ⟨y,n2,k2,h4,g2⟩:=tree n1 (by lia)
  obtain ⟨r2,hr2,h5⟩:=dr n2 22 (by decide) (by lia)
  obtain ⟨o,ho,hm⟩:=ZfV hr2
  exact ⟨_,n2+1,by show _≤n+(6*Kt deep+30);lia,Zx Z4d [.c (.int (10:Nat)) (cn (n+1)),.t false,.t false,.t false,.t false,.g (.int (deep:Nat)),.c x (cn n1),.t false,.t false,.t false,.t false,.g (.int (deep:Nat)),.c y (cn n2),.t true,.v (.fl ZcN),.c (.int (r2:Nat)) (cn (n2+1)),.g (.str o.1)] (fun _ f=>And.intro (h1)<|And.intro (e0)<|And.intro (Eq.refl (MV.bool false))<|And.intro (Eq.refl (MV.bool false))<|And.intro (Eq.refl (MV.bool false))<|And.intro (sub1)<|And.intro (h2)<|And.intro (Eq.refl (MV.bool false))<|And.intro (Eq.refl (MV.bool false))<|And.intro (Eq.refl (MV.bool false))<|And.intro (Eq.refl (MV.bool false))<|And.intro (sub1)<|And.intro (h4)<|And.intro (Eq.refl (MV.bool true))<|And.intro (Z1U (c49 0) (by lia:1≤d))<|And.intro (h5)<|And.intro (getF ho) f) (by kernel_rfl),Zbb hB hm g1 g2⟩
 ·intro h1
  obtain ⟨y,n2,k2,h4,g2⟩:=tree n1 (by lia)
  obtain ⟨r2,hr2,h5⟩:=dr n2 22 (by decide) (by lia)
  obtain ⟨o,ho,hm⟩:=ZfV hr2
  exact ⟨_,n2+1,by show _≤n+(6*Kt deep+30);lia,Zx Z4d [.c (.int (11:Nat)) (cn (n+1)),.t false,.t false,.t false,.t false,.g (.int (deep:Nat)),.c x (cn n1),.t false,.t false,.t false,.t false,.g (.int (deep:Nat)),.c y (cn n2),.t true,.v (.fl ZcN),.c (.int (r2:Nat)) (cn (n2+1)),.g (.str o.1)] (fun _ f=>And.intro (h1)<|And.intro (e0)<|And.intro (Eq.refl (MV.bool false))<|And.intro (Eq.refl (MV.bool false))<|And.intro (Eq.refl (MV.bool false))<|And.intro (sub1)<|And.intro (h2)<|And.intro (Eq.refl (MV.bool false))<|And.intro (Eq.refl (MV.bool false))<|And.intro (Eq.refl (MV.bool false))<|And.intro (Eq.refl (MV.bool false))<|And.intro (sub1)<|And.intro (h4)<|And.intro (Eq.refl (MV.bool true))<|And.intro (Z1U (c49 0) (by lia:1≤d))<|And.intro (h5)<|And.intro (getF ho) f) (by kernel_rfl),Zbb hB hm g1 g2⟩
 ·intro h1
  obtain ⟨y,n2,k2,h4,g2⟩:=tree n1 (by lia)
  exact ⟨_,n2,by show _≤n+(6*Kt deep+30);lia,Zx Z4d [.c (.int (12:Nat)) (cn (n+1)),.t false,.t false,.t false,.t false,.g (.int (deep:Nat)),.c x (cn n1),.t false,.t false,.t false,.t false,.g (.int (deep:Nat)),.c y (cn n2),.t false,.t true] (fun _ f=>And.intro (h1)<|And.intro (e0)<|And.intro (Eq.refl (MV.bool false))<|And.intro (Eq.refl (MV.bool false))<|And.intro (Eq.refl (MV.bool false))<|And.intro (sub1)<|And.intro (h2)<|And.intro (Eq.refl (MV.bool false))<|And.intro (Eq.refl (MV.bool false))<|And.intro (Eq.refl (MV.bool false))<|And.intro (Eq.refl (MV.bool false))<|And.intro (sub1)<|And.intro (h4)<|And.intro (Eq.refl (MV.bool false))<|And.intro (Eq.refl (MV.bool true)) f) (by kernel_rfl),Zha hB (.head _) g1 g2⟩
 ·intro h1
  obtain ⟨y,n2,k2,h4,g2⟩:=tree n1 (by lia)
  exact ⟨_,n2,by show _≤n+(6*Kt deep+30);lia,Zx Z4d [.c (.int (13:Nat)) (cn (n+1)),.t false,.t false,.t false,.t false,.g (.int (deep:Nat)),.c x (cn n1),.t false,.t false,.t false,.t false,.g (.int (deep:Nat)),.c y (cn n2),.t false,.t true] (fun _ f=>And.intro (h1)<|And.intro (e0)<|And.intro (Eq.refl (MV.bool false))<|And.intro (Eq.refl (MV.bool false))<|And.intro (Eq.refl (MV.bool false))<|And.intro (sub1)<|And.intro (h2)<|And.intro (Eq.refl (MV.bool false))<|And.intro (Eq.refl (MV.bool false))<|And.intro (Eq.refl (MV.bool false))<|And.intro (Eq.refl (MV.bool false))<|And.intro (sub1)<|And.intro (h4)<|And.intro (Eq.refl (MV.bool false))<|And.intro (Eq.refl (MV.bool true)) f) (by kernel_rfl),Zha hB (.tail _ (.head _)) g1 g2⟩
 ·intro h1
  obtain ⟨y,n2,k2,h4,g2⟩:=tree n1 (by lia)
  exact ⟨_,n2,by show _≤n+(6*Kt deep+30);lia,Zx Z4d [.c (.int (14:Nat)) (cn (n+1)),.t false,.t false,.t false,.t false,.g (.int (deep:Nat)),.c x (cn n1),.t false,.t false,.t false,.t false,.g (.int (deep:Nat)),.c y (cn n2),.t false,.t true] (fun _ f=>And.intro (h1)<|And.intro (e0)<|And.intro (Eq.refl (MV.bool false))<|And.intro (Eq.refl (MV.bool false))<|And.intro (Eq.refl (MV.bool false))<|And.intro (sub1)<|And.intro (h2)<|And.intro (Eq.refl (MV.bool false))<|And.intro (Eq.refl (MV.bool false))<|And.intro (Eq.refl (MV.bool false))<|And.intro (Eq.refl (MV.bool false))<|And.intro (sub1)<|And.intro (h4)<|And.intro (Eq.refl (MV.bool false))<|And.intro (Eq.refl (MV.bool true)) f) (by kernel_rfl),Zha hB (.tail _ (.tail _ (.head _))) g1 g2⟩
 ·intro h1
  obtain ⟨y,n2,k2,h4,g2⟩:=tree n1 (by lia)
  exact ⟨_,n2,by show _≤n+(6*Kt deep+30);lia,Zx Z4d [.c (.int (15:Nat)) (cn (n+1)),.t false,.t false,.t false,.t false,.g (.int (deep:Nat)),.c x (cn n1),.t false,.t false,.t false,.t false,.g (.int (deep:Nat)),.c y (cn n2),.t false,.t false] (fun _ f=>And.intro (h1)<|And.intro (e0)<|And.intro (Eq.refl (MV.bool false))<|And.intro (Eq.refl (MV.bool false))<|And.intro (Eq.refl (MV.bool false))<|And.intro (sub1)<|And.intro (h2)<|And.intro (Eq.refl (MV.bool false))<|And.intro (Eq.refl (MV.bool false))<|And.intro (Eq.refl (MV.bool false))<|And.intro (Eq.refl (MV.bool false))<|And.intro (sub1)<|And.intro (h4)<|And.intro (Eq.refl (MV.bool false))<|And.intro (Eq.refl (MV.bool false)) f) (by kernel_rfl),Zdf hB g1 g2⟩
 ·intro h1
  obtain ⟨y,n2,k2,h4,g2⟩:=tree n1 (by lia)
  obtain ⟨z,n3,k3,h5,g3⟩:=tree n2 (by lia)
  exact ⟨_,n3,by show _≤n+(6*Kt deep+30);lia,Zx Z4d [.c (.int (16:Nat)) (cn (n+1)),.t false,.t false,.t false,.t false,.g (.int (deep:Nat)),.c x (cn n1),.t false,.t false,.t false,.t false,.g (.int (deep:Nat)),.c y (cn n2),.t false,.t false,.t false,.g (.int (deep:Nat)),.c z (cn n3)] (fun _ f=>And.intro (h1)<|And.intro (e0)<|And.intro (Eq.refl (MV.bool false))<|And.intro (Eq.refl (MV.bool false))<|And.intro (Eq.refl (MV.bool false))<|And.intro (sub1)<|And.intro (h2)<|And.intro (Eq.refl (MV.bool false))<|And.intro (Eq.refl (MV.bool false))<|And.intro (Eq.refl (MV.bool false))<|And.intro (Eq.refl (MV.bool false))<|And.intro (sub1)<|And.intro (h4)<|And.intro (Eq.refl (MV.bool false))<|And.intro (Eq.refl (MV.bool false))<|And.intro (Eq.refl (MV.bool false))<|And.intro (sub1)<|And.intro (h5) f) (by kernel_rfl),Zf8 hB g1 g3 g2⟩
 ·intro h1
  exact ⟨_,n+1,by show _≤n+(6*Kt deep+30);lia,Zx Z4d [.c (.int (17:Nat)) (cn (n+1)),.t false,.t false,.t false,.t true] (fun _ f=>And.intro h1<|And.intro e0<|And.intro (Eq.refl (MV.bool false))<|And.intro (Eq.refl (MV.bool false))<|And.intro (Eq.refl (MV.bool true)) f) (by kernel_rfl),Zf7 hB⟩
end
theorem Z80 {deep D D':Nat} (h:Tr deep D) (hD:D≤D'):Tr deep D':=fun hd hn=>h (Nat.le_trans hD hd) hn
theorem Z81 {deep D D':Nat} (h:Tg deep D) (hD:D≤D'):Tg deep D':=fun hd hn=>h (Nat.le_trans hD hd) hn
theorem tg0:Tg 0 2:=Zco (D:=0) fun e h=>by cases h
theorem tr1:Tr 1 20:=Z80 (Z6r (D:=5) (Z80 tr0 (by decide)) (Z81 tg0 (by decide)) (Z81 tg0 (by decide)) (by decide)) (by decide)
theorem tg1:Tg 1 5:=Zco (D:=3) fun e h=>by cases h;exact ⟨tr0,by decide⟩
theorem tr2:Tr 2 40:=Z80 (Z6r (D:=30) (Z80 tr1 (by decide)) (Z81 tg1 (by decide)) (Z81 tg0 (by decide)) (by decide)) (by decide)
theorem tg2:Tg 2 22:=Zco (D:=20) fun e h=>by cases h;exact ⟨tr1,by decide⟩
theorem tr3:Tr 3 60:=Z80 (Z6r (D:=50) (Z80 tr2 (by decide)) (Z81 tg2 (by decide)) (Z81 tg0 (by decide)) (by decide)) (by decide)
end Mine
namespace Mine
noncomputable def VB (m w:Nat) (v:MV):Prop:=showable v=true∧(Z1S v).depth≤m∧(Z1S v).weight≤w∧(Z1S v).leavesShort 24=true
noncomputable def VBL (m w:Nat) (l:List MV):Prop:=Z08 l=true∧PyData.depthAll (Z1t l)≤m∧PyData.weightAll (Z1t l)≤w∧PyData.leavesShortAll 24 (Z1t l)=true
theorem Z1O {m m' w w':Nat} {v:MV} (h:VB m w v) (hm:m≤m') (hw:w≤w'):VB m' w' v:=⟨h.1,Nat.le_trans h.2.1 hm,Nat.le_trans h.2.2.1 hw,h.2.2.2⟩
theorem vn {m:Nat}:VBL m 0 []:=⟨by unfold Z08;rfl,by unfold Z1t PyData.depthAll;lia,by unfold Z1t PyData.weightAll;lia,by unfold Z1t PyData.leavesShortAll;rfl⟩
theorem vc {m w w':Nat} {v:MV} {l:List MV} (h:VB m w v) (h':VBL m w' l):VBL m (w+1+w') (v::l):=by
 obtain ⟨a1,a2,a3,a4⟩:=h
 obtain ⟨b1,b2,b3,b4⟩:=h'
 refine ⟨?_,?_,?_,?_⟩
 ·unfold Z08;rw [a1,b1];rfl
 ·unfold Z1t PyData.depthAll;exact Nat.max_le.2 ⟨a2,b2⟩
 ·unfold Z1t PyData.weightAll;lia
 ·unfold Z1t PyData.leavesShortAll;rw [a4,b4];rfl
theorem vt {m w:Nat} {l:List MV} (h:VBL m w l):VB (m+1) w (.tup l):=by
 obtain ⟨b1,b2,b3,b4⟩:=h
 refine ⟨?_,?_,?_,?_⟩
 ·unfold showable;exact b1
 ·unfold Z1S PyData.depth;lia
 ·unfold Z1S PyData.weight;exact b3
 ·unfold Z1S PyData.leavesShort;exact b4
theorem vs {m:Nat} {s:List Nat} (h:(s.all fun c=>decide (c<16^8))=true):VB m s.length (.str s):=by
 refine ⟨?_,?_,?_,?_⟩
 ·unfold showable;rfl
 ·unfold Z1S PyData.depth;exact Nat.zero_le m
 ·unfold Z1S PyData.weight;exact Nat.le_refl _
 ·unfold Z1S PyData.leavesShort;exact h
theorem v0 {m:Nat}:VB m 0 .none:=⟨by unfold showable;rfl,by unfold Z1S PyData.depth;exact Nat.zero_le m,by unfold Z1S PyData.weight;exact Nat.le_refl 0,by unfold Z1S PyData.leavesShort;rfl⟩
theorem vb {m:Nat} (β:Bool):VB m 0 (.bool β):=⟨by unfold showable;rfl,by unfold Z1S PyData.depth;exact Nat.zero_le m,by unfold Z1S PyData.weight;exact Nat.le_refl 0,by unfold Z1S PyData.leavesShort;rfl⟩
theorem vi {m:Nat} {i:Int} (h:i=0∨i=1∨i=9223372036854775807):VB m 64 (.int i):=by
 refine ⟨?_,?_,?_,?_⟩
 ·unfold showable;rcases h with rfl|rfl|rfl<;>decide
 ·unfold Z1S PyData.depth;exact Nat.zero_le m
 ·unfold Z1S PyData.weight;rcases h with rfl|rfl|rfl<;>decide+kernel
 ·unfold Z1S PyData.leavesShort;rcases h with rfl|rfl|rfl<;>decide+kernel
noncomputable def Z2p:List (List Pc)→Nat
 |[]=>0
 |p::r=>60*ln p+10+Z2p r
theorem Zcp:∀ps,Z2p ps+110*ps.length=60*Z1Y ps
 |[]=>rfl
 |p::ps=>by have:=Zcp ps;show 60*ln p+10+Z2p ps+110*(ps.length+1)=60*(ln p+2+Z1Y ps);lia
theorem Z9x (b:Prop) [Decidable b] (p:List Pc):ln p≤ln (if b then Zm p else p):=by
 split
 ·rw [ZJ];lia
 ·exact Nat.le_refl _
theorem Zd1 (b:Prop) [Decidable b] (p:List Pc):ln p≤ln (if b then p else Zm p):=by
 split
 ·exact Nat.le_refl _
 ·rw [ZJ];lia
theorem Z4p:∀ps,Z1Y ps≤ln (Z2 ps)+2
 |[]=>by decide
 |[p]=>Nat.le_refl _
 |p::q::ps=>by
  have:=Z4p (q::ps)
  rw [ZS,Z6,Z6]
  show ln p+2+Z1Y (q::ps)≤ln p+2+ln (Z2 (q::ps))+2
  lia
theorem ZfR:∀ps,Z2p ps+50≤60*(ln (Z2 ps)+2)
 |[]=>by decide
 |p::ps=>by
  have h1:=Zcp (p::ps)
  have h2:=Z4p (p::ps)
  have h3:(p::ps).length=ps.length+1:=rfl
  lia
section
variable {R:Z0c} {m:Nat} (hR:∀v L p,R v L p→VB m (60*ln p) v)
include hR
theorem ZN {a k p} (h:Par R a k p):VB m (60*ln p) a:=by
 obtain ⟨L,q,h,rfl⟩:=h
 refine Z1O (hR _ _ _ h) (Nat.le_refl m) ?_
 split
 ·rw [ZJ];lia
 ·exact Nat.le_refl _
theorem Z3l {a p} (h:Z1E R a p):VB m (60*ln p) a:=by
 obtain ⟨L,q,h,rfl⟩:=h
 refine Z1O (hR _ _ _ h) (Nat.le_refl m) ?_
 split
 ·exact Nat.le_refl _
 ·rw [ZJ];lia
theorem Z15 {a p} (h:Z0z R a p):VB m (60*ln p) a:=by obtain ⟨-,L,h⟩:=h;exact hR _ _ _ h
theorem Z6o {as ps} (h:Args R as ps):VBL (m+1) (Z2p ps) as:=by
 have le:∀{l w w'},VBL (m+1) w l→w≤w'→VBL (m+1) w' l:=fun h hw=>⟨h.1,h.2.1,Nat.le_trans h.2.2.1 hw,h.2.2.2⟩
 induction h with
 |nil=>exact vn
 | @val v L p r ps hv _ ih=>exact le (vc (vt (vc (hR _ _ _ hv) (vc (vb false) (vc v0 vn)))) ih) (by show _≤60*ln p+10+Z2p ps;lia)
 | @spread v L p r ps hv _ ih=>exact le (vc (vt (vc (hR _ _ _ hv) (vc (vb true) (vc v0 vn)))) ih) (by show _≤60*ln (.op [46,46,46]::p)+10+Z2p ps;rw [Z7];show _≤60*(3+ln p)+10+Z2p ps;lia)
 | @named v L p r ps hv _ ih=>exact le (vc (vt (vc (hR _ _ _ hv) (vc (vb false) (vc (vs (by decide)) vn)))) ih) (by
   show _≤60*ln (.word [110,97,109,101]:: .op [58]:: .sp::p)+10+Z2p ps;rw [Z7,Z7,Z7];show 60*ln p+1+(0+1+(4+1+0))+1+_≤60*(4+(1+(1+ln p)))+10+Z2p ps;lia)
theorem Zan {as ps} (h:Items R as ps):VBL (m+1) (Z2p ps) as:=by
 have le:∀{l w w'},VBL (m+1) w l→w≤w'→VBL (m+1) w' l:=fun h hw=>⟨h.1,h.2.1,Nat.le_trans h.2.2.1 hw,h.2.2.2⟩
 induction h with
 |nil=>exact vn
 | @val v L p r ps hv _ ih=>exact le (vc (vt (vc v0 (vc (hR _ _ _ hv) (vc (vb false) (vc (vb false) vn))))) ih) (by show _≤60*ln p+10+Z2p ps;lia)
 | @key k v pk L p r ps hk hv _ ih=>exact le (vc (vt (vc (ZN hR hk) (vc (hR _ _ _ hv) (vc (vb false) (vc (vb false) vn))))) ih) (by
   show _≤60*ln (pk++[.sp,.op [61,62],.sp]++p)+10+Z2p ps;rw [Z6,Z6];show _≤60*(ln pk+4+ln p)+10+Z2p ps;lia)
 | @keyref k v pk L p r ps hk hv _ ih=>exact le (vc (vt (vc (ZN hR hk) (vc (hR _ _ _ hv) (vc (vb true) (vc (vb false) vn))))) ih) (by
   show _≤60*ln (pk++[.sp,.op [61,62],.sp,.op [38]]++p)+10+Z2p ps;rw [Z6,Z6];show _≤60*(ln pk+5+ln p)+10+Z2p ps;lia)
 | @spread v L p r ps hv _ ih=>exact le (vc (vt (vc v0 (vc (hR _ _ _ hv) (vc (vb false) (vc (vb true) vn))))) ih) (by show _≤60*ln (.op [46,46,46]::p)+10+Z2p ps;rw [Z7];show _≤60*(3+ln p)+10+Z2p ps;lia)
theorem Zcg {G:MV→List Pc→Prop} {m':Nat} (hm:m≤m') (hG:∀v p,G v p→VB m' (60*ln p) v) {as ps} (h:Pats R G as ps):VBL (m'+1) (Z2p ps) as:=by
 have le:∀{l w w'},VBL (m'+1) w l→w≤w'→VBL (m'+1) w' l:=fun h hw=>⟨h.1,h.2.1,Nat.le_trans h.2.2.1 hw,h.2.2.2⟩
 have hp:∀{k pk},Par R k 5 pk→VB m' (60*ln pk) k:=fun h=>Z1O (ZN hR h) hm (Nat.le_refl _)
 induction h with
 |nil=>exact vn
 | @gap r ps _ ih=>exact le (vc v0 ih) (by show _≤60*0+10+Z2p ps;lia)
 | @val v p r ps hv _ ih=>exact le (vc (vt (vc v0 (vc (hG _ _ hv) (vc (vb false) vn)))) ih) (by show _≤60*ln p+10+Z2p ps;lia)
 | @ref v p r ps hv _ ih=>exact le (vc (vt (vc v0 (vc (hG _ _ hv) (vc (vb true) vn)))) ih) (by show _≤60*ln (.op [38]::p)+10+Z2p ps;rw [Z7];show _≤60*(1+ln p)+10+Z2p ps;lia)
 | @key k v pk p r ps hk hv _ ih=>exact le (vc (vt (vc (hp hk) (vc (hG _ _ hv) (vc (vb false) vn)))) ih) (by
   show _≤60*ln (pk++[.sp,.op [61,62],.sp]++p)+10+Z2p ps;rw [Z6,Z6];show _≤60*(ln pk+4+ln p)+10+Z2p ps;lia)
 | @keyref k v pk p r ps hk hv _ ih=>exact le (vc (vt (vc (hp hk) (vc (hG _ _ hv) (vc (vb true) vn)))) ih) (by
   show _≤60*ln (pk++[.sp,.op [61,62],.sp,.op [38]]++p)+10+Z2p ps;rw [Z6,Z6];show _≤60*(ln pk+5+ln p)+10+Z2p ps;lia)
theorem Zby {G:MV→List Pc→Prop} {m':Nat} (hm:m≤m') (hG:∀v p,G v p→VB m' (60*ln p) v) {v p} (h:Z76 R G v p):VB (m'+3) (60*ln p) v:=by
 obtain ⟨is,ps,rfl,h,hne,rfl⟩:=h
 have h1:=Zcg hR hm hG h
 have h2:=Z4p ps
 refine Z1O (vt (vc (vs (by decide)) (vc (vt h1) vn))) (Nat.le_refl _) ?_
 rw [Z7,Z6,Z6]
 have h3:=Zcp ps
 have h4:1≤ps.length:=by rw [←ZP h];exact List.length_pos_iff.2 hne
 show 4+1+(Z2p ps+1+0)≤60*(1+(ln (Z2 ps)+_+1))
 lia
theorem Zam {as ps} (h:Tests R as ps):VBL m (60*Z1Y ps) as:=by
 have le:∀{l w w'},VBL m w l→w≤w'→VBL m w' l:=fun h hw=>⟨h.1,h.2.1,Nat.le_trans h.2.2.1 hw,h.2.2.2⟩
 induction h with
 | @one v p h=>exact le (vc (ZN hR h) vn) (by show _≤60*(ln p+2+0);lia)
 | @cons v p r ps h _ ih=>exact le (vc (ZN hR h) ih) (by show _≤60*(ln p+2+Z1Y ps);lia)
theorem Zch {as ps} (h:Arms R as ps):VBL (m+2) (60*Z1Y ps) as:=by
 have le:∀{l w w'},VBL (m+2) w l→w≤w'→VBL (m+2) w' l:=fun h hw=>⟨h.1,h.2.1,Nat.le_trans h.2.2.1 hw,h.2.2.2⟩
 have up:∀{v L p},R v L p→VB (m+1) (60*ln p) v:=fun h=>Z1O (hR _ _ _ h) (Nat.le_succ m) (Nat.le_refl _)
 induction h with
 |nil=>exact vn
 | @arm tv tp v L p r ps ht hv _ ih=>exact le (vc (vt (vc (vt (Zam hR ht)) (vc (up hv) vn))) ih) (by
   have:=Z4p tp
   show _≤60*(ln (Z2 tp++[.sp,.op [61,62],.sp]++p)+2+Z1Y ps);rw [Z6,Z6];show _≤60*(ln (Z2 tp)+4+ln p+2+Z1Y ps);lia)
 | @dflt v L p r ps hv _ ih=>exact le (vc (vt (vc v0 (vc (up hv) vn))) ih) (by
   show _≤60*(ln (.word [100,101,102,97,117,108,116]:: .sp:: .op [61,62]:: .sp::p)+2+Z1Y ps);rw [Z7,Z7,Z7,Z7];show _≤60*(7+(1+(2+(1+ln p)))+2+Z1Y ps);lia)
theorem Zcf {as ps} (h:Raws R as ps):VBL m (60*Z1Y ps) as:=by
 have le:∀{l w w'},VBL m w l→w≤w'→VBL m w' l:=fun h hw=>⟨h.1,h.2.1,Nat.le_trans h.2.2.1 hw,h.2.2.2⟩
 induction h with
 |nil=>exact vn
 | @cons v L p r ps h _ ih=>exact le (vc (hR _ _ _ h) ih) (by show _≤60*(ln p+2+Z1Y ps);lia)
theorem Zbz {mm p} (h:Member R mm p):VB (m+1) (60*ln p) mm:=by
 induction h with
 |plain h=>
  simp only [memNames,List.mem_cons,List.not_mem_nil,or_false] at h
  rcases h with rfl|rfl|rfl<;>exact Z1O (vt (vc (vs (by decide)) (vc (vs (by decide)) vn))) (Nat.le_refl _) (by decide)
 |text _ _ h=>exact Z1O (hR _ _ _ h) (Nat.le_succ m) (by rw [Z53];lia)
 |var _ h=>exact Z1O (hR _ _ _ h) (Nat.le_succ m) (Nat.le_refl _)
end
end Mine
namespace Mine
section
variable {R:Z0c} {m:Nat} (hR:∀v L p,R v L p→VB m (60*ln p) v)
include hR
theorem Z8v {v L p} (n:Node R v L p):VB (m+7) (60*ln p) v:=by
 have fin:∀{k w v w'},VB k w v→k≤m+7→w≤w'→VB (m+7) w' v:=fun h h1 h2=>Z1O h h1 h2
 have up:∀{k v w},m≤k→VB m w v→VB k w v:=fun hk h=>Z1O h hk (Nat.le_refl _)
 induction n with
 |var h=>
  have:∀n∈varTab,(n.all fun c=>decide (c<16^8))=true∧n.length+5≤60*ln [.var n]:=by decide+kernel
  have:=this _ h
  exact fin (vt (m:=m) (vc (vs (by decide)) (vc (vs this.1) vn))) (by lia) (by have:=this.2;simp only [List.length_cons,List.length_nil];lia)
 | @lit v p h=>
  rcases List.mem_append.1 h with h|h
  ·simp only [litTab1,List.mem_cons,Prod.mk.injEq,List.not_mem_nil,or_false] at h
   rcases h with ⟨rfl,rfl⟩|⟨rfl,rfl⟩|⟨rfl,rfl⟩
   ·exact ⟨by decide,by show _≤_;simp [Z1S,Z1t,PyData.depth,PyData.depthAll],by decide+kernel,by decide+kernel⟩
   ·exact ⟨by decide,by show _≤_;simp [Z1S,Z1t,PyData.depth,PyData.depthAll],by decide+kernel,by decide+kernel⟩
   ·exact fin (vt (m:=m) (vc (vs (by decide)) (vc (vi (by decide)) vn))) (by lia) (by decide)
  ·rcases List.mem_append.1 h with h|h
   ·simp only [litTab2,List.mem_cons,Prod.mk.injEq,List.not_mem_nil,or_false] at h
    rcases h with ⟨rfl,rfl⟩|⟨rfl,rfl⟩|⟨rfl,rfl⟩
    ·exact fin (vt (m:=m) (vc (vs (by decide)) (vc v0 vn))) (by lia) (by decide)
    ·exact fin (vt (m:=m) (vc (vs (by decide)) (vc (vb true) vn))) (by lia) (by decide)
    ·exact fin (vt (m:=m) (vc (vs (by decide)) (vc (vb false) vn))) (by lia) (by decide)
   ·obtain ⟨s,hs,e⟩:=List.mem_map.1 h
    cases e
    have:∀n∈txtTab,(n.all fun c=>decide (c<16^8))=true∧n.length+5≤60*ln [.text n]:=by decide+kernel
    have:=this _ hs
    exact fin (vt (m:=m) (vc (vs (by decide)) (vc (vs this.1) vn))) (by lia) (by have:=this.2;simp only [List.length_cons,List.length_nil];lia)
 | @cst n p h=>
  have:∀x∈cstTab,(x.1.all fun c=>decide (c<16^8))=true∧x.1.length+7≤60*ln x.2:=by decide+kernel
  have:=this _ h
  exact fin (vt (m:=m) (vc (vs (by decide)) (vc (vs this.1) vn))) (by lia) (by have:=this.2;simp only [List.length_cons,List.length_nil] at*;lia)
 | @un o a p ho h=>
  have:∀n∈[[43],[45],[126]],(n.all fun c=>decide (c<16^8))=true∧n.length=1:=by decide+kernel
  have ho':=this _ ho
  have hl:ln p+1≤ln (Z29 o p):=by unfold Z29;split<;>simp only [Z7]<;>simp only [Pc.sp1]<;>lia
  exact fin (vt (m:=m) (vc (vs (by decide)) (vc (vs ho'.1) (vc (ZN hR h) vn)))) (by lia) (by simp only [List.length_cons,List.length_nil];lia)
 | @not a p h=>
  have hl:ln p+1≤ln (Z29 [33] p):=by unfold Z29;split<;>simp only [Z7]<;>simp only [Pc.sp1,List.length_cons,List.length_nil]<;>lia
  exact fin (vt (m:=m) (vc (vs (by decide)) (vc (vs (by decide)) (vc (ZN hR h) vn)))) (by lia) (by simp only [List.length_cons,List.length_nil];lia)
 | @cast t a p ht h=>
  have:∀n∈castTab,(n.all fun c=>decide (c<16^8))=true∧n.length+2=(Pc.cast n).sp1.length:=by decide+kernel
  have ht':=this _ ht
  exact fin (vt (m:=m) (vc (vs (by decide)) (vc (vs ht'.1) (vc (ZN hR h) vn)))) (by lia) (by rw [Z7];have:=ht'.2;simp only [List.length_cons,List.length_nil];lia)
 | @sil a p h=>exact fin (vt (m:=m) (vc (vs (by decide)) (vc (ZN hR h) vn))) (by lia) (by rw [Z7];show 7+1+_≤60*(1+ln p);lia)
 | @pre w l a p hw h=>
  have:∀x∈preTab,(x.1.all fun c=>decide (c<16^8))=true∧1≤x.1.length:=by decide+kernel
  have hw':=this _ hw
  exact fin (vt (m:=m) (vc (vs hw'.1) (vc (ZN hR h) vn))) (by lia) (by rw [Z7,Z7];show _≤60*(w.length+(1+ln p));have:=hw'.2;lia)
 | @yfrom a p h=>exact fin (vt (m:=m) (vc (vs (by decide)) (vc (ZN hR h) vn))) (by lia) (by rw [Z7,Z7,Z7,Z7];show 9+1+_≤60*(5+(1+(4+(1+ln p))));lia)
 |yld0=>exact fin (vt (m:=m) (vc (vs (by decide)) (vc v0 (vc v0 vn)))) (by lia) (by decide)
 | @yld a p h=>
  have hl:ln p≤ln (Z1k p):=Z9x _ _
  exact fin (vt (m:=m) (vc (vs (by decide)) (vc v0 (vc (ZN hR h) vn)))) (by lia) (by rw [Z7,Z7];show 5+1+_≤60*(5+(1+ln (Z1k p)));lia)
 | @yldk k a pk p h1 h2=>
  have hl:ln pk≤ln (Z1k pk):=Z9x _ _
  exact fin (vt (m:=m) (vc (vs (by decide)) (vc (ZN hR h1) (vc (ZN hR h2) vn)))) (by lia) (by rw [Z7,Z7,Z6,Z6];show 5+1+_≤60*(5+(1+(ln (Z1k pk)+4+ln p)));lia)
 | @bin o l la lb m' a b pa pb ho h1 h2=>
  have:∀x∈opTab,(x.1.all fun c=>decide (c<16^8))=true∧x.1.length≤3∧3≤ln [.sp,Z8d x.1,.sp]:=by decide+kernel
  obtain ⟨o1,o2,o3⟩:=this _ ho
  exact fin (vt (m:=m) (vc (vs (by decide)) (vc (vs o1) (vc (ZN hR h1) (vc (ZN hR h2) vn))))) (by lia) (by rw [Z6,Z6];dsimp only at o2 o3;simp only [List.length_cons,List.length_nil];lia)
 | @lg t o l la lb m' a b pa pb ho h1 h2=>
  have:∀x∈lgTab,(x.1.all fun c=>decide (c<16^8))=true∧x.1.length≤10∧3≤ln [.sp,.op x.2.1,.sp]:=by decide+kernel
  obtain ⟨o1,o2,o3⟩:=this _ ho
  exact fin (vt (m:=m) (vc (vs o1) (vc (ZN hR h1) (vc (ZN hR h2) vn)))) (by lia) (by rw [Z6,Z6];dsimp only at o2 o3;lia)
 | @elvis a b pa pb h1 h2=>exact fin (vt (m:=m) (vc (vs (by decide)) (vc (ZN hR h1) (vc v0 (vc (ZN hR h2) vn))))) (by lia) (by rw [Z6,Z6];show 2+1+_≤60*(ln pa+4+ln pb);lia)
 | @tern a c b pa pc pb h1 h2 h3=>exact fin (vt (m:=m) (vc (vs (by decide)) (vc (ZN hR h1) (vc (ZN hR h2) (vc (ZN hR h3) vn))))) (by lia) (by rw [Z6,Z6,Z6,Z6];show 2+1+_≤60*(ln pa+3+ln pc+3+ln pb);lia)
 | @asg t a pt p h1 h2=>exact fin (vt (m:=m) (vc (vs (by decide)) (vc (Z15 hR h1) (vc (ZN hR h2) vn)))) (by lia) (by rw [Z6,Z6];show 6+1+_≤60*(ln pt+3+ln p);lia)
 | @asgl t a pt p h1 h2=>
  have hG:∀v p,(Z0z R v p∨(ZdL R v p∧Sm p))→VB (m+3) (60*ln p) v:=by
   rintro v p (h|⟨h,-⟩)
   ·exact Z1O (Z15 hR h) (by lia) (Nat.le_refl _)
   ·exact Zby hR (Nat.le_refl m) (fun v p h=>Z15 hR h) h
  have key:VB (m+6) (60*ln pt) t:=Zby hR (Nat.le_add_right m 3) hG h1
  exact fin (vt (m:=m+6) (vc (vs (by decide)) (vc key (vc (up (by lia) (ZN hR h2)) vn)))) (by lia) (by rw [Z6,Z6];show 6+1+_≤60*(ln pt+3+ln p);lia)
 | @aref t a pt L p h1 _ h2=>exact fin (vt (m:=m) (vc (vs (by decide)) (vc (Z15 hR h1) (vc (hR _ _ _ h2) vn)))) (by lia) (by rw [Z6,Z6];show 9+1+_≤60*(ln pt+4+ln p);lia)
 | @aop o t a pt p ho h1 h2=>
  have:∀x∈aopTab,(x.all fun c=>decide (c<16^8))=true∧x.length≤3∧3≤ln [.sp,.op (x++[61]),.sp]:=by decide+kernel
  obtain ⟨o1,o2,o3⟩:=this _ ho
  exact fin (vt (m:=m) (vc (vs (by decide)) (vc (vs o1) (vc (Z15 hR h1) (vc (ZN hR h2) vn))))) (by lia) (by rw [Z6,Z6];simp only [List.length_cons,List.length_nil];lia)
 | @incp o t pt ho h=>
  have:∀x∈[[43,43],[45,45]],(x.all fun c=>decide (c<16^8))=true∧x.length=2:=by decide+kernel
  obtain ⟨o1,o2⟩:=this _ ho
  exact fin (vt (m:=m) (vc (vs (by decide)) (vc (vs o1) (vc (vb true) (vc (Z15 hR h) vn))))) (by lia) (by rw [Z7];show 6+1+(o.length+1+_)≤60*(o.length+ln pt);lia)
 | @incs o t pt ho h=>
  have:∀x∈[[43,43],[45,45]],(x.all fun c=>decide (c<16^8))=true∧x.length=2:=by decide+kernel
  obtain ⟨o1,o2⟩:=this _ ho
  exact fin (vt (m:=m) (vc (vs (by decide)) (vc (vs o1) (vc (vb false) (vc (Z15 hR h) vn))))) (by lia) (by rw [Z6,Z7];show 6+1+(o.length+1+_)≤60*(ln pt+(o.length+0));lia)
 | @insn e c pe pc h hc=>
  have hcl:VB (m+1) 20 c:=by
   simp only [clsTab,List.mem_cons,Prod.mk.injEq,List.not_mem_nil,or_false] at hc
   rcases hc with ⟨rfl,-⟩|⟨rfl,-⟩<;>exact Z1O (vt (vc (vs (by decide)) (vc (vs (by decide)) vn))) (Nat.le_refl _) (by decide)
  exact fin (vt (m:=m+1) (vc (vs (by decide)) (vc (up (by lia) (ZN hR h)) (vc hcl vn)))) (by lia) (by rw [Z6,Z6];show 10+1+_≤60*(ln pe+12+ln pc);lia)
 | @ins e c pe L pc h hc=>
  have hl:ln pc≤ln (if tagOf c=[118,97,114] then pc else Zm pc):=Zd1 _ _
  exact fin (vt (m:=m) (vc (vs (by decide)) (vc (ZN hR h) (vc (hR _ _ _ hc) vn)))) (by lia) (by rw [Z6,Z6];show 10+1+_≤60*(ln pe+12+_);lia)
 | @mcall o mm as ns po pm ps h1 h2 h3=>
  have h4:=ZfR ps
  have h5:ln (argText ps)=ln (Z2 ps)+2:=ZJ _
  exact fin (vt (m:=m+2) (vc (vs (by decide)) (vc (up (by lia) (Z3l hR h1)) (vc (Z1O (Zbz hR h2) (by lia) (Nat.le_refl _)) (vc (vt (Z6o hR h3)) (vc (vb ns) vn)))))) (by lia) (by
   rw [Z6,Z6,Z6,h5,show ln [arrow ns]=ln [arrow ns] from rfl]
   have:2≤ln [arrow ns]:=by cases ns<;>decide
   simp only [List.length_cons,List.length_nil];lia)
 | @prop o mm ns po pm h1 h2=>
  exact fin (vt (m:=m+1) (vc (vs (by decide)) (vc (up (by lia) (Z3l hR h1)) (vc (Zbz hR h2) (vc (vb ns) vn))))) (by lia) (by
   rw [Z6,Z6]
   have:2≤ln [arrow ns]:=by cases ns<;>decide
   simp only [List.length_cons,List.length_nil];lia)
 | @dim o i po L pi h1 h2=>exact fin (vt (m:=m) (vc (vs (by decide)) (vc (Z3l hR h1) (vc (hR _ _ _ h2) vn)))) (by lia) (by rw [Z6,Z6,Z6];show 3+1+_≤60*(ln po+1+ln pi+1);lia)
 | @dim0 o po h1=>exact fin (vt (m:=m) (vc (vs (by decide)) (vc (Z3l hR h1) (vc v0 vn)))) (by lia) (by rw [Z6];show 3+1+_≤60*(ln po+2);lia)
 | @callf as ps h=>
  have h4:=ZfR ps
  have h5:ln (argText ps)=ln (Z2 ps)+2:=ZJ _
  exact fin (vt (m:=m+2) (vc (vs (by decide)) (vc (vt (vc (vs (by decide)) (vc (vs (by decide)) vn))) (vc (vt (Z6o hR h)) vn)))) (by lia) (by rw [Z7,h5];show 4+1+(4+1+(1+1+0)+1+_)≤60*(1+(ln (Z2 ps)+2));lia)
 | @callo o as po ps h1 h2=>
  have h4:=ZfR ps
  have h5:ln (argText ps)=ln (Z2 ps)+2:=ZJ _
  have hl:ln po≤ln (if tagOf o=[112,114,111,112] then Zm po else po):=Z9x _ _
  exact fin (vt (m:=m+2) (vc (vs (by decide)) (vc (up (by lia) (Z3l hR h1)) (vc (vt (Z6o hR h2)) vn)))) (by lia) (by rw [Z6,h5];show 4+1+_≤_;lia)
 | @arr is ps h=>
  have h4:=ZfR ps
  exact fin (vt (m:=m+2) (vc (vs (by decide)) (vc (vt (Zan hR h)) vn))) (by lia) (by rw [Z7,Z6];show 5+1+_≤60*(1+(ln (Z2 ps)+1));lia)
 | @mtch x as L pe ps h1 h2=>
  have h4:=Z4p ps
  exact fin (vt (m:=m+3) (vc (vs (by decide)) (vc (up (by lia) (hR _ _ _ h1)) (vc (vt (Zch hR h2)) vn)))) (by lia) (by
   rw [Z7,Z7,Z6,Z6,ZJ,Z53];show 5+1+_≤60*(5+(1+(ln pe+2+1+(ln (Z2 ps)+2))));lia)
 | @empt x L pe h=>exact fin (vt (m:=m) (vc (vs (by decide)) (vc (hR _ _ _ h) vn))) (by lia) (by rw [Z7,ZJ];show 5+1+_≤60*(5+(ln pe+2));lia)
 | @iset ts ps h=>
  have h4:=Z4p ps
  exact fin (vt (m:=m+1) (vc (vs (by decide)) (vc (vt (Zcf hR h)) vn))) (by lia) (by rw [Z7,ZJ];show 5+1+_≤60*(5+(ln (Z2 ps)+2));lia)
end
end Mine
namespace Mine
theorem nd {h:Nat} {v L p} (n:Node (PT h) v L p) (hl:decide (ln p≤300)=true):PT (h+1) v L p:=
 .inr ⟨n,Nat.le_trans (of_decide_eq_true hl) (by decide),Z1C (fun v L p h=>(Z6I h).2) n⟩
theorem Z2a {h:Nat} {v L p} (k:Nat) (x:PT h v L p):Par (PT h) v k (if L<k then Zm p else p):=⟨L,p,x,rfl⟩
noncomputable abbrev vX:MV:=tn [118,97,114] [.str [120]]
noncomputable abbrev vY:MV:=tn [118,97,114] [.str [121]]
noncomputable abbrev vZ:MV:=tn [118,97,114] [.str [122]]
noncomputable abbrev Zci:MV:=tn [108,105,116] [.int 1]
theorem px {h}:PT h vX 21 [.var [120]]:=Z3m (by decide)
theorem py {h}:PT h vY 21 [.var [121]]:=Z3m (by decide)
theorem pz {h}:PT h vZ 21 [.var [122]]:=Z3m (by decide)
theorem p1 {h}:PT h Zci 21 [.int [49]]:=pt0 (.lit (p:=.int [49]) (List.mem_append_left _ (.tail _ (.head _)))) (by decide)
noncomputable def Z3v:MV:=tn [98,105,110] [.str [45],vX,tn [98,105,110] [.str [45],vY,tn [117,110] [.str [45],tn [105,110,99,100,101,99] [.str [45,45],.bool true,vZ]]]]
noncomputable def Z3u:MV:=tn [117,110] [.str [33],tn [98,105,110] [.str [42,42],tn [117,110] [.str [45],vX],tn [117,110] [.str [33],tn [105,110,115,116,97,110,99,101,111,102] [tn [97,115,115,105,103,110] [vY,Zci],tn [110,97,109,101] [.str [65]]]]]]
noncomputable def Za4:MV:=tn [105,102] [tn [105,102] [vX,.none,vY],tn [121,105,101,108,100] [.none,.none],tn [99,111,97,108,101,115,99,101] [tn [99,111,97,108,101,115,99,101] [vX,vY],tn [112,114,105,110,116] [vZ]]]
noncomputable def Z3t:MV:=tn [121,105,101,108,100] [tn [99,111,110,115,116] [.str [102,114,111,109]],tn [99,97,108,108] [tn [112,114,111,112] [vX,tn [108,105,116] [.str [102]],.bool true],.tup [.tup [Za4,.bool true,.none]]]]
noncomputable def cut:MV:=tn [108,105,115,116] [.tup [.tup [tn [112,114,105,110,116] [vX],tn [100,105,109] [vY,tn [121,105,101,108,100] [.none,Zci]],.bool false],.none,.none]]
noncomputable def Z3s:MV:=tn [99,97,115,116] [.str [105,110,116],tn [100,105,109] [tn [108,105,116] [.str [105,116,39,115,32,92,32,39,113,39,92]],tn [97,115,115,105,103,110] [cut,tn [121,105,101,108,100,102,114,111,109] [tn [99,111,110,115,116] [.str [73,78,84]]]]]]
noncomputable def ZfK (v:MV):Prop:=∃L p,PT 6 v L p∧ln p≤300
theorem Z5R:([45],16,16,17,17)∈opTab:=by decide
theorem Zav:ZfK Z3v:=by
 have a1:PT 1 (tn [105,110,99,100,101,99] [.str [45,45],.bool true,vZ]) 21 _:=nd (.incp (by decide) ⟨rfl,21,pz⟩) (by decide+kernel)
 have a2:PT 2 (tn [117,110] [.str [45],tn [105,110,99,100,101,99] [.str [45,45],.bool true,vZ]]) 19 _:=nd (.un (by decide) (Z2a 19 a1)) (by decide+kernel)
 have a3:PT 3 (tn [98,105,110] [.str [45],vY,_]) 16 _:=nd (.bin Z5R (Z2a 16 py) (Z2a 17 a2)) (by decide+kernel)
 have a4:PT 4 Z3v 16 _:=nd (.bin Z5R (Z2a 16 px) (Z2a 17 a3)) (by decide+kernel)
 exact ⟨_,_,Z1P (by decide) a4,by decide+kernel⟩
theorem Zau:ZfK Z3u:=by
 have a1:PT 1 (tn [97,115,115,105,103,110] [vY,Zci]) 4 _:=nd (.asg ⟨rfl,21,py⟩ (Z2a 4 p1)) (by decide+kernel)
 have a2:PT 2 (tn [105,110,115,116,97,110,99,101,111,102] [tn [97,115,115,105,103,110] [vY,Zci],tn [110,97,109,101] [.str [65]]]) 18 _:=nd (.insn (Z2a 19 a1) (.head _)) (by decide+kernel)
 have a3:PT 3 (tn [117,110] [.str [33],_]) 18 _:=nd (.not (Z2a 18 a2)) (by decide+kernel)
 have b1:PT 3 (tn [117,110] [.str [45],vX]) 19 _:=Z1P (by decide:1≤3) (nd (h:=0) (.un (by decide) (Z2a 19 px)) (by decide+kernel))
 have a4:PT 4 (tn [98,105,110] [.str [42,42],tn [117,110] [.str [45],vX],_]) 20 _:=nd (.bin (by decide:([42,42],20,21,19,19)∈opTab) (Z2a 21 b1) (Z2a 19 a3)) (by decide+kernel)
 have a5:PT 5 Z3u 18 _:=nd (.not (Z2a 18 a4)) (by decide+kernel)
 exact ⟨_,_,Z1P (by decide) a5,by decide+kernel⟩
theorem Zat:ZfK Z3t:=by
 have c1:PT 1 (tn [99,111,97,108,101,115,99,101] [vX,vY]) 6 _:=nd (.lg (.tail _ (.tail _ (.head _))) (Z2a 7 px) (Z2a 6 py)) (by decide+kernel)
 have c2:PT 1 (tn [112,114,105,110,116] [vZ]) 4 _:=nd (.pre (.head _) (Z2a 4 pz)) (by decide+kernel)
 have c3:PT 2 (tn [99,111,97,108,101,115,99,101] [tn [99,111,97,108,101,115,99,101] [vX,vY],tn [112,114,105,110,116] [vZ]]) 6 _:=nd (.lg (.tail _ (.tail _ (.head _))) (Z2a 7 c1) (Z2a 6 c2)) (by decide+kernel)
 have c4:PT 2 (tn [105,102] [vX,.none,vY]) 5 _:=Z1P (by decide:1≤2) (nd (h:=0) (.elvis (Z2a 6 px) (Z2a 6 py)) (by decide+kernel))
 have c5:PT 2 (tn [121,105,101,108,100] [.none,.none]) 0 _:=Z1P (by decide:1≤2) (nd (h:=0) .yld0 (by decide+kernel))
 have chosen_ok:PT 3 Za4 5 _:=nd (.tern (Z2a 6 c4) (Z2a 6 c5) (Z2a 6 c3)) (by decide+kernel)
 have k1:PT 4 (tn [99,111,110,115,116] [.str [102,114,111,109]]) 21 [.word [102,114,111,109]]:=pt0 (.cst (List.mem_append_left _ (.tail _ (.head _)))) (by decide)
 have q1:PT 3 (tn [112,114,111,112] [vX,tn [108,105,116] [.str [102]],.bool true]) 21 _:=Z1P (by decide:1≤3) (nd (h:=0) (.prop ⟨21,_,px,rfl⟩ (.plain (by decide:[102]∈memNames))) (by decide+kernel))
 have q2:PT 4 (tn [99,97,108,108] [tn [112,114,111,112] [vX,tn [108,105,116] [.str [102]],.bool true],.tup [.tup [Za4,.bool true,.none]]]) 21 _:=nd (.callo ⟨21,_,q1,rfl⟩ (.spread chosen_ok .nil)) (by decide+kernel)
 have q3:PT 5 Z3t 4 _:=nd (.yldk (Z2a 5 k1) (Z2a 4 q2)) (by decide+kernel)
 exact ⟨_,_,Z1P (by decide) q3,by decide+kernel⟩
theorem Zas:ZfK Z3s:=by
 have k1:PT 1 (tn [99,111,110,115,116] [.str [73,78,84]]) 21 [.word [73,78,84],.cmt]:=pt0 (.cst (List.mem_append_right _ (.tail _ (.tail _ (.tail _ (.head _)))))) (by decide)
 have y1:PT 1 (tn [121,105,101,108,100] [.none,Zci]) 4 _:=nd (.yld (Z2a 4 p1)) (by decide+kernel)
 have d1:PT 2 (tn [100,105,109] [vY,tn [121,105,101,108,100] [.none,Zci]]) 21 _:=nd (.dim ⟨21,_,py,rfl⟩ y1) (by decide+kernel)
 have r1:PT 2 (tn [112,114,105,110,116] [vX]) 4 _:=Z1P (by decide:1≤2) (nd (h:=0) (.pre (.head _) (Z2a 4 px)) (by decide+kernel))
 have f1:PT 2 (tn [121,105,101,108,100,102,114,111,109] [tn [99,111,110,115,116] [.str [73,78,84]]]) 4 _:=nd (.yfrom (Z2a 4 k1)) (by decide+kernel)
 have c1:Zca (PT 2) cut _:=⟨_,_,rfl,.key (Z2a 5 r1) (.inl ⟨rfl,21,d1⟩) (.gap (.gap .nil)),(fun h=>by cases h),rfl⟩
 have a1:PT 3 (tn [97,115,115,105,103,110] [cut,tn [121,105,101,108,100,102,114,111,109] [tn [99,111,110,115,116] [.str [73,78,84]]]]) 4 _:=nd (.asgl c1 (Z2a 4 f1)) (by decide+kernel)
 have t1:PT 3 (tn [108,105,116] [.str [105,116,39,115,32,92,32,39,113,39,92]]) 21 [.text [105,116,39,115,32,92,32,39,113,39,92]]:=pt0 (.lit (List.mem_append_right _ (List.mem_append_right _ (List.mem_map.2 ⟨_,by decide,rfl⟩)))) (by decide)
 have d2:PT 4 (tn [100,105,109] [tn [108,105,116] [.str [105,116,39,115,32,92,32,39,113,39,92]],_]) 21 _:=nd (.dim ⟨21,_,t1,rfl⟩ a1) (by decide+kernel)
 have e1:PT 5 Z3s 19 _:=nd (.cast (by decide) (Z2a 19 d2)) (by decide+kernel)
 exact ⟨_,_,Z1P (by decide) e1,by decide+kernel⟩
theorem c48 (d:Nat):Pct (Z3 FT (d+1)) 48 [] (.fl [Z3v,Z3u,Z3t,Z3s]):=Z4Y ZiW [] (by kernel_rfl)
end Mine
namespace Mine
theorem ZcI:∀{h v L p},PT h v L p→VB (7*(h+1)) (60*ln p) v
 |0,_,_,_,n=>Z1O (Z8v (R:=fun _ _ _=>False) (m:=0) (fun _ _ _ h=>h.elim) n.1) (by lia) (Nat.le_refl _)
 |h+1,_,_,_,.inl n=>Z1O (ZcI n) (by lia) (Nat.le_refl _)
 |h+1,_,_,_,.inr n=>Z1O (Z8v (R:=PT h) (m:=7*(h+1)) (fun _ _ _ x=>ZcI x) n.1) (by lia) (Nat.le_refl _)
theorem ZgB {h v L p} (n:PT h v L p) (hh:h≤20) (hl:ln p≤10000):PrT .repr [v] (.str (Z3G v)):=by
 obtain ⟨t,f,r,-,rfl⟩:=(rok h).shp n
 obtain ⟨h1,h2,h3,h4⟩:=ZcI n
 have h5:=PyData.shown_le 24 (by decide) _ h4
 have h6:(Z3G (.tup (.str t::r))).length≤SL:=by
  have:(Z3G (.tup (.str t::r))).length=(PyData.shown (Z1S (.tup (.str t::r)))).length:=by
   show (PyData.shown (Z1S (.tup (.str t::r)))).cps.toList.length=_
   rw [Array.length_toList];rfl
  rw [this]
  unfold SL;lia
 exact fun σ Q q=>.inr ⟨_,rfl,h1,by lia,h6,q⟩
theorem Zfq {d:Nat} {v t:MV} (h:Pct (Z3 FT d) 45 [v,.int 0,.none,.int 0] t):Pct (Z3 FT d) 45 [v] t:=by
 intro σ Q q
 have:=h σ Q q
 cases d with
 |zero=>exact this.elim
 |succ d=>
  unfold Z3 at this ⊢
  rw [Zhg] at this ⊢
  exact ⟨(by decide:1≤4),(by decide:4≤1+3),this.2.2⟩
noncomputable def Ok9 (v:MV):Prop:=∃L p,PT 6 v L p∧ln p≤10000
noncomputable def lB:List CS:=match b75 with|[_,_,_,.for _ _ b,_]=>b|_=>[]
theorem Zhy {v x4:MV} {ox4 ox5:Option MV} {Sv Av Tv:MV} {σ:Z4} {Q:Zn} (hv:Ok9 v) (q:∀y4 σ',Q .next [some Sv,some Av,some Tv,some v,y4,ox5] σ'):
  wpSs (Z3 FT 697) lB [some Sv,some Av,some Tv,some v,ox4,ox5] σ Q:=by
 obtain ⟨L,p,n,hl⟩:=hv
 have h45:=Zfq (Zeo n (d:=697) (by decide))
 have h60:=Z1U (c60 ((Z8B n).lx [] (fun x hx=>by cases hx)) (Z6I n) 0) (by decide:4≤697)
 generalize hts:toks p++[tk [101,110,100] []]=ts at h60
 show wpSs _ (.assign 4 (.pr .mkList [.call 60 [.call 45 [.var 3]],.cst (.int 0)])::[_]) _ _ _
 unfold wpSs wpS
 have e1:wpE (Z3 FT 697) (.pr .mkList [.call 60 [.call 45 [.var 3]],.cst (.int 0)]) [some Sv,some Av,some Tv,some v,ox4,ox5] σ=
   fun Q=>wpEs (Z3 FT 697) [.call 60 [.call 45 [.var 3]],.cst (.int 0)] [some Sv,some Av,some Tv,some v,ox4,ox5] σ fun vs σ'=>Pr.sem .mkList vs σ' Q:=by
  funext Q;unfold wpE;rfl
 rw [e1]
 unfold wpEs
 refine Z0E [.v (.str (spell p)),.v (.fl ts)] (v:=.fl ts) (ai3 h45 h60 (Eq.refl (MV.fl ts))) (by kernel_rfl) ?_
 unfold wpEs
 refine Z0E [] (v:=.int 0) (A:=MV.int 0=.int 0) rfl (by kernel_rfl) ?_
 unfold wpEs
 refine .inr fun c hc=>?_
 have hrd:E66 697 c ts 1 0 v (tl p):=by rw [←hts];exact Z0a (ZgC n (d:=300) (by decide) c) (by decide)
 have hend:ts[tl p]? =some (tk [101,110,100] []):=by rw [←hts,List.getElem?_append_right (Nat.le_refl _),Nat.sub_self];rfl
 have hr:=ZgB n (by decide) hl
 have e2:MV.bool ((Z3G v==Z3G v) !=true)=.bool false:=by rw [beq_self_eq_true];rfl
 refine Z0R (a:=c) (l:=Cu ts 0) (l':=Cu ts (tl p)) (ρ':=[some Sv,some Av,some Tv,some v,some (.lst c),ox5]) (t:=[.c v (Cu ts (tl p)),.g (.str (Z3G v)),.g (.str (Z3G v)),.t false,.c (tk [101,110,100] []) (Cu ts (tl p)),.t false])
  (ZD (And.intro hrd<|And.intro hr<|And.intro hr<|And.intro e2<|And.intro (Z0a (c62 c hend 0) (by decide:1≤697))<|And.intro (Eq.refl (MV.bool false))<|fin3' (o:=.next) (ρ:=[some Sv,some Av,some Tv,some v,some (.lst c),ox5]) (l:=Cu ts (tl p))) (by kernel_rfl)) (Z9 σ c _) _ (q _ _)
theorem Zc5 {Sv Av Tv:MV} {ox5:Option MV}:∀{vs:List MV},(∀v∈vs,Ok9 v)→∀{x3 x4:Option MV} {σ:Z4} {Q:Zn},(∀y3 y4 σ',Q .next [some Sv,some Av,some Tv,y3,y4,ox5] σ')→
  wpFor (fun u ρ1 σ1 Q1=>wpSs (Z3 FT 697) lB (ρ1.set 3 (some u)) σ1 Q1) vs [some Sv,some Av,some Tv,x3,x4,ox5] σ Q
 |[],_,x3,x4,σ,Q,q=>q x3 x4 σ
 |v::r,h,x3,x4,σ,Q,q=>Zhy (x4:=.none) (h v (List.mem_cons_self ..)) fun y4 σ'=>Zc5 (fun u hu=>h u (List.mem_cons_of_mem _ hu)) q
theorem Z3P {a b:Addr} (ne:a≠b) {ns:List Int} {n n' deep k:Nat} {v:MV} {acc items:List MV} {σ0:Z4} {ρ:Loc} {K:List MV→Z4→Prop} (hC:Ct (Z3 FT 697) a 54 [Sc ns,.lst a,.int (deep:Nat)] (cn n) v (cn n'))
  (hk:evE (Z3 FT 697) ⟨a,b,ne⟩ (.call 54 [.var 0,.var 1,.cond (.pr .eq [.var 5,.cst (.int 4)]) (.cst (.int 3)) (.cst (.int 2))]) (ρ.set 5 (some (.int (k:Nat)))) ⟨some (cn n),some acc⟩ [.c v (cn n')] (fun w κ _=>w=v∧κ.c1=some (cn n')∧κ.c2=some acc)
   =(Ct (Z3 FT 697) a 54 [Sc ns,.lst a,.int (deep:Nat)] (cn n) v (cn n')∧v=v∧some (cn n')=some (cn n')∧some acc=some acc))
  (h:Z2X b (fun u σ'' Q'=>wpE (Z3 FT 697) (.call 54 [.var 0,.var 1,.cond (.pr .eq [.var 5,.cst (.int 4)]) (.cst (.int 3)) (.cst (.int 2))]) (ρ.set 5 (some u)) σ'' Q') items (acc++[v]) (S2 σ0 a b (cn n') (acc++[v])) K):
  Z2X b (fun u σ'' Q'=>wpE (Z3 FT 697) (.call 54 [.var 0,.var 1,.cond (.pr .eq [.var 5,.cst (.int 4)]) (.cst (.int 3)) (.cst (.int 2))]) (ρ.set 5 (some u)) σ'' Q') (.int (k:Nat)::items) acc (S2 σ0 a b (cn n) acc) K:=by
 refine Z46 ne (ZD (And.intro hC ⟨rfl,rfl,rfl⟩) hk) _ ⟨ZcC σ0 a b _ _,?_⟩
 rw [show upd (S2 σ0 a b (cn n') acc) b (acc++[v])=S2 σ0 a b (cn n') (acc++[v]) from Z0A _ b acc _]
 exact h
theorem Z9h {deep:Nat} (hd:deep≤3) {v:MV} (g:Gd (deep+2) (Bt deep) v):Ok9 v:=by
 obtain ⟨L,p,n,hl⟩:=g
 have:Bt deep≤10000:=by
  have:∀d∈List.range 4,Bt d≤10000:=by decide
  exact this deep (List.mem_range.2 (by lia))
 exact ⟨L,p,Z1P (by lia) n,Nat.le_trans hl this⟩
theorem law (ns:List Int) (hns:ns.length≤63) (σ:Z4):Z3 FT 698 75 [.fl (ns.map .int)] σ fun v _=>v=.bool true:=by
 refine Z03 ZiH rfl ?_
 have hsl:PrT .slice [Sc ns,.none,.int 63] (Sc ns):=fun σ Q q=>.inr ⟨_,63,rfl,by decide,by
  show Q (.fl ((ns.map MV.int).take 63)) σ
  rw [List.take_of_length_le (by rw [List.length_map];exact hns)];exact q⟩
 show wpSs _ (_:: .assign 1 (.pr .mkList [.cst (.int 0)])::b75.drop 2) _ _ _
 refine Z1I [.g (Sc ns)] (ρ':=[some (Sc ns),none,none,none,none,none]) (fun _ f=>And.intro hsl f) (by kernel_rfl) ?_
 unfold wpSs wpS
 have e1:wpE (Z3 FT 697) (.pr .mkList [.cst (.int 0)]) [some (Sc ns),none,none,none,none,none] σ=fun Q=>Pr.sem .mkList [.int 0] σ Q:=by
  funext Q;unfold wpE wpEs;unfold wpE wpEs;rfl
 rw [e1]
 refine .inr fun a ha=>?_
 show wpSs _ (.assign 2 (.pr .add [.call 48 [],.comp 5 (.call 54 [.var 0,.var 1,.cond (.pr .eq [.var 5,.cst (.int 4)]) (.cst (.int 3)) (.cst (.int 2))]) (.pr .range [.cst (.int 5)])]):: .for 3 (.var 2) lB::[.ret (.cst (.bool true))]) [some (Sc ns),some (.lst a),none,none,none,none] _ _
 unfold wpSs wpS
 have e2:∀σ,wpE (Z3 FT 697) (.pr .add [.call 48 [],.comp 5 (.call 54 [.var 0,.var 1,.cond (.pr .eq [.var 5,.cst (.int 4)]) (.cst (.int 3)) (.cst (.int 2))]) (.pr .range [.cst (.int 5)])]) [some (Sc ns),some (.lst a),none,none,none,none] σ=
   fun Q=>wpEs (Z3 FT 697) [.call 48 [],.comp 5 (.call 54 [.var 0,.var 1,.cond (.pr .eq [.var 5,.cst (.int 4)]) (.cst (.int 3)) (.cst (.int 2))]) (.pr .range [.cst (.int 5)])] [some (Sc ns),some (.lst a),none,none,none,none] σ fun vs σ'=>Pr.sem .add vs σ' Q:=by
  intro σ;funext Q;unfold wpE;rfl
 rw [e2]
 unfold wpEs
 refine Z0E [.v (.fl [Z3v,Z3u,Z3t,Z3s])] (v:=.fl [Z3v,Z3u,Z3t,Z3s]) (ai2 (Z1U (c48 0) (by decide:1≤697)) (Eq.refl (MV.fl [Z3v,Z3u,Z3t,Z3s]))) (by kernel_rfl) ?_
 unfold wpEs wpE
 refine Z0E [.g (.rng 5)] (v:=.rng 5) (ai2 (rngT 5 (by decide)) (Eq.refl (MV.rng 5))) (by kernel_rfl) ?_
 show (match iterOf (.rng 5) with|some items=>_|Option.none=>False)
 refine ⟨by decide,fun b hb=>?_⟩
 have ne:a≠b:=fun e=>by rw [←e,Z9] at hb;cases hb
 have e2:Kt 2=318:=by decide
 have e3:Kt 3=1938:=by decide
 obtain ⟨v0,n1,k1,c1,g1⟩:=tr2 (d:=697) (a:=a) (ns:=ns) (n:=0) (by decide) (by decide)
 obtain ⟨v1,n2,k2,c2,g2⟩:=tr2 (d:=697) (a:=a) (ns:=ns) (n:=n1) (by decide) (by lia)
 obtain ⟨v2,n3,k3,c3,g3⟩:=tr2 (d:=697) (a:=a) (ns:=ns) (n:=n2) (by decide) (by lia)
 obtain ⟨v3,n4,k4,c4,g4⟩:=tr2 (d:=697) (a:=a) (ns:=ns) (n:=n3) (by decide) (by lia)
 obtain ⟨v4,n5,k5,c5,g5⟩:=tr3 (d:=697) (a:=a) (ns:=ns) (n:=n4) (by decide) (by lia)
 refine Z3P (k:=0) ne c1 (by kernel_rfl) (Z3P (k:=1) ne c2 (by kernel_rfl) (Z3P (k:=2) ne c3 (by kernel_rfl) (Z3P (k:=3) ne c4 (by kernel_rfl) (Z3P (k:=4) ne c5 (by kernel_rfl) ?_))))
 rw [List.map_nil]
 unfold Z2X wpEs
 refine Z44 (p:=.add) (vs:=[.fl [Z3v,Z3u,Z3t,Z3s],.fl [v0,v1,v2,v3,v4]]) (v:=.fl [Z3v,Z3u,Z3t,Z3s,v0,v1,v2,v3,v4]) rfl (by decide:4+5≤SL) ?_
 show wpSs _ (.for 3 (.var 2) lB::[.ret (.cst (.bool true))]) [some (Sc ns),some (.lst a),some (.fl [Z3v,Z3u,Z3t,Z3s,v0,v1,v2,v3,v4]),none,none,none] _ _
 refine Z6X (v:=.fl [Z3v,Z3u,Z3t,Z3s,v0,v1,v2,v3,v4]) (items:=[Z3v,Z3u,Z3t,Z3s,v0,v1,v2,v3,v4]) rfl (by kernel_rfl) (Zc5 ?_ fun y3 y4 σ'=>?_)
 ·have ot:∀{v},ZfK v→Ok9 v:=fun h=>by
   obtain ⟨L,p,n,hl⟩:=h
   exact ⟨L,p,n,Nat.le_trans hl (by decide)⟩
  intro v hv
  simp only [List.mem_cons,List.not_mem_nil,or_false] at hv
  rcases hv with rfl|rfl|rfl|rfl|rfl|rfl|rfl|rfl|rfl
  ·exact ot Zav
  ·exact ot Zau
  ·exact ot Zat
  ·exact ot Zas
  ·exact Z9h (by decide) g1
  ·exact Z9h (by decide) g2
  ·exact Z9h (by decide) g3
  ·exact Z9h (by decide) g4
  ·exact Z9h (by decide) g5
 ·exact ZaU [] (Eq.refl (Out.ret (.bool true))) (by kernel_rfl) fun ρ=>⟨_,Z0Z,rfl⟩
end Mine
theorem PySem.Challenge.cw_pq0847_01_holds : PySem.Challenge.rw_pq0847_01.Holds :=
 Mine.join fun ns h σ=>Mine.law ns h σ
