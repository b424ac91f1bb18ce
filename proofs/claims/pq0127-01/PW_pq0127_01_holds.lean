import PyProof.Rows.All
import PySem.Value
import PyProof.AttrMissHeap
import PyProof.CollectWalk
import PyProof.EnumMake
import PyProof.ZipIter
import PyProof.SliceMore
import PyProof.Rows.SortShell
import PyProof.Rows.SetFrom
import KE.KLam
import KE.KItemsList
import KE.KSortKey
import KE.KSortTup
import OpenK.AllK
import Wide.All
import PySem.Challenge.RW_pq0127_01
set_option linter.all false
set_option Elab.async false
set_option maxRecDepth 100000
set_option tactic.hygienic false
namespace Mine
open PySem PySem.W PySem.Calls PyProof.Rows
def aa:=@List.mem_cons_self
def ad:=@wpAny_bind
def af:=@wpAny_pure
def ag:=@Heap.get?_push_of_some
def ah:=@Heap.get?_push_size
def ai:=@List.mem_cons_of_mem
def aj:=@Nat.le_trans
def ak:=@Nat.le_refl
def am:=@List.forall_mem_singleton
def ao:=@List.forall_mem_cons
def aq:=@Option.isSome_iff_exists
def au:=@Nat.le_of_succ_le_succ
def av:=@Option.some.inj
def aw:=@List.length_map
def ay:=@List.mem_singleton
def az:=@List.mem_cons
def aA:=@List.getElem?_eq_some_iff
def aB:=@List.length_append
def aC:=@Bool.and_eq_true_iff
def aE:=@Nat.le_of_ble_eq_true
def aF:=@Bool.false_ne_true
def aG:=@List.all_eq_true
def aH:=@wpAny_holding
def aI:=@Nat.lt_of_le_of_lt
def aJ:=@Nat.le_of_succ_le
def aK:=@Array.getElem?_toList
def aL:=@wpAny_call_entry
def aM:=@Array.length_toList
def aN:=@List.getElem?_eq_getElem
def aO:=@List.length_cons
def aP:=@List.mem_append_left
def aQ:=@List.mem_append_right
def aR:=@Nat.succ_le_succ
def aS:=@List.lookup_cons
def aT:=@List.nodup_cons
def aU:=@List.mem_append
def aV:=@wpAny_newObj_type
def aW:=@List.mem_of_getElem?
def aX:=@Heap.get?_update_self
def aY:=@Nat.not_lt_zero
def aZ:=@Nat.zero_le
def ba:=@List.length_eq_zero_iff
def bb:=@Heap.SameBut.update
def bc:=@wpAny_callSpecial?_slot
def be:=@decide_eq_true
def bf:=@wpAny_field
def bg:=@eq_of_beq
def bh:=@List.getElem?_set_ne
def bj:=@Nat.sub_le_of_le_add
def bl:=@wpAny_truthy_bool
def bn:=@Nat.le_add_right
def bp:=@wpAny_standAt
def bq:=@decide_eq_false
def br:=@Nat.lt_of_lt_of_le
def bt:=@List.length_set
def bu:=@Nat.add_le_add_left
def bv:=@wpAny_setField_rec
def bw:=@of_decide_eq_true
def bx:=@List.mem_map
def bz:=@PySem.mem_of_lookup
def bA:=@List.append_nil
def bB:=@Nat.add_le_add_right
def bC:=@List.getElem?_append_left
def bD:=@List.getElem?_set_self
inductive Fn where
 | named | isVar | variables | placed | parts | partAt | replaced | matched | renamed | keyOf
 | placeOfOp | pathInit | above | isAbove | firstAbove | followed | begun | unified | apart | markFor | overlaps
 | ruleInit | normInit | stepOf | normal | normWay | compInit | note | turned | simpler | letIn | meet | step | run | way
 | lawPool | lawPull | lawTerm | lawWhole | lawClosed | law
 deriving Inhabited
noncomputable def bH:Nat->List Str
 | 0=>["name","left","right","needs"]
 | 1=>["rules"]
 | 2=>["ranks","known"]
 | 3=>["order","most","count","rules","stuck","waiting"]
 | _=>[]
noncomputable def on:Scope:=⟨.function,[],false,false,[]⟩
noncomputable def m4:Arguments:=⟨[],[],none,[],[],none,[]⟩
noncomputable def AE {α:Type}(d:α) (ret:Option Expr->α) (asg:List Expr->Expr->α) (fr:Expr->Expr->List Stmt->α) (whl:Expr->List Stmt->α) (iff:Expr->List Stmt->List Stmt->α) (ex:Expr->α) (fd:Arguments->List Stmt->Scope->α) (cd:List Stmt->α) (s:Stmt):α:=
 @Stmt.casesOn (λzz=>α) s (λzz x y zz zz zz z zz zz zz=>fd x y z) (λzz zz zz zz zz zz zz zz zz zz=>d) (λzz zz zz x zz zz zz zz zz zz zz=>cd x) (λx zz=>ret x) (λzz zz=>d) (λx y zz=>asg x y) (λzz zz zz zz zz zz zz=>d) (λzz zz zz zz=>d) (λzz zz zz zz zz=>d) (λx y z zz zz=>fr x y z) (λzz zz zz zz zz=>d) (λx y zz zz=>whl x y) (λx y z zz=>iff x y z) (λzz zz zz=>d) (λzz zz zz=>d) (λzz zz zz=>d) (λzz zz zz=>d) (λzz zz zz zz zz=>d) (λzz zz zz zz zz=>d) (λzz zz zz=>d) (λzz zz=>d) (λzz zz zz zz=>d) (λzz zz=>d) (λzz zz=>d) (λx zz=>ex x) (λzz=>d) (λzz=>d) (λzz=>d)
noncomputable def cm (s:Stmt):List Stmt:=AE [] (λzz=>[]) (λzz zz=>[]) (λzz zz zz=>[]) (λzz zz=>[]) (λzz zz zz=>[]) (λzz=>[]) (λzz x zz=>x) (λzz=>[]) s
noncomputable def bW (s:Stmt):Scope:=AE on (λzz=>on) (λzz zz=>on) (λzz zz zz=>on) (λzz zz=>on) (λzz zz zz=>on) (λzz=>on) (λzz zz x=>x) (λzz=>on) s
noncomputable def tZ (s:Stmt):Arguments:=AE m4 (λzz=>m4) (λzz zz=>m4) (λzz zz zz=>m4) (λzz zz=>m4) (λzz zz zz=>m4) (λzz=>m4) (λx zz zz=>x) (λzz=>m4) s
noncomputable def CN (s:Stmt):List Stmt:=AE [] (λzz=>[]) (λzz zz=>[]) (λzz zz zz=>[]) (λzz zz=>[]) (λzz zz zz=>[]) (λzz=>[]) (λzz zz zz=>[]) (λx=>x) s
noncomputable def AR (fa:Fn->Addr) (cl:Nat->Addr):List (Str × Value):=[("named",.ref (fa .named)),("is_variable",.ref (fa .isVar)),("variables",.ref (fa .variables)),("placed",.ref (fa .placed)),("parts",.ref (fa .parts)),("part_at",.ref (fa .partAt)),
 ("replaced",.ref (fa .replaced)),("matched",.ref (fa .matched)),("renamed",.ref (fa .renamed)),("key_of",.ref (fa .keyOf)),("place_of_op",.ref (fa .placeOfOp)),("followed",.ref (fa .followed))]
noncomputable def xk (fa:Fn->Addr) (cl:Nat->Addr):List (Str × Value):=[("begun",.ref (fa .begun)),("unified",.ref (fa .unified)),("apart",.ref (fa .apart)),("mark_for",.ref (fa .markFor)),("overlaps",.ref (fa .overlaps)),
 ("_law_pool",.ref (fa .lawPool)),("_law_pull",.ref (fa .lawPull)),("_law_term",.ref (fa .lawTerm)),("_law_whole",.ref (fa .lawWhole)),("_law_closed",.ref (fa .lawClosed)),
 ("Rule",.ref (cl 0)),("Normal",.ref (cl 1)),("PathOrder",.ref (cl 2)),("Completion",.ref (cl 3))]
noncomputable def BA:List (Str × Value):=[("len",.builtin "len"),("sorted",.builtin "sorted"),("tuple",.type "tuple"),("list",.type "list"),("dict",.type "dict"),("set",.type "set"),("int",.type "int"),("range",.type "range"),("reversed",.type "reversed"),
 ("enumerate",.type "enumerate"),("zip",.type "zip")]
noncomputable def BX:List ((Nat × Str) × Fn):=[((0,"__init__"),.ruleInit),((1,"__init__"),.normInit),((1,"step_of"),.stepOf),((1,"normal"),.normal),((1,"way"),.normWay),((2,"__init__"),.pathInit),((2,"above"),.above),((2,"is_above"),.isAbove),((2,"first_above"),.firstAbove)]
noncomputable def CA:List ((Nat × Str) × Fn):=[((3,"__init__"),.compInit),((3,"note"),.note),((3,"turned"),.turned),((3,"simpler"),.simpler),((3,"let_in"),.letIn),((3,"meet"),.meet),((3,"step"),.step),((3,"run"),.run),((3,"way"),.way)]
noncomputable def rA:List ((Nat × Str) × Fn):=BX++CA
noncomputable abbrev pw:Program:=PySem.Challenge.pw_pq0127_01
noncomputable def cj (i:Nat):Stmt:=pw.main.body.getD i (.Pass ⟨0,0,0,0⟩)
noncomputable def eC (i j:Nat):Stmt:=(CN (cj i)).getD j (.Pass ⟨0,0,0,0⟩)
noncomputable def qh:Fn->Addr
 | .named=>19 | .isVar=>91 | .variables=>96 | .placed=>101 | .parts=>106 | .partAt=>113 | .replaced=>120 | .matched=>127 | .renamed=>132 | .keyOf=>137 | .placeOfOp=>144
 | .pathInit=>158 | .above=>165 | .isAbove=>170 | .firstAbove=>177 | .followed=>196 | .begun=>210 | .unified=>227 | .apart=>232 | .markFor=>237 | .overlaps=>244 | .ruleInit=>256
 | .normInit=>284 | .stepOf=>291 | .normal=>298 | .normWay=>303 | .compInit=>324 | .note=>331 | .turned=>338 | .simpler=>345 | .letIn=>350 | .meet=>357 | .step=>364 | .run=>371 | .way=>378
 | .lawPool=>390 | .lawPull=>397 | .lawTerm=>402 | .lawWhole=>407 | .lawClosed=>412 | .law=>417
noncomputable def sS:Nat->Addr
 | 0=>266 | 1=>306 | 2=>180 | _=>381
noncomputable def rU:Fn->Stmt × List String
 | .named=>(cj 1,["pattern","names","~"]) | .isVar=>(cj 8,["t"]) | .variables=>(cj 9,["t","~","~"]) | .placed=>(cj 10,["pattern","table","~"]) | .parts=>(cj 11,["t","found","k","kid","~","~"])
 | .partAt=>(cj 12,["t","path","k"]) | .replaced=>(cj 13,["t","path","u","kid"]) | .matched=>(cj 14,["pattern","t","table","waiting","here","there"]) | .renamed=>(cj 15,["t","table","~"])
 | .keyOf=>(cj 16,["t","some","~","~","~"]) | .placeOfOp=>(cj 18,["ranks","t"]) | .pathInit=>(eC 19 0,["self","ranks"]) | .above=>(eC 19 1,["self","s","t"])
 | .isAbove=>(eC 19 2,["self","s","t","~","one","other","~"]) | .firstAbove=>(eC 19 3,["self","some","others","kid","late"]) | .followed=>(cj 22,["pattern","table"])
 | .begun=>(cj 24,["one","other","table","waiting","here","there"]) | .unified=>(cj 27,["one","other","table"]) | .apart=>(cj 28,["pattern","mark","~"]) | .markFor=>(cj 29,["names","known","mark","~"])
 | .overlaps=>(cj 30,["rule","other","mark","left","right","found","path","part","is_same","table","pattern"])
 | .ruleInit=>(eC 32 0,["self","name","left","right","needs","known","asked","kind","one","other","lost","~"]) | .normInit=>(eC 34 0,["self","rules"])
 | .stepOf=>(eC 34 1,["self","term","path","part","rule","table","step"]) | .normal=>(eC 34 2,["self","term","most","steps","found"]) | .normWay=>(eC 34 3,["self","one","other","most","here","steps","there","others","~"])
 | .compInit=>(eC 35 0,["self","equations","order","most","left","right"]) | .note=>(eC 35 1,["self","left","right"]) | .turned=>(eC 35 2,["self","left","right","one","other"]) | .simpler=>(eC 35 3,["self","term"])
 | .letIn=>(eC 35 4,["self","rule","elder","late","one","~"]) | .meet=>(eC 35 5,["self","rule","other","path","pattern","one","two"]) | .step=>(eC 35 6,["self","pair","left","right","rule"]) | .run=>(eC 35 7,["self","lap"])
 | .way=>(eC 35 8,["self","one","other"]) | .lawPool=>(cj 37,["script","~"]) | .lawPull=>(cj 38,["pool","limit","lap","spot"]) | .lawTerm=>(cj 39,["pool","deep","way","~"])
 | .lawWhole=>(cj 40,["some","found","term","~"]) | .lawClosed=>(cj 41,["terms","pairs","labels","one","other","kept","lost","term","heads","head","~","~"])
 | .law=>(cj 42,["script","pool","told","far","order","maker","terms","labels","forms","seen","places","term","~","~","~","~","~","~","~"])
noncomputable def mZ:List Fn:=[.named,.isVar,.variables,.placed,.parts,.partAt,.replaced,.matched,.renamed,.keyOf,.placeOfOp,.pathInit,.above,.isAbove,.firstAbove,.followed,.begun,.unified,.apart,.markFor,.overlaps] ++
 [.ruleInit,.normInit,.stepOf,.normal,.normWay,.compInit,.note,.turned,.simpler,.letIn,.meet,.step,.run,.way,.lawPool,.lawPull,.lawTerm,.lawWhole,.lawClosed,.law]
noncomputable def A5:List Addr:=mZ.map qh++[266,306,180,381,265,305,179,380]
noncomputable def hY (h:Heap):Frag:=A5.filterMap λa=>(h.get? a).map λo=>(a,o)
noncomputable def Dj (h:Heap) (f:Fn):Bool:=match h.get? (qh f) with
 | some ⟨_,_,.func fd,_⟩=>(fd.globals == mainGlobals && (fd.closure.isEmpty && fd.builtins == builtinsNs)) && (fd.defaults == .none && h.codeRecOk fd.code fd.qualname)
 | _=>false
noncomputable def Dm (h:Heap) (f:Fn):Option (Arguments × FuncBody × Scope):=match h.get? (qh f) with
 | some ⟨_,_,.func fd,_⟩=>some (fd.params,fd.body,fd.scope)
 | _=>none
noncomputable def DK (K:Frag) (c:Nat):Bool:=
 (keepIn K (.ref (sS c)) && (findIn K (.ref (sS c)) "__getattribute__" == some (some (.builtin "object.__getattribute__")) && (findIn K (.ref (sS c)) "__getattr__" == some none && findIn K (.ref (sS c)) "__setattr__" == some (some (.builtin "object.__setattr__"))))) &&
  (hasDictIn K (sS c) && (plainOver K (sS c) && (makesIn K (sS c) && (bH c).all λn=>findIn K (.ref (sS c)) n == some none)))
noncomputable def kT (K:Frag):Bool:=mZ.all (λf=>keepIn K (.ref (qh f))) && ([0,1,2,3].all (DK K) && rA.all λq=>findIn K (.ref (sS q.1.1)) q.1.2 == some (some (.ref (qh q.2))) && typeIn K (.ref (qh q.2)) == some (.type "function"))
noncomputable def Dc:Value->Bool
 | .str _ _=>true
 | _=>false
noncomputable def AX:Value->Bool
 | .int _ _=>true
 | _=>false
noncomputable def Ab:Value->Bool
 | .bool _=>true
 | _=>false
noncomputable def yh:Option Obj->Bool
 | some ⟨cls,_,.fields vs,_⟩=>(cls == .type "code" && (vs[11]? == some (.ref 359) && vs.getD 11 .none == .ref 359)) && (Dc (vs.getD 18 .none) && (AX (vs.getD 7 .none) && (Ab (vs.getD 9 .none) && AX (vs.getD 10 .none))))
 | _=>false
noncomputable def xM:Option Obj->Bool
 | some ⟨_,_,.func fd,_⟩=>fd.code == .ref 363 && fd.qualname == ("Completion.step":Str)
 | _=>false
noncomputable def AZ:Option Obj->Bool
 | some ⟨cls,d,.plain,_⟩=>cls == .type "module" && d == some builtinsNs
 | _=>false
noncomputable def gT (h:Heap):Bool:=
 ((AR qh sS).all (λq=>h.nsMap mainGlobals q.1 == some q.2) && ((xk qh sS).all (λq=>h.nsMap mainGlobals q.1 == some q.2) && BA.all λq=>h.nsMap mainGlobals q.1 == none && h.nsMap builtinsNs q.1 == some q.2)) &&
  (h.isNs mainGlobals && (h.isNs builtinsNs && (h.isNs cStatics && (h.nsMap cStatics "sys.recursionlimit" == none && (h.nsMap mainGlobals "__builtins__" == some (.ref 4) && h.nsMap mainGlobals "law" == some (.ref 417))))))
noncomputable def Cy:Option Obj->Bool
 | some ⟨cls,_,_,_⟩=>cls == .type "dict"
 | _=>false
noncomputable def Bc (h:Heap):Bool:=(mZ.all (Dj h) && kT (hY h)) && (gT h && (yh (h.get? 363) && (xM (h.get? 364) && (AZ (h.get? 4) && Cy (h.get? sysModules)))))
noncomputable def BS (s:Shared):Bool × List (Option (Arguments × FuncBody × Scope)) × Option Obj:=(Bc s.heap,mZ.map (Dm s.heap),s.heap.get? 359)
noncomputable def val:Bool × List (Option (Arguments × FuncBody × Scope)) × Option Obj:=(true,mZ.map λf=>some (tZ (rU f).1,.stmts (cm (rU f).1),bW (rU f).1),some (tabObj #[]))
noncomputable abbrev B4:OpenLaw:=PySem.Challenge.rw_pq0127_01
noncomputable def zQ (st:SharedT->Thread->Option (SharedT × Thread)) (n₀:Nat) (ann:Option Value):Nat->SharedT->Thread->Option SharedT
 | 0,_,_=>none
 | n+1,s,t=>match through t with
  | true=>some s
  | false=>match stepOk n₀ ann t with
   | false=>none
   | true=>match st s t with
    | some r=>zQ st n₀ ann n r.1 r.2
    | none=>none
structure CT where
 st:(Code->Sem Fin)->Program->World->SharedT->Thread->Option (SharedT × Thread)
 dn:(String->Option Builtin)->Code->Sem Fin
 tb:String->Option Builtin
noncomputable def Cb (P:Params):BT:=(boot_heap P).objs.toList.zipIdx.foldl (λt x=>t.ins x.2 x.1) .nil
noncomputable def Aw (P:Params) (os:OsState):SharedT:=⟨Cb P,11,(boot_heap P).life,#[],boot_drawn,boot_toks,os⟩
noncomputable def vw:Program:={ pw with main:={ pw.main with body:=pw.main.body.drop 42 } }
noncomputable def Et:List Str:=["named","HeapError","TermFault","RuleFault","LimitFault","is_variable","variables","placed","parts","part_at","replaced","matched","renamed","key_of","place_of_op","PathOrder","MOST_SIZE","filled","followed","is_within"]
noncomputable def Ey:List Str:=["begun","in_turn","worked_out","unified","apart","mark_for","overlaps","Rule","Normal","Completion","_law_pool","_law_pull","_law_term","_law_whole","_law_closed"]
noncomputable def lo:List Str:=Et++Ey
noncomputable abbrev xt (s:Shared):Bool:=xlAt vw [] s && recOk (RowW.records B4.row.toRowW) s
theorem DU:(⟨stepT,denote,treeTable⟩:CT)=⟨PySem.W.Fast.tw10156331382660048174,PySem.W.Fast.tw11892475500146522536,PySem.W.Fast.tw14364793385576792824⟩:=by
 rw [PySem.W.Fast.te10156331382660048174,PySem.W.Fast.te11892475500146522536,PySem.W.Fast.te14364793385576792824]
noncomputable abbrev B6 (w:World):Option Value:=(boot_heap w.params).nsMap mainGlobals "__annotations__"
noncomputable abbrev CM (P:Params) (s:Shared):Bool:=staticsOk (importedModules pw.main.body) (boot_heap P) s.heap && namesBound pw s.heap && gensDone s && laidKept (boot_heap P) s.heap
noncomputable def C3 (M:CT):Prop:=∀ w:World,(λos=>(zQ (M.st (M.dn M.tb) pw w) 11 (B6 w) 3170 (Aw w.params os) (topStub pw)).map λs=>(CM w.params s.abs,openSeen vw lo (importedModules pw.main.body) xt true s.abs,BS s.abs))=λzz=>some (true,openGood vw lo,val)
theorem Dy:C3 ⟨PySem.W.Fast.tw10156331382660048174,PySem.W.Fast.tw11892475500146522536,PySem.W.Fast.tw14364793385576792824⟩:=λw=>by kernel_rfl
inductive V where
 | none
 | bool (b:Bool)
 | int (i:Int)
 | str (s:Str)
 | tup (l:List V)
 | lst (l:List V)
 | dct (ks vs:List V)
 | obj (c:Nat) (vs:List V)
 | gl (n:Nat)
 deriving Inhabited
inductive bN where
 | val (v:V)
 | ol (xs:List V)
 | od (ks vs:List V)
 deriving Inhabited
inductive mR where
 | lst (xs:List V)
 | inst (c:Nat) (slots:List bN)
 deriving Inhabited
noncomputable abbrev G:=List mR
noncomputable abbrev En:=List (Option bN)
inductive BK where
 | add | sub | mul | fdiv | mod
inductive A9 where
 | eq | ne | lt | le | gt | isN | isNN
inductive nX where
 | plain | enum | zip | range | rev
inductive Fl where
 | nxt
 | ret (v:V)
noncomputable def E:=(Fn->List V->G->Option (V × G))->En->G->Option (V × G)
noncomputable def D:=(Fn->List V->G->Option (V × G))->En->G->Option ((List V × List V) × G)
noncomputable def R:=(Fn->List V->G->Option (V × G))->En->G->Option (bN × G)
noncomputable def S:=Nat->(Fn->List V->G->Option (V × G))->En->G->Option (Fl × En × G)
noncomputable abbrev lim:Nat:=1000000
theorem no {α:Type}{a:α}{P:Prop}(h:(none:Option α)=some a):P:=nomatch h
theorem iU {P:Prop}(h:false=true):P:=nomatch h
theorem bL {α β:Type}{o:Option α}{a:α}{f:α->Option β}{r:Option β}(h:o=some a) (k:f a=r):o.bind f=r:=by rw [h]; exact k
theorem ju {α β:Type}{o:Option α}{f:α->Option β}{r:β}(h:o.bind f=some r):∃ a,o=some a/\f a=some r:=by
 cases o with
 | none=>exact no h
 | some a=>exact ⟨a,rfl,h⟩
theorem gA {α:Type}{c:Prop} [Decidable c] {o:Option α}{r:α}(h:(if c then o else none)=some r):c/\o=some r:=by
 by_cases q:c
 ·exact ⟨q,(if_pos q).symm.trans h⟩
 ·exact no ((if_neg q).symm.trans h)
theorem cu {α β:Type}{C:Prop}{o:Option α}{f:α->Option β}{r:β}(h:o.bind f=some r) (k:∀ a,o=some a->f a=some r->C):C:=
 let ⟨a,b,c⟩:=ju h
 k a b c
theorem dC {α β γ:Type}{C:Prop}{o:Option (α × γ)}{f:α × γ->Option β}{r:β}(h:o.bind f=some r) (k:∀ a g,o=some (a,g)->f (a,g)=some r->C):C:=cu h λa=>k a.1 a.2
theorem zy {α β γ δ:Type}{C:Prop}{o:Option (α × γ × δ)}{f:α × γ × δ->Option β}{r:β}(h:o.bind f=some r) (k:∀ a b g,o=some (a,b,g)->f (a,b,g)=some r->C):C:=cu h λa=>k a.1 a.2.1 a.2.2
theorem bU {α:Type}{c C:Prop} [Decidable c] {o:Option α}{r:α}(h:(if c then o else none)=some r) (k:c->o=some r->C):C:=
 let ⟨a,b⟩:=gA h
 k a b
theorem gZ {α β:Type}{C:Prop}{o:Option α}{f:α->Option β}{r:β}(k:∀ a,o=some a->f a=some r->C):o.bind f=some r->C:=λh=>cu h k
theorem cC {α β γ:Type}{C:Prop}{o:Option (α × γ)}{f:α × γ->Option β}{r:β}(k:∀ a g,o=some (a,g)->f (a,g)=some r->C):o.bind f=some r->C:=λh=>dC h k
theorem xN {α β γ δ:Type}{C:Prop}{o:Option (α × γ × δ)}{f:α × γ × δ->Option β}{r:β}(k:∀ a b g,o=some (a,b,g)->f (a,b,g)=some r->C):o.bind f=some r->C:=λh=>zy h k
theorem c9 {α:Type}{c C:Prop} [Decidable c] {o:Option α}{r:α}(k:c->o=some r->C):(if c then o else none)=some r->C:=λh=>bU h k
noncomputable def rQ:V->Option Bool
 | .bool b=>some b
 | _=>none
noncomputable def c6:V->Option Int
 | .int b=>some b
 | _=>none
noncomputable def ez:V->Option (List V)
 | .tup l=>some l
 | _=>none
noncomputable def lH:V->Option (List V)
 | .lst l=>some l
 | _=>none
noncomputable def wo:V->Option Str
 | .str s=>some s
 | _=>none
noncomputable def l5:V->Option Unit
 | .none=>some ()
 | _=>none
noncomputable def CP:List V->Option (V × V)
 | [a,b]=>some (a,b)
 | _=>none
noncomputable def iV (v:V):Option (V × V):=(ez v).bind CP
theorem cH:∀ {v:V}{i:Int},c6 v=some i->v=.int i:=by
 intro v i h
 cases v with
 | int j=>exact congrArg V.int (av h)
 | _=>exact no h
theorem j1:∀ {v:V}{i:Str},wo v=some i->v=.str i:=by
 intro v i h
 cases v with
 | str j=>exact congrArg V.str (av h)
 | _=>exact no h
theorem lM:∀ {v:V}{i:Bool},rQ v=some i->v=.bool i:=by
 intro v i h
 cases v with
 | bool j=>exact congrArg V.bool (av h)
 | _=>exact no h
theorem dq:∀ {v:V}{i:List V},ez v=some i->v=.tup i:=by
 intro v i h
 cases v with
 | tup j=>exact congrArg V.tup (av h)
 | _=>exact no h
theorem iE:∀ {v:V}{i:List V},lH v=some i->v=.lst i:=by
 intro v i h
 cases v with
 | lst j=>exact congrArg V.lst (av h)
 | _=>exact no h
theorem mh:∀ {v:V}{i:Unit},l5 v=some i->v=.none:=by
 intro v i h
 cases v with
 | none=>rfl
 | _=>exact no h
theorem zK {l:List V}{p:V × V}(h:CP l=some p):l=[p.1,p.2]:=by
 cases l with
 | nil=>exact no h
 | cons a l=>cases l with
  | nil=>exact no h
  | cons b l=>cases l with
   | nil=>rw [← av h]
   | cons=>exact no h
theorem iO {v:V}{p:V × V}(h:iV v=some p):v=.tup [p.1,p.2]:=by
 obtain ⟨l,e,q⟩:=ju h
 rw [dq e,zK q]
noncomputable def DA (a b:V):Option Bool:=match a with
 | .int x=>(c6 b).bind λy=>some (decide (x=y))
 | .str x=>(wo b).bind λy=>some (decide (x=y))
 | _=>none
noncomputable def fS {α:Type}(f:α->α->Option Bool):List α->List α->Option Bool
 | [],ys=>some ys.isEmpty
 | x::xs,ys=>match ys with
  | []=>some false
  | y::ys=>(f x y).bind λt=>cond t (fS f xs ys) (some false)
noncomputable def mT:Nat->V->V->Option Bool
 | 0,a,b=>DA a b
 | n+1,a,b=>match a with
  | .tup xs=>(ez b).bind λys=>fS (mT n) xs ys
  | a=>DA a b
noncomputable abbrev fU:V->V->Option Bool:=mT 20
noncomputable def Ay (a b:Str):Bool:=decide (a.cps.toList < b.cps.toList)
noncomputable def wQ (a b:V):Option Bool:=match a with
 | .int x=>(c6 b).bind λy=>some (decide (x < y))
 | .str x=>(wo b).bind λy=>some (Ay x y)
 | _=>none
noncomputable def oJ (f:V->V->Option Bool):List V->List V->Option Bool
 | [],ys=>some (!ys.isEmpty)
 | x::xs,ys=>match ys with
  | []=>some false
  | y::ys=>(fU x y).bind λt=>cond t (oJ f xs ys) (f x y)
noncomputable def ou:List V->List V->Option Bool
 | [],_=>some false
 | x::xs,ys=>match ys with
  | []=>some true
  | y::ys=>(fU x y).bind λt=>cond t (ou xs ys) (wQ y x)
noncomputable def Dv (a b:V):Option Bool:=match a with
 | .tup xs=>(ez b).bind λys=>oJ wQ xs ys
 | a=>wQ a b
noncomputable def BU (xs ys:List V):Option Bool:=oJ Dv xs ys
noncomputable def sF (v:V):List V->Option Bool
 | []=>some false
 | x::xs=>(fU x v).bind λb=>(sF v xs).bind λr=>some (b || r)
noncomputable def rO:V->Bool
 | .str _=>true
 | _=>false
noncomputable def De (f:V->Bool):List V->Bool
 | s::ks=>rO s && ks.all f
 | []=>false
noncomputable def d9:Nat->V->Bool
 | 0,_=>false
 | n+1,v=>match v with
  | .tup l=>De (d9 n) l
  | _=>false
noncomputable def gc (v:V):Bool:=d9 8 v
noncomputable def iF (v:V):Bool:=match iV v with
 | some p=>d9 7 p.1 && d9 7 p.2
 | none=>false
noncomputable abbrev skey:V->Bool:=rO
noncomputable def ed (k:V):List V->List V->Option (Option V)
 | [],_=>some none
 | x::xs,vs=>(fU x k).bind λt=>cond t (some vs.head?) (ed k xs vs.tail)
noncomputable def db (k v:V):List V->List V->List V × List V
 | [],_=>([k],[v])
 | x::xs,vs=>if fU x k=some true then (x::xs,v::vs.tail) else (x::(db k v xs vs.tail).1,vs.headD .none::(db k v xs vs.tail).2)
noncomputable def qd (k:V):List V->List V->List V × List V
 | [],_=>([],[])
 | x::xs,vs=>if fU x k=some true then (xs,vs.tail) else (x::(qd k xs vs.tail).1,vs.headD .none::(qd k xs vs.tail).2)
noncomputable def o9 (i:Int):Bool:=decide (-(2 ^ 60) < i/\i < 2 ^ 60)
noncomputable def mz (op:BK) (a b:V):Option V:=match op with
 | .add=>match a with
  | .int x=>(c6 b).bind λy=>some (.int (x+y))
  | .tup x=>(ez b).bind λy=>if x.length+y.length<=lim then some (.tup (x++y)) else none
  | .lst x=>(lH b).bind λy=>if x.length+y.length<=lim then some (.lst (x++y)) else none
  | _=>none
 | .sub=>(c6 a).bind λx=>(c6 b).bind λy=>some (.int (x - y))
 | .mul=>(c6 b).bind λy=>match a with
  | .int x=>if o9 x=true/\o9 y=true then some (.int (x * y)) else none
  | .lst x=>if x.length=1/\0<=y/\y<=1 then some (.lst (if y=1 then x else [])) else none
  | _=>none
 | .fdiv=>(c6 a).bind λx=>(c6 b).bind λy=>if o9 x=true/\0 < y/\y < 1000000 then some (.int (x.fdiv y)) else none
 | .mod=>(c6 a).bind λx=>(c6 b).bind λy=>if 0 < y then some (.int (x.fmod y)) else none
noncomputable def yS (g:G) (n:Nat):Option (List V):=g[n]?.bind λo=>match o with
 | .lst xs=>some xs
 | _=>none
noncomputable def dZ (g:G) (n:Nat):Option (Nat × List bN):=g[n]?.bind λo=>match o with
 | .inst c s=>some (c,s)
 | _=>none
noncomputable def zM (xs:List V) (k:Int):Option V:=if 0<=k/\k < lim then xs[k.toNat]? else none
noncomputable def Bp (g:G) (x y:V):Option V:=(c6 y).bind λk=>match x with
 | .tup xs=>zM xs k
 | .lst xs=>zM xs k
 | .str s=>if 0<=k/\k < lim then (s.cps[k.toNat]?).bind λc=>some (.str ⟨#[c]⟩) else none
 | .gl n=>(yS g n).bind λxs=>zM xs k
 | _=>none
noncomputable def Cc (x:V) (lo hi:Option V):Option V:=match lo with
 | some l=>(c6 l).bind λk=>(ez x).bind λxs=>if hi.isNone=true/\0<=k/\k < lim/\xs.length<=lim then some (.tup (xs.drop k.toNat)) else none
 | none=>(hi.bind c6).bind λk=>match x with
  | .tup xs=>if 0<=k/\k < lim/\xs.length<=lim then some (.tup (xs.take k.toNat)) else none
  | .lst xs=>if 0<=k/\k < lim/\xs.length<=lim then some (.lst (xs.take k.toNat)) else none
  | .str s=>if k=1 then some (.str ⟨(s.cps.toList.take 1).toArray⟩) else none
  | _=>none
noncomputable def uj (v:V):Option Unit:=(lH v).bind λl=>if l=[] then some () else none
noncomputable def Bn:V->Option Bool
 | .none=>some true
 | .tup _=>some false
 | .lst _=>some false
 | .dct _ _=>some false
 | .obj _ _=>some false
 | _=>none
noncomputable def l7 (op:A9) (a b:V):Option V:=match op with
 | .eq=>match a with
  | .bool x=>(rQ b).bind λy=>some (.bool (x == y))
  | .lst xs=>(uj b).bind λzz=>some (.bool xs.isEmpty)
  | a=>(fU a b).bind λt=>some (.bool t)
 | .ne=>match a with
  | .lst xs=>(uj b).bind λzz=>some (.bool (!xs.isEmpty))
  | a=>(fU a b).bind λt=>some (.bool (!t))
 | .lt=>(c6 a).bind λx=>(c6 b).bind λy=>some (.bool (decide (x < y)))
 | .le=>(c6 a).bind λx=>(c6 b).bind λy=>some (.bool (decide (x<=y)))
 | .gt=>match a with
  | .tup x=>(ez b).bind λy=>(ou x y).bind λt=>some (.bool t)
  | a=>(c6 a).bind λx=>(c6 b).bind λy=>some (.bool (decide (y < x)))
 | .isN=>(l5 b).bind λzz=>(Bn a).bind λt=>some (.bool t)
 | .isNN=>(l5 b).bind λzz=>(Bn a).bind λt=>some (.bool (!t))
noncomputable def gj:V->Option (List V)
 | .tup xs=>if xs.length<=lim then some xs else none
 | .lst xs=>if xs.length<=lim then some xs else none
 | _=>none
noncomputable def yO (v:V):Option V:=(gj v).bind λxs=>some (.int xs.length)
noncomputable def di:List V->List V × List V->Option (List V × List V)
 | [],d=>some d
 | x::r,d=>(iV x).bind λp=>if (gc p.1 || skey p.1)=true then di r (db p.1 p.2 d.1 d.2) else none
noncomputable def qk (ks:List V):Bool:=ks.all gc || ks.all skey
noncomputable def im (n:Nat) (v:V):Option (List V):=if n=1 then some [v] else (ez v).bind λxs=>if xs.length=n then some xs else none
noncomputable def kq:Nat->List V->List (List V)
 | _,[]=>[]
 | k,x::xs=>[.int k,x]::kq (k+1) xs
noncomputable def iJ:List V->List V->List (List V)
 | x::xs,y::ys=>[x,y]::iJ xs ys
 | _,_=>[]
noncomputable def ls (n:Nat):List (List V):=(List.range n).map λ(k:Nat)=>[.int (k:Int)]
noncomputable def mW {α β:Type}(f:α->Option β):List α->Option (List β)
 | []=>some []
 | x::xs=>(f x).bind λy=>(mW f xs).bind λys=>some (y::ys)
noncomputable def cJ (kd:nX) (n:Nat) (a b:V):Option (List (List V)):=match kd with
 | .plain=>(gj a).bind (mW (im n))
 | .enum=>(ez a).bind λxs=>if n=2/\xs.length<=lim then some (kq 0 xs) else none
 | .zip=>(ez a).bind λxs=>(ez b).bind λys=>if n=2/\xs.length<=lim/\ys.length=xs.length then some (iJ xs ys) else none
 | .range=>(c6 a).bind λk=>if n=1/\0<=k/\k<=lim then some (ls k.toNat) else none
 | .rev=>(lH a).bind λxs=>if n=1/\xs.length<=lim then some (xs.reverse.map λx=>[x]) else none
noncomputable def bZ (env:En):List Nat->List V->En
 | i::is,v::vs=>bZ (env.set i (some (.val v))) is vs
 | _,_=>env
noncomputable def fu {α:Type}(o:Option (V × G)) (k:Bool->G->Option α):Option α:=o.bind λp=>(rQ p.1).bind λt=>k t p.2
theorem uS {α:Type}{o:Option (V × G)}{k:Bool->G->Option α}{r:α}(h:fu o k=some r):∃ t g,o=some (.bool t,g)/\k t g=some r:=by
 obtain ⟨⟨x,g⟩,e,h⟩:=ju h
 obtain ⟨t,q,h⟩:=ju h
 exact ⟨t,g,by rw [e,show x=.bool t from lM q],h⟩
theorem gO {α:Type}{C:Prop}{o:Option (V × G)}{k:Bool->G->Option α}{r:α}(h:fu o k=some r) (q:∀ t g,o=some (.bool t,g)->k t g=some r->C):C:=
 let ⟨t,g,a,b⟩:=uS h
 q t g a b
theorem cG {α:Type}{o:Option (V × G)}{k:Bool->G->Option α}{t:Bool}{g:G}{r:Option α}(h:o=some (.bool t,g)) (q:k t g=r):fu o k=r:=bL h q
noncomputable def u0 {α:Type}(o:Option (V × G)) (k:Int->G->Option α):Option α:=o.bind λp=>(c6 p.1).bind λt=>k t p.2
theorem xG {α:Type}{o:Option (V × G)}{k:Int->G->Option α}{r:α}(h:u0 o k=some r):∃ t g,o=some (.int t,g)/\k t g=some r:=by
 obtain ⟨⟨x,g⟩,e,h⟩:=ju h
 obtain ⟨t,q,h⟩:=ju h
 exact ⟨t,g,by rw [e,show x=.int t from cH q],h⟩
theorem ur {α:Type}{C:Prop}{o:Option (V × G)}{k:Int->G->Option α}{r:α}(h:u0 o k=some r) (q:∀ t g,o=some (.int t,g)->k t g=some r->C):C:=
 let ⟨t,g,a,b⟩:=xG h
 q t g a b
theorem j7 {α:Type}{C:Prop}{o:Option (V × G)}{k:Bool->G->Option α}{r:α}(q:∀ t g,o=some (.bool t,g)->k t g=some r->C):fu o k=some r->C:=λh=>gO h q
theorem Ej {α:Type}{C:Prop}{o:Option (V × G)}{k:Int->G->Option α}{r:α}(q:∀ t g,o=some (.int t,g)->k t g=some r->C):u0 o k=some r->C:=λh=>ur h q
theorem Dq {α β γ:Type}{o:Option (α × β)}{k:α->γ}{r:γ}{b:β}(h:(o.bind λp=>some (k p.1,p.2))=some (r,b)):∃ x,o=some (x,b)/\r=k x:=by
 obtain ⟨⟨x,g⟩,e,h⟩:=ju h
 cases h
 exact ⟨x,e,rfl⟩
noncomputable def eU {α:Type}(f:α->G->Option (List V × G)):List α->G->Option (List V × G)
 | [],g=>some ([],g)
 | x::xs,g=>(f x g).bind λp=>(eU f xs p.2).bind λq=>some (p.1++q.1,q.2)
noncomputable def fV (f:En->G->Option (V × G)) (c:En->G->Option (V × G)) (env:En) (g:G):Option (List V × G):=
 fu (c env g) λt g=>cond t ((f env g).bind λq=>some ([q.1],q.2)) (some ([],g))
mutual
noncomputable def ie (m:Nat):V->Bool
 | .gl n=>decide (n < m)
 | .tup xs=>dH m xs
 | .lst xs=>dH m xs
 | .dct ks vs=>dH m ks && dH m vs
 | .obj _ vs=>dH m vs
 | _=>true
noncomputable def dH (m:Nat):List V->Bool
 | []=>true
 | x::xs=>ie m x && dH m xs
end
noncomputable def iY (m:Nat):bN->Bool
 | .val v=>ie m v
 | .ol xs=>dH m xs
 | .od ks vs=>dH m ks && dH m vs
noncomputable def gV (m:Nat):mR->Bool
 | .lst xs=>dH m xs
 | .inst _ slots=>slots.all (iY m)
noncomputable def nV:bN->Option V
 | .val v=>some v
 | _=>none
noncomputable def mN:List bN->Option (List V)
 | []=>some []
 | s::r=>(nV s).bind λv=>(mN r).bind λvs=>some (v::vs)
noncomputable def iw (c:Nat):Bool:=c == 0 || c == 1
noncomputable def o6 (cf:Fn->List V->G->Option (V × G)) (c:Nat) (f:Fn) (args:List V) (g:G):Option (V × G):=
 (cf f (.gl g.length::args) (g++[.inst c []])).bind λp=>(l5 p.1).bind λzz=>
  if iw c=true then
   if p.2.length=g.length+1/\(p.2.take g.length).all (gV g.length)=true then (dZ p.2 g.length).bind λci=>(mN ci.2).bind λvs=>if ci.1=c/\dH 0 vs=true then some (.obj c vs,p.2.take g.length) else none
   else none
  else some (.gl g.length,p.2)
noncomputable def gU (g:G) (c k:Nat):V->Option bN
 | .obj c' vs=>if c'=c then (vs[k]?).bind λv=>some (.val v) else none
 | .gl n=>(dZ g n).bind λci=>if ci.1=c then ci.2[k]? else none
 | _=>none
noncomputable def CJ (g:G):V->Option Nat
 | .obj c' _=>some c'
 | .gl n=>(dZ g n).bind λci=>some ci.1
 | _=>none
noncomputable def jV (g:G) (c:Nat) (v:V):Bool:=CJ g v == some c
noncomputable def w6:bN->Option (List V × List V)
 | .od ks vs=>some (ks,vs)
 | .val (.dct ks vs)=>some (ks,vs)
 | _=>none
noncomputable def de (ks:List V) (k:V):Bool:=(gc k && ks.all gc) || (iF k && ks.all iF) || (skey k && ks.all skey)
noncomputable def xO (v:V):Option (Int × List V):=(ez v).bind λl=>match l with
 | k::x=>(c6 k).bind λi=>some (i,x)
 | []=>none
noncomputable def se (cf:Fn->List V->G->Option (V × G)) (x:V) (g:G):Option (V × G):=(ez x).bind λa=>cf .keyOf [.tup (.str ⟨#[61]⟩::a)] g
noncomputable def mE (cf:Fn->List V->G->Option (V × G)) (ks:List V) (g:G):Option (V × G):=match ks with
 | []=>none
 | x::ks=>match ks with
  | []=>(se cf x g).bind λp=>some (x,p.2)
  | y::ks=>if ks=[] then (se cf x g).bind λp=>(xO p.1).bind λi=>(se cf y p.2).bind λq=>(xO q.1).bind λj=>(BU (.int j.1::j.2) (.int i.1::i.2)).bind λt=>some (cond t y x,q.2) else none
noncomputable def jL (cf:Fn->List V->G->Option (V × G)):List E->En->G->Option (List V × G)
 | [],_,g=>some ([],g)
 | e::es,env,g=>(e cf env g).bind λp=>(jL cf es env p.2).bind λq=>some (p.1::q.1,q.2)
noncomputable def DT (cf:Fn->List V->G->Option (V × G)):Option E->En->G->Option (Option V × G)
 | Option.none,_,g=>some (Option.none,g)
 | some e,env,g=>(e cf env g).bind λp=>some (some p.1,p.2)
noncomputable def rF (cf:Fn->List V->G->Option (V × G)):Option E->En->G->Option (V × G)
 | Option.none,_,g=>some (.bool true,g)
 | some e,env,g=>e cf env g
noncomputable def hO:bN->Option (List V)
 | .ol xs=>some xs
 | _=>none
noncomputable def i5:bN->Option (List V × List V)
 | .od ks vs=>some (ks,vs)
 | _=>none
noncomputable def y8:bN->Option V
 | .ol xs=>some (.lst xs)
 | .od ks vs=>some (.dct ks vs)
 | _=>none
noncomputable def c7 (env:En) (i:Nat):Option bN:=env[i]?.bind id
noncomputable def xR (f:G->V->Option V) (a:E):E:=λcf env g=>(a cf env g).bind λp=>(f p.2 p.1).bind λz=>some (z,p.2)
noncomputable def By (f:G->V->V->Option V) (a b:E):E:=λcf env g=>(a cf env g).bind λp=>(b cf env p.2).bind λq=>(f q.2 p.1 q.1).bind λz=>some (z,q.2)
noncomputable def Cl (f:List V->Option V) (es:List E):E:=λcf env g=>(jL cf es env g).bind λp=>(f p.1).bind λz=>some (z,p.2)
section
variable {cf:Fn->List V->G->Option (V × G)}{env:En}{g g':G}{v:V}{a b:E}{es:List E}
theorem zJ {f:G->V->Option V}(h:xR f a cf env g=some (v,g')):∃ x,a cf env g=some (x,g')/\f g' x=some v:=by
 obtain ⟨⟨x,g1⟩,e1,h⟩:=ju h
 obtain ⟨z,e2,h⟩:=ju h
 cases h
 exact ⟨x,e1,e2⟩
theorem zP {f:G->V->V->Option V}(h:By f a b cf env g=some (v,g')):∃ x g1 y,a cf env g=some (x,g1)/\b cf env g1=some (y,g')/\f g' x y=some v:=by
 obtain ⟨⟨x,g1⟩,e1,h⟩:=ju h
 obtain ⟨⟨y,g2⟩,e2,h⟩:=ju h
 obtain ⟨z,e3,h⟩:=ju h
 cases h
 exact ⟨x,g1,y,e1,e2,e3⟩
theorem zV {C:Prop}{f:G->V->Option V}(h:xR f a cf env g=some (v,g')) (k:∀ x,a cf env g=some (x,g')->f g' x=some v->C):C:=
 let ⟨x,p,q⟩:=zJ h
 k x p q
theorem Db {C:Prop}{f:G->V->V->Option V}(h:By f a b cf env g=some (v,g')) (k:∀ x g1 y,a cf env g=some (x,g1)->b cf env g1=some (y,g')->f g' x y=some v->C):C:=
 let ⟨x,g1,y,p,q,r⟩:=zP h
 k x g1 y p q r
theorem B9 {C:Prop}{f:G->V->Option V}(k:∀ x,a cf env g=some (x,g')->f g' x=some v->C):xR f a cf env g=some (v,g')->C:=λh=>zV h k
theorem Ew {C:Prop}{f:G->V->V->Option V}(k:∀ x g1 y,a cf env g=some (x,g1)->b cf env g1=some (y,g')->f g' x y=some v->C):By f a b cf env g=some (v,g')->C:=λh=>Db h k
theorem y5 {f:List V->Option V}(h:Cl f es cf env g=some (v,g')):∃ vs,jL cf es env g=some (vs,g')/\f vs=some v:=by
 obtain ⟨⟨x,g1⟩,e1,h⟩:=ju h
 obtain ⟨z,e2,h⟩:=ju h
 cases h
 exact ⟨x,e1,e2⟩
theorem Cx {C:Prop}{f:List V->Option V}(h:Cl f es cf env g=some (v,g')) (k:∀ x,jL cf es env g=some (x,g')->f x=some v->C):C:=
 let ⟨x,p,q⟩:=y5 h
 k x p q
theorem CX {C:Prop}{f:List V->Option V}(k:∀ x,jL cf es env g=some (x,g')->f x=some v->C):Cl f es cf env g=some (v,g')->C:=λh=>Cx h k
theorem kY {e:E}{vs:List V}(h:jL cf (e::es) env g=some (vs,g')):∃ v g1 us,e cf env g=some (v,g1)/\jL cf es env g1=some (us,g')/\vs=v::us:=by
 obtain ⟨⟨x,g1⟩,e1,h⟩:=ju h
 obtain ⟨⟨y,g2⟩,e2,h⟩:=ju h
 cases h
 exact ⟨x,g1,y,e1,e2,rfl⟩
theorem cX {i:Nat}{sl:bN}(h:c7 env i=some sl):env[i]?=some (some sl):=by
 obtain ⟨o,e,h⟩:=ju h
 rw [e]; exact congrArg some h
theorem d5 {sl:bN}(h:nV sl=some v):sl=.val v:=by
 cases sl with
 | val=>rw [av h]
 | _=>exact no h
theorem jQ {sl:bN}{xs:List V}(h:hO sl=some xs):sl=.ol xs:=by
 cases sl with
 | ol=>rw [av h]
 | _=>exact no h
theorem jT {sl:bN}{d:List V × List V}(h:i5 sl=some d):sl=.od d.1 d.2:=by
 cases sl with
 | od=>rw [← av h]
 | _=>exact no h
theorem fY {i:Nat}{xs:List V}(h:(c7 env i).bind hO=some xs):env[i]?=some (some (.ol xs)):=by
 obtain ⟨sl,e,h⟩:=ju h
 rw [cX e,jQ h]
theorem rK {i:Nat}{d:List V × List V}(h:(c7 env i).bind i5=some d):env[i]?=some (some (.od d.1 d.2)):=by
 obtain ⟨sl,e,h⟩:=ju h
 rw [cX e,jT h]
end
noncomputable def sf (d:List V × List V) (x:V):Option (Option V):=if de d.1 x then ed x d.1 d.2 else none
protected noncomputable def D.var (i:Nat):D:=λzz env g=>((c7 env i).bind w6).bind λd=>some (d,g)
protected noncomputable def D.attr (c k:Nat) (e:E):D:=λcf env g=>(e cf env g).bind λp=>((gU p.2 c k p.1).bind w6).bind λd=>some (d,p.2)
protected noncomputable def E.var (i:Nat):E:=λcf env g=>((c7 env i).bind nV).bind λv=>some (v,g)
protected noncomputable def E.int (k:Int):E:=λcf zz g=>some (.int k,g)
protected noncomputable def E.str (s:Str):E:=λcf zz g=>some (.str s,g)
protected noncomputable def E.bool (b:Bool):E:=λcf zz g=>some (.bool b,g)
protected noncomputable def E.none:E:=λcf zz g=>some (.none,g)
protected noncomputable def E.tup (es:List E):E:=Cl (λvs=>if vs.length<=lim then some (.tup vs) else none) es
protected noncomputable def E.lst (es:List E):E:=Cl (λvs=>if vs.length<=lim then some (.lst vs) else none) es
protected noncomputable def E.lstG (es:List E):E:=λcf env g=>(jL cf es env g).bind λp=>if p.1.length<=lim then some (.gl p.2.length,p.2++[.lst p.1]) else none
protected noncomputable def E.dct0:E:=λcf zz g=>some (.dct [] [],g)
protected noncomputable def E.bin (op:BK) (a:E) (b:E):E:=By (λzz=>mz op) a b
protected noncomputable def E.idx (e:E) (k:E):E:=By Bp e k
protected noncomputable def E.slc (e:E) (lo:Option E) (hi:Option E):E:=λcf env g=>(e cf env g).bind λp=>(DT cf lo env p.2).bind λq=>(DT cf hi env q.2).bind λr=>(Cc p.1 q.1 r.1).bind λz=>some (z,r.2)
protected noncomputable def E.attr (c:Nat) (k:Nat) (e:E):E:=xR (λg x=>(gU g c k x).bind nV) e
protected noncomputable def E.cmp (op:A9) (a:E) (b:E):E:=By (λzz=>l7 op) a b
protected noncomputable def E.chain (a:E) (b:E) (c:E):E:=λcf env g=>u0 (a cf env g) λx g=>u0 (b cf env g) λy g=>if x<=y then u0 (c cf env g) λz g=>some (.bool (decide (y < z)),g) else some (.bool false,g)
protected noncomputable def E.isIn (neg:Bool) (a:E) (b:E):E:=By (λzz x y=>(gj y).bind λys=>(sF x ys).bind λt=>some (.bool (t != neg))) a b
protected noncomputable def E.and (a:E) (b:E):E:=λcf env g=>fu (a cf env g) λt g=>cond t (fu (b cf env g) λu g=>some (.bool u,g)) (some (.bool false,g))
protected noncomputable def E.or (a:E) (b:E):E:=λcf env g=>fu (a cf env g) λt g=>cond t (some (.bool true,g)) (fu (b cf env g) λu g=>some (.bool u,g))
protected noncomputable def E.not (a:E):E:=λcf env g=>fu (a cf env g) λt g=>some (.bool (!t),g)
protected noncomputable def E.ite (c:E) (a:E) (b:E):E:=λcf env g=>fu (c cf env g) λt g=>cond t (a cf env g) (b cf env g)
protected noncomputable def E.call (f:Fn) (es:List E):E:=λcf env g=>(jL cf es env g).bind λp=>cf f p.1 p.2
protected noncomputable def E.meth (c:Nat) (f:Fn) (o:E) (es:List E):E:=λcf env g=>(o cf env g).bind λp=>if jV p.2 c p.1=true then (jL cf es env p.2).bind λq=>cf f (p.1::q.1) q.2 else none
protected noncomputable def E.new (c:Nat) (f:Fn) (es:List E):E:=λcf env g=>(jL cf es env g).bind λp=>o6 cf c f p.1 p.2
protected noncomputable def E.len (e:E):E:=xR (λzz=>yO) e
protected noncomputable def E.lenOwn (i:Nat):E:=λcf env g=>((c7 env i).bind hO).bind λxs=>if xs.length<=lim then some (.int xs.length,g) else none
protected noncomputable def E.tupleOf (e:E):E:=xR (λzz x=>(gj x).bind λxs=>some (.tup xs)) e
protected noncomputable def E.listOf (e:E):E:=xR (λzz x=>(gj x).bind λxs=>some (.lst xs)) e
noncomputable def pY (x:V):Option (List V × List V):=(lH x).bind λxs=>if xs.length<=lim then (di xs ([],[])).bind λd=>if qk d.1=true then some d else none else none
protected noncomputable def E.dictOf (e:E):E:=xR (λzz x=>(pY x).bind λd=>some (.dct d.1 d.2)) e
noncomputable def DZ:V->Option V
 | .int k=>some (.int k)
 | .bool b=>some (.int (if b then 1 else 0))
 | _=>none
protected noncomputable def E.intOf (e:E):E:=xR (λzz=>DZ) e
protected noncomputable def E.dget (s:D) (k:E):E:=λcf env g=>(s cf env g).bind λp=>(k cf env p.2).bind λq=>((sf p.1 q.1).bind id).bind λv=>some (v,q.2)
protected noncomputable def E.dgetD (s:D) (k:E) (d:E):E:=λcf env g=>(s cf env g).bind λp=>(k cf env p.2).bind λq=>(d cf env q.2).bind λr=>(sf p.1 q.1).bind λo=>some (o.getD r.1,r.2)
protected noncomputable def E.dhas (neg:Bool) (s:D) (k:E):E:=λcf env g=>(k cf env g).bind λp=>(s cf env p.2).bind λq=>(sf q.1 p.1).bind λr=>some (.bool (r.isSome != neg),q.2)
protected noncomputable def E.dempty (s:D):E:=λcf env g=>(s cf env g).bind λp=>some (.bool p.1.1.isEmpty,p.2)
protected noncomputable def E.comp (elt:E) (tg:List Nat) (kd:nX) (e1:E) (e2:E) (cond:Option E):E:=λcf env g=>(e1 cf env g).bind λp=>(e2 cf env p.2).bind λq=>(cJ kd tg.length p.1 q.1).bind λits=>
 (eU (λit=>fV (elt cf) (rF cf cond) (bZ env tg it)) its q.2).bind λr=>some (.lst r.1,r.2)
noncomputable def C1 (elt:E) (t2:Nat) (e2:E) (cf:Fn->List V->G->Option (V × G)) (env:En) (g:G):Option (List V × G):=(e2 cf env g).bind λp=>(cJ .plain 1 p.1 .none).bind λits=>eU (λit=>fV (elt cf) (rF cf none) (bZ env [t2] it)) its p.2
protected noncomputable def E.comp2 (elt:E) (t1:Nat) (e1:E) (t2:Nat) (e2:E):E:=λcf env g=>(e1 cf env g).bind λp=>(cJ .plain 1 p.1 .none).bind λits=>(eU (λit=>C1 elt t2 e2 cf (bZ (env.set t2 none) [t1] it)) its p.2).bind λr=>if r.1.length<=lim then some (.lst r.1,r.2) else none
protected noncomputable def E.sortedSet (e:E):E:=xR (λzz x=>(uj x).bind λzz=>some x) e
protected noncomputable def E.sortedItems (s:D):E:=λcf env g=>(s cf env g).bind λp=>if p.1.1=[] then some (.lst [],p.2) else none
protected noncomputable def E.sortedFirst (s:D):E:=λcf env g=>(s cf env g).bind λp=>if p.1.1.all iF=true then mE cf p.1.1 p.2 else none
protected noncomputable def E.fmade (e:E):E:=xR (λzz x=>(c6 x).bind λk=>if 0<=k/\k < 1000000 then some (.str (Str.ofString ("made"++toString k))) else none) e
protected noncomputable def E.stuck:E:=λcf zz zz=>none
noncomputable def DV:V->Option Nat
 | .gl n=>some n
 | _=>none
noncomputable def dz (g:G) (c k:Nat) (sl:bN) (x:V):Option G:=(DV x).bind λn=>(dZ g n).bind λci=>if ci.1=c then
  if k < ci.2.length then some (g.set n (.inst c (ci.2.set k sl)))
  else if k=ci.2.length then some (g.set n (.inst c (ci.2++[sl]))) else none
 else none
theorem gP {g:G}{n:Nat}{ci:Nat × List bN}(e:dZ g n=some ci):g[n]?=some (.inst ci.1 ci.2):=by
 refine cu e λo e1 q=>?_
 clear e
 cases o with
 | lst=>exact no q
 | inst=>cases q; exact e1
theorem tS {x:V}{n:Nat}(h:DV x=some n):x=.gl n:=by
 cases x with
 | gl=>rw [av h]
 | _=>exact no h
inductive DW (g:G) (c k:Nat) (sl:bN) (n:Nat):G->Prop
 | old {slots:List bN}:dZ g n=some (c,slots)->k < slots.length->DW g c k sl n (g.set n (.inst c (slots.set k sl)))
 | new {slots:List bN}:dZ g n=some (c,slots)->k=slots.length->DW g c k sl n (g.set n (.inst c (slots++[sl])))
theorem jc {g g':G}{c k:Nat}{sl:bN}{x:V}(e:dz g c k sl x=some g'):∃ n,x=.gl n/\DW g c k sl n g':=by
 refine cu e λn hn e1=>⟨n,tS hn,dC e1 λc' slots hg e2=>bU e2 λhc e3=>?_⟩
 clear hn
 cases show c'=c from hc
 by_cases q:k < slots.length
 ·clear hc
  cases (if_pos q).symm.trans e3
  exact .old hg q
 ·refine bU ((if_neg q).symm.trans e3) λq e=>?_
  clear e3 hc
  cases e
  exact .new hg q
protected noncomputable def R.val (e:E):R:=λcf env g=>(e cf env g).bind λx=>some (.val x.1,x.2)
protected noncomputable def R.ownL (es:List E):R:=λcf env g=>(jL cf es env g).bind λx=>some (.ol x.1,x.2)
protected noncomputable def R.ownD:R:=λzz zz g=>some (.od [] [],g)
noncomputable def Bk (cf:Fn->List V->G->Option (V × G)):List R->En->G->Option (List bN × G)
 | [],_,g=>some ([],g)
 | r::rs,env,g=>(r cf env g).bind λp=>(Bk cf rs env p.2).bind λq=>some (p.1::q.1,q.2)
noncomputable def fJ (env:En):List Nat->List bN->En
 | i::is,v::vs=>fJ (env.set i (some v)) is vs
 | _,_=>env
noncomputable def Br (r:Fl × En × G) (k:En->G->Option (Fl × En × G)):Option (Fl × En × G):=match r.1 with
 | .nxt=>k r.2.1 r.2.2
 | .ret _=>some r
noncomputable def eD (c:En->G->Option (V × G)) (b:En->G->Option (Fl × En × G)):Nat->En->G->Option (Fl × En × G)
 | 0,_,_=>none
 | n+1,env,g=>fu (c env g) λt g=>cond t ((b env g).bind λr=>Br r (eD c b n)) (some (.nxt,env,g))
noncomputable def gG (b:En->G->Option (Fl × En × G)) (tg:List Nat):List (List V)->En->G->Option (Fl × En × G)
 | [],env,g=>some (.nxt,env,g)
 | it::its,env,g=>(b (bZ env tg it) g).bind λr=>Br r (gG b tg its)
noncomputable def fT (k d:V) (ks vs:List V):Option (V × (List V × List V)):=(sf (ks,vs) k).bind λo=>match o with
  | some v=>some (v,(ks,vs))
  | none=>if ks.length < lim then some (d,(ks++[k],vs++[d])) else none
noncomputable def CS:V->Bool
 | .tup _=>true
 | _=>false
noncomputable def kr:Option bN->Option bN
 | some sl=>if iY 0 sl then some sl else none
 | none=>none
noncomputable def iG (env:En):En:=env.map kr
noncomputable def dE (W:Nat) (cf:Fn->List V->G->Option (V × G)):List S->En->G->Option (Fl × En × G)
 | [],env,g=>some (.nxt,env,g)
 | s::ss,env,g=>(s W cf env g).bind λr=>Br r (dE W cf ss)
protected noncomputable def S.asg (i:Nat) (e:E):S:=λW cf env g=>(e cf env g).bind λp=>some (.nxt,env.set i (some (.val p.1)),p.2)
protected noncomputable def S.asgs (is:List Nat) (rs:List R):S:=λW cf env g=>if is.length=rs.length then (Bk cf rs env g).bind λp=>some (.nxt,fJ env is p.1,p.2) else none
protected noncomputable def S.unp (is:List Nat) (e:E):S:=λW cf env g=>(e cf env g).bind λp=>(ez p.1).bind λvs=>if vs.length=is.length then some (.nxt,bZ env is vs,p.2) else none
protected noncomputable def S.ownL (i:Nat) (es:List E):S:=λW cf env g=>(jL cf es env g).bind λp=>some (.nxt,env.set i (some (.ol p.1)),p.2)
protected noncomputable def S.ownDictOf (i:Nat) (e:E):S:=λW cf env g=>(e cf env g).bind λp=>(pY p.1).bind λd=>some (.nxt,env.set i (some (.od d.1 d.2)),p.2)
protected noncomputable def S.sattr (c:Nat) (k:Nat) (o:E) (e:E):S:=λW cf env g=>(e cf env g).bind λp=>(o cf env p.2).bind λq=>(dz q.2 c k (.val p.1) q.1).bind λg=>some (.nxt,env,g)
protected noncomputable def S.sattrD (c:Nat) (k:Nat) (o:E):S:=λW cf env g=>(o cf env g).bind λq=>(dz q.2 c k (.od [] []) q.1).bind λg=>some (.nxt,env,g)
protected noncomputable def S.takeAttr (i:Nat) (c:Nat) (k:Nat) (o:E) (es:List E):S:=λW cf env g=>(o cf env g).bind λp=>((gU p.2 c k p.1).bind nV).bind λv=>(jL cf es env p.2).bind λq=>(dz q.2 c k (.ol q.1) p.1).bind λg=>some (.nxt,env.set i (some (.val v)),g)
protected noncomputable def S.freezeV (i:Nat):S:=λW cf env g=>((c7 env i).bind y8).bind λv=>some (.nxt,env.set i (some (.val v)),g)
protected noncomputable def S.freezeA (c:Nat) (k:Nat) (o:E):S:=λW cf env g=>(o cf env g).bind λp=>((gU p.2 c k p.1).bind hO).bind λxs=>(dz p.2 c k (.val (.lst xs)) p.1).bind λg=>some (.nxt,env,g)
protected noncomputable def S.iff (c:E) (b1:List S) (b2:List S):S:=λW cf env g=>fu (c cf env g) λt g=>cond t (dE W cf b1 env g) (dE W cf b2 env g)
protected noncomputable def S.whl (c:E) (b:List S):S:=λW cf env g=>eD (c cf) (dE W cf b) W env g
protected noncomputable def S.for (tg:List Nat) (kd:nX) (e1:E) (e2:E) (b:List S):S:=λW cf env g=>(e1 cf env g).bind λp=>(e2 cf env p.2).bind λq=>(cJ kd tg.length p.1 q.1).bind λits=>gG (dE W cf b) tg its env q.2
protected noncomputable def S.ret (e:E):S:=λW cf env g=>(e cf env g).bind λp=>some (.ret p.1,env,p.2)
protected noncomputable def S.expr (e:E):S:=λW cf env g=>(e cf env g).bind λp=>some (.nxt,env,p.2)
protected noncomputable def S.app (i:Nat) (e:E):S:=λW cf env g=>(e cf env g).bind λp=>((c7 env i).bind hO).bind λxs=>if xs.length < lim then some (.nxt,env.set i (some (.ol (xs++[p.1]))),p.2) else none
protected noncomputable def S.appA (c:Nat) (k:Nat) (o:E) (e:E):S:=λW cf env g=>(o cf env g).bind λp=>(e cf env p.2).bind λq=>((gU q.2 c k p.1).bind hO).bind λxs=>if xs.length < lim then (dz q.2 c k (.ol (xs++[q.1])) p.1).bind λg=>some (.nxt,env,g) else none
protected noncomputable def S.ext (i:Nat) (e:E):S:=λW cf env g=>(e cf env g).bind λp=>(lH p.1).bind λvs=>((c7 env i).bind hO).bind λxs=>if xs.length+vs.length<=lim then some (.nxt,env.set i (some (.ol (xs++vs))),p.2) else none
protected noncomputable def S.extZip (i:Nat) (e1:E) (e2:E):S:=λW cf env g=>(e1 cf env g).bind λp=>(ez p.1).bind λxs=>(e2 cf env p.2).bind λq=>(ez q.1).bind λys=>((c7 env i).bind hO).bind λzs=>if zs.length+xs.length<=lim/\ys.length=xs.length then some (.nxt,env.set i (some (.ol (zs++(iJ xs ys).map .tup))),q.2) else none
noncomputable def Ap (xs:List V):Option (V × V):=xs.getLast?.bind iV
protected noncomputable def S.popUnp (i:Nat) (j:Nat) (w:Nat):S:=λW cf env g=>((c7 env w).bind hO).bind λxs=>(Ap xs).bind λp=>if xs.length<=lim then some (.nxt,((env.set w (some (.ol xs.dropLast))).set i (some (.val p.1))).set j (some (.val p.2)),g) else none
protected noncomputable def S.setD (i:Nat) (k:E) (v:E):S:=λW cf env g=>(v cf env g).bind λp=>(k cf env p.2).bind λq=>((c7 env i).bind i5).bind λd=>if de d.1 q.1=true/\d.1.length < lim then some (.nxt,env.set i (some (.od (db q.1 p.1 d.1 d.2).1 (db q.1 p.1 d.1 d.2).2)),q.2) else none
protected noncomputable def S.setDA (c:Nat) (k:Nat) (o:E) (dA:E) (v:E):S:=λW cf env g=>(v cf env g).bind λp=>(o cf env p.2).bind λq=>(dA cf (iG env) []).bind λx=>((gU q.2 c k q.1).bind i5).bind λd=>
 if (de d.1 x.1=true/\d.1.length < lim)/\x.2=[] then (dz q.2 c k (.od (db x.1 p.1 d.1 d.2).1 (db x.1 p.1 d.1 d.2).2) q.1).bind λg=>some (.nxt,env,g) else none
protected noncomputable def S.popDA (c:Nat) (k:Nat) (o:E) (dA:E):S:=λW cf env g=>(o cf env g).bind λp=>(dA cf env p.2).bind λq=>((gU q.2 c k p.1).bind i5).bind λd=>if de d.1 q.1=true/\CS q.1=true/\d.1.length < lim then
 ((ed q.1 d.1 d.2).bind id).bind λzz=>(dz q.2 c k (.od (qd q.1 d.1 d.2).1 (qd q.1 d.1 d.2).2) p.1).bind λg=>some (.nxt,env,g) else none
protected noncomputable def S.setG (o:E) (k:Nat) (v:E):S:=λW cf env g=>(v cf env g).bind λp=>(o cf env p.2).bind λq=>(DV q.1).bind λn=>(yS q.2 n).bind λxs=>if k < xs.length then some (.nxt,env,q.2.set n (.lst (xs.set k p.1))) else none
noncomputable def zZ (tbl:Option D) (cf:Fn->List V->G->Option (V × G)) (env:En) (r:V) (g:G):Option (V × G):=match tbl with
 | none=>some (r,g)
 | some t=>(t cf env g).bind λp=>((sf p.1 r).bind id).bind λv=>some (v,p.2)
protected noncomputable def S.ifSetdef (w:Nat) (k:E) (d:E) (tbl:Option D) (rhs:E) (alt:Option E) (body:List S):S:=λW cf env g=>(k cf env g).bind λp=>(d cf env p.2).bind λq=>((c7 env w).bind i5).bind λo=>(fT p.1 q.1 o.1 o.2).bind λr=>
 (zZ tbl cf (env.set w (some (.od r.2.1 r.2.2))) r.1 q.2).bind λu=>(rhs cf (env.set w (some (.od r.2.1 r.2.2))) u.2).bind λz=>(fU u.1 z.1).bind λt=>
  cond t (match alt with
   | none=>some (.nxt,env.set w (some (.od r.2.1 r.2.2)),z.2)
   | some a=>fu (a cf (env.set w (some (.od r.2.1 r.2.2))) z.2) λb g=>cond b (dE W cf body (env.set w (some (.od r.2.1 r.2.2))) g) (some (.nxt,env.set w (some (.od r.2.1 r.2.2)),g)))
   (dE W cf body (env.set w (some (.od r.2.1 r.2.2))) z.2)
protected noncomputable def S.stuck:S:=λW cf zz zz=>none
structure cR where
 np:Nat
 nv:Nat
 body:List S
noncomputable def EB:Fl->V
 | .ret v=>v
 | .nxt=>.none
noncomputable def Cq (W:Nat) (cf:Fn->List V->G->Option (V × G)) (d:cR) (args:List V) (g:G):Option (V × G):=
 if args.length=d.np then (dE W cf d.body (args.map (λv=>some (.val v))++List.replicate (d.nv - d.np) none) g).bind λr=>some (EB r.1,r.2.2) else none
noncomputable def kj (W:Nat) (tbl:Fn->cR):Nat->Fn->List V->G->Option (V × G)
 | 0,_,_,_=>none
 | n+1,f,args,g=>Cq W (kj W tbl n) (tbl f) args g
noncomputable abbrev S1 (n:Nat):Str:=⟨#[n]⟩
noncomputable abbrev sQ:Str:=⟨#[63]⟩
noncomputable abbrev vP:Str:=⟨#[61]⟩
noncomputable abbrev AS:Str:=⟨#[39]⟩
noncomputable abbrev xi:Str:=⟨#[97,108,105,107,101]⟩
noncomputable abbrev zU:Str:=⟨#[117,110,108,105,107,101]⟩
noncomputable abbrev AJ:Str:=⟨#[114,117,108,101]⟩
noncomputable abbrev x0:=E.var 0
noncomputable abbrev x1:=E.var 1
noncomputable abbrev x2:=E.var 2
noncomputable abbrev x3:=E.var 3
noncomputable abbrev x4:=E.var 4
noncomputable abbrev x5:=E.var 5
noncomputable abbrev x6:=E.var 6
noncomputable abbrev x7:=E.var 7
noncomputable abbrev x8:=E.var 8
noncomputable abbrev x9:=E.var 9
noncomputable abbrev i0:=E.int 0
noncomputable abbrev i1:=E.int 1
noncomputable abbrev i2:=E.int 2
noncomputable abbrev cI (e:E):E:=.slc e (some i1) none
noncomputable abbrev BQ (e:E):E:=.slc e none (some i1)
noncomputable abbrev eK (elt:E) (t:Nat) (src:E):E:=.comp elt [t] .plain src .none none
noncomputable abbrev hd (e:E):E:=.idx e i0
noncomputable abbrev cK (a b:E):E:=.bin .add a b
noncomputable abbrev eL (r:E):E:=.attr 0 1 r
noncomputable abbrev eR (r:E):E:=.attr 0 2 r
noncomputable abbrev fw (tg:List Nat) (e:E) (b:List S):S:=.for tg .plain e .none b
noncomputable def yd:cR:=⟨2,3,[
 .iff (.cmp .eq (BQ (hd x0)) (.str sQ)) [.stuck] [],
 .ret (cK (BQ x0) (.tupleOf (eK (.call .named [x2,x1]) 2 (cI x0))))]⟩
noncomputable def wb:cR:=⟨1,1,[.ret (.and (.cmp .eq (.len x0) i1) (.cmp .eq (BQ (hd x0)) (.str sQ)))]⟩
noncomputable def mA:cR:=⟨1,3,[.ret (.sortedSet (.comp (hd x2) [1,2] .plain (.call .parts [x0]) .none (some (.call .isVar [x2]))))]⟩
noncomputable def uC:cR:=⟨2,3,[
 .iff (.not (.call .isVar [x0])) [.ret (cK (.tup [hd x0]) (.tupleOf (eK (.call .placed [x2,x1]) 2 (cI x0))))] [],
 .stuck,.stuck]⟩
noncomputable def w8:cR:=⟨1,6,[
 .ownL 1 [.tup [.tup [],x0]],
 .for [2,3] .enum (cI x0) .none [
  .ext 1 (.comp (.tup [cK (.tup [x2]) x4,x5]) [4,5] .plain (.call .parts [x3]) .none none)],
 .freezeV 1,
 .ret x1]⟩
noncomputable def tM:cR:=⟨2,3,[
 fw [2] x1 [
  .iff (.not (.chain i0 x2 (.bin .sub (.len x0) i1))) [.stuck] [],
  .asg 0 (.idx x0 (cK x2 i1))],
 .ret x0]⟩
noncomputable def nJ:cR:=⟨3,4,[
 .iff (.cmp .eq x1 (.tup [])) [.ret x2] [],
 .asg 3 (.call .partAt [x0,BQ x1]),
 .ret (cK (cK (.slc x0 none (some (cK (hd x1) i1))) (.tup [.call .replaced [x3,cI x1,x2]])) (.slc x0 (some (cK (hd x1) i2)) none))]⟩
noncomputable def qo:cR:=⟨2,6,[
 .asgs [2,3] [.val .dct0,.ownL [.tup [x0,x1]]],
 .whl (.cmp .gt (.lenOwn 3) i0) [
  .popUnp 4 5 3,
  .iff (.call .isVar [x4]) [.stuck] [
   .iff (.or (.cmp .ne (hd x4) (hd x5)) (.cmp .ne (.len x4) (.len x5))) [.ret .none] [.extZip 3 (cI x4) (cI x5)]]],
 .ret x2]⟩
noncomputable def qX:cR:=⟨2,3,[.ret (cK (.tup [.dgetD (.var 1) (hd x0) (hd x0)]) (.tupleOf (eK (.call .renamed [x2,x1]) 2 (cI x0))))]⟩
noncomputable def wq:cR:=⟨1,5,[
 .asg 1 (.comp x3 [2,3] .plain (.call .parts [x0]) .none none),
 .ret (.tup [.len x1,.tupleOf (eK (hd x4) 4 x1),.tupleOf (eK (.bin .sub (.len x4) i1) 4 x1)])]⟩
noncomputable def mP:cR:=⟨2,2,[.ret (.tup [.dgetD (.var 0) (hd x1) i0,hd x1,.bin .sub (.len x1) i1])]⟩
noncomputable def n7:cR:=⟨2,2,[.sattr 2 0 x0 x1,.sattrD 2 1 x0]⟩
noncomputable def xf:cR:=⟨3,3,[
 .iff (.dhas true (.attr 2 1 x0) (.tup [x1,x2])) [.setDA 2 1 x0 (.tup [x1,x2]) (.meth 2 .isAbove x0 [x1,x2])] [],
 .ret (.dget (.attr 2 1 x0) (.tup [x1,x2]))]⟩
noncomputable def qA:cR:=⟨3,7,[
 .iff (.or (.call .isVar [x1]) (.cmp .eq x1 x2)) [.ret (.bool false)] [],
 .iff (.cmp .ne (.comp x3 [3] .plain (cI x1) .none (some (.or (.cmp .eq x3 x2) (.meth 2 .above x0 [x3,x2])))) (.lst [])) [.ret (.bool true)] [],
 .iff (.or (.call .isVar [x2]) (.cmp .ne (.comp x6 [6] .plain (cI x2) .none (some (.not (.meth 2 .above x0 [x1,x6])))) (.lst []))) [.ret (.bool false)] [],
 .asgs [4,5] [.val (.call .placeOfOp [.attr 2 0 x0,x1]),.val (.call .placeOfOp [.attr 2 0 x0,x2])],
 .ret (.or (.cmp .gt x4 x5) (.and (.cmp .eq x4 x5) (.meth 2 .firstAbove x0 [cI x1,cI x2])))]⟩
noncomputable def kB:cR:=⟨3,5,[
 .for [3,4] .zip x1 x2 [.iff (.cmp .ne x3 x4) [.ret (.meth 2 .above x0 [x3,x4])] []],
 .ret (.bool false)]⟩
noncomputable def nN:cR:=⟨2,2,[
 .whl (.and (.call .isVar [x0]) (.dhas false (.var 1) (hd x0))) [.stuck],
 .ret x0]⟩
noncomputable def v7:cR:=⟨2,6,[
 .asgs [2,3] [.val .dct0,.ownL [.tup [x0,x1]]],
 .whl (.cmp .gt (.lenOwn 3) i0) [
  .popUnp 4 5 3,
  .asgs [4,5] [.val (.call .followed [x4,x2]),.val (.call .followed [x5,x2])],
  .iff (.and (.call .isVar [x5]) (.not (.call .isVar [x4]))) [.stuck] [],
  .iff (.call .isVar [x4]) [.stuck] [
   .iff (.or (.cmp .ne (hd x4) (hd x5)) (.cmp .ne (.len x4) (.len x5))) [.ret .none] [.extZip 3 (cI x4) (cI x5)]]],
 .ret x2]⟩
noncomputable def pR:cR:=⟨2,3,[
 .asg 2 (.call .begun [x0,x1]),
 .ret (.ite (.cmp .isN x2 .none) .none .stuck)]⟩
noncomputable def yq:cR:=⟨2,3,[.ret (.call .renamed [x0,.dictOf (eK .stuck 2 (.call .variables [x0]))])]⟩
noncomputable def rg:cR:=⟨2,4,[
 .asg 2 (.str AS),
 .whl (.cmp .ne (.comp x3 [3] .plain x0 .none (some .stuck)) (.lst [])) [.stuck],
 .ret x2]⟩
noncomputable def nZ:cR:=⟨2,11,[
 .asg 2 (.call .markFor [.call .variables [eL x1],.call .variables [eL x0]]),
 .asgs [3,4,5] [.val (.call .apart [eL x1,x2]),.val (.call .apart [eR x1,x2]),.val (.lst [])],
 fw [6,7] (.call .parts [eL x0]) [
  .asg 8 (.and (.cmp .eq x6 (.tup [])) (.cmp .eq (.tup [eL x0,eR x0]) (.tup [eL x1,eR x1]))),
  .asg 9 (.ite (.or (.call .isVar [x7]) x8) .none (.call .unified [x7,x3])),
  .iff (.cmp .isNN x9 .none) [.stuck] []],
 .ret x5]⟩
noncomputable def oq:cR:=⟨5,12,[
 .iff (.call .isVar [x2]) [.stuck] [],
 .asg 5 (.call .variables [x2]),
 .asg 6 (cK (.lst [.tup [.str xi,x3,x3]]) (.listOf x4)),
 fw [7,8,9] x6 [
  .iff (.isIn true x7 (.tup [.str xi,.str zU])) [.stuck] [],
  .asg 10 (.comp (.var 11) [11] .plain (cK (.call .variables [x8]) (.call .variables [x9])) .none (some (.isIn true (.var 11) x5))),
  .iff (.cmp .ne (.var 10) (.lst [])) [.stuck] []],
 .sattr 0 0 x0 x1,.sattr 0 1 x0 x2,.sattr 0 2 x0 x3,.sattr 0 3 x0 (.tupleOf x4)]⟩
noncomputable def nj:cR:=⟨2,2,[.sattr 1 0 x0 (.listOf x1)]⟩
noncomputable def tI:cR:=⟨2,7,[
 fw [2,3] (.call .parts [x1]) [
  fw [4] (.attr 1 0 x0) [
   .asg 5 (.call .matched [eL x4,x3]),
   .iff (.cmp .isNN x5 .none) [
    .asg 6 (.tup [x2,.str AJ,.attr 0 0 x4,.tupleOf (.sortedItems (.var 5)),.bool false]),
    .ret (.tup [x6,.call .replaced [x1,x2,.call .placed [eR x4,x5]]])] []]],
 .ret .none]⟩
noncomputable def tE:cR:=⟨3,5,[
 .asgs [3,4] [.ownL [],.val (.meth 1 .stepOf x0 [x1])],
 .whl (.cmp .isNN x4 .none) [
  .iff (.cmp .eq (.lenOwn 3) x2) [.stuck] [],
  .app 3 (hd x4),
  .asg 1 (.idx x4 i1),
  .asg 4 (.meth 1 .stepOf x0 [x1])],
 .freezeV 3,
 .ret (.tup [x1,x3])]⟩
noncomputable def qe:cR:=⟨4,9,[
 .unp [4,5] (.meth 1 .normal x0 [x1,x3]),
 .unp [6,7] (.meth 1 .normal x0 [x2,x3]),
 .iff (.cmp .ne x4 x6) [.ret .none] [],
 .ret (cK x5 (.comp (cK (.slc x8 none (some (.int 4))) (.tup [.bool true])) [8] .rev x7 .none none))]⟩
noncomputable def nq:cR:=⟨4,6,[
 .sattr 3 0 x0 x2,.sattr 3 1 x0 x3,.sattr 3 2 x0 i0,.sattr 3 3 x0 (.lst []),.sattr 3 4 x0 (.lst []),.sattrD 3 5 x0,
 fw [4,5] x1 [.expr (.meth 3 .note x0 [x4,x5])]]⟩
noncomputable def Aa:cR:=⟨3,3,[
 .iff (.cmp .ne x1 x2) [.setDA 3 5 x0 (cI (.call .named [.tup [.str vP,x1,x2],.dct0])) (.bool true)] []]⟩
noncomputable def tL:cR:=⟨3,5,[
 fw [3,4] (.tup [.tup [x1,x2],.tup [x2,x1]]) [
  .iff (.meth 2 .above (.attr 3 0 x0) [x3,x4]) [
   .sattr 3 2 x0 (cK (.attr 3 2 x0) i1),
   .ret (.new 0 .ruleInit [.fmade (.attr 3 2 x0),x3,x4,.tup []])] []],
 .ret .none]⟩
noncomputable def qs:cR:=⟨2,2,[.ret (hd (.meth 1 .normal (.new 1 .normInit [.attr 3 3 x0]) [x1,.attr 3 1 x0]))]⟩
noncomputable def xy:cR:=⟨2,6,[
 .takeAttr 2 3 3 x0 [x1],
 .asg 3 (.new 1 .normInit [.lst [x1]]),
 fw [4] x2 [
  .iff (.cmp .isN (.meth 1 .stepOf x3 [eL x4]) .none) [.appA 3 3 x0 x4] [.expr (.meth 3 .note x0 [eL x4,eR x4])]],
 .freezeA 3 3 x0,
 .sattr 3 3 x0 (eK (.new 0 .ruleInit [.attr 0 0 x5,eL x5,.meth 3 .simpler x0 [eR x5],.tup []]) 5 (.attr 3 3 x0)),
 fw [4] (.attr 3 3 x0) [
  .expr (.meth 3 .meet x0 [x4,x1]),
  .iff (.cmp .ne (.attr 0 0 x4) (.attr 0 0 x1)) [.expr (.meth 3 .meet x0 [x1,x4])] []]]⟩
noncomputable def Ao:cR:=⟨3,7,[
 fw [3,4,5,6] (.call .overlaps [x1,x2]) [.expr (.meth 3 .note x0 [x5,x6])]]⟩
noncomputable def At:cR:=⟨1,5,[
 .iff (.dempty (.attr 3 5 x0)) [.ret (.bool false)] [],
 .asg 1 (.sortedFirst (.attr 3 5 x0)),
 .popDA 3 5 x0 x1,
 .asgs [2,3] [.val (.meth 3 .simpler x0 [hd x1]),.val (.meth 3 .simpler x0 [.idx x1 i1])],
 .iff (.cmp .ne x2 x3) [
  .asg 4 (.meth 3 .turned x0 [x2,x3]),
  .iff (.cmp .isN x4 .none) [.stuck] [.expr (.meth 3 .letIn x0 [x4])]] [],
 .ret (.bool true)]⟩
noncomputable def Cn:cR:=⟨1,2,[
 .for [1] .range (.attr 3 1 x0) .none [
  .iff (.not (.meth 3 .step x0 [])) [.ret (.cmp .eq (.attr 3 4 x0) (.lst []))] []],
 .stuck]⟩
noncomputable def C8:cR:=⟨3,3,[.ret (.meth 1 .normWay (.new 1 .normInit [.attr 3 3 x0]) [x1,x2,.attr 3 1 x0])]⟩
noncomputable def qT:cR:=⟨1,2,[
 .ret (.lstG [cK (eK (.bin .mod (.intOf x1) (.int 1000003)) 1 (.slc x0 none (some (.int 40)))) (.bin .mul (.lst [i0]) (.intOf (.cmp .eq (.len x0) i0))),i0])]⟩
noncomputable def pz:cR:=⟨2,4,[
 .asgs [2,3] [.val (.bin .fdiv (.idx x0 i1) (.len (hd x0))),.val (.bin .mod (.idx x0 i1) (.len (hd x0)))],
 .setG x0 1 (cK (.idx x0 i1) i1),
 .ret (.bin .mod (cK (cK (.idx (hd x0) x3) (.bin .fdiv (.bin .mul (.bin .mul (.int 5) x2) (cK x2 i1)) i2)) x2) x1)]⟩
noncomputable def qm:cR:=⟨2,4,[
 .asg 2 (.call .lawPull [x0,.ite (.cmp .gt x1 i0) (.int 5) i2]),
 .iff (.cmp .lt x2 i2) [.ret (.tup [.idx (.str ⟨#[97,98]⟩) x2])] [],
 .ret (cK (.tup [.idx (.str ⟨#[102,103,104]⟩) (.bin .sub x2 i2)])
  (.tupleOf (.comp (.call .lawTerm [x0,.bin .sub x1 i1]) [3] .range (cK i1 (.bin .fdiv x2 (.int 4))) .none none)))]⟩
noncomputable def nI:cR:=⟨1,4,[
 .asg 1 (.lst []),
 fw [2] x0 [
  .asg 1 (cK x1 (.comp x3 [3] .plain (.call .lawWhole [cI x2]) .none (some (.isIn true x3 x1)))),
  .asg 1 (cK x1 (.bin .mul (.lst [x2]) (.intOf (.isIn true x2 x1))))],
 .ret x1]⟩
noncomputable def mq:cR:=⟨2,12,[
 .ownDictOf 2 (eK (.tup [.var 11,.var 11]) 11 x0),
 .whl (.cmp .ne x1 (.lst [])) [
  fw [3,4] x1 [
   .asgs [5,6] [.val (.dget (.var 2) x3),.val (.dget (.var 2) x4)],
   fw [7] x0 [.setD 2 x7 (.ite (.cmp .eq (.dget (.var 2) x7) x6) x5 (.dget (.var 2) x7))]],
  .asgs [8,1] [.ownD,.ownL []],
  fw [7] x0 [
   .asg 9 (cK (.tup [hd x7]) (.tupleOf (eK (.dget (.var 2) (.var 10)) 10 (cI x7)))),
   .ifSetdef 8 x9 x7 (some (.var 2)) (.dget (.var 2) x7) none [.app 1 (.tup [.dget (.var 8) x9,x7])]],
  .freezeV 1],
 .freezeV 2,
 .ret x2]⟩
noncomputable def Cj:cR:=⟨1,19,[
 .asg 1 (.call .lawPool [x0]),
 .asg 2 (.comp (.tupleOf (.comp (.call .lawTerm [x1,i2]) [12] .range i2 .none none)) [13] .range (cK i1 (.call .lawPull [x1,i2])) .none none),
 .asg 3 (.comp (.call .lawTerm [x1,i2]) [17] .range i2 .none none),
 .asg 4 (.new 2 .pathInit [.dictOf (eK (.tup [.var 14,.call .lawPull [x1,.int 3]]) 14 (.lst [.str (S1 102),.str (S1 103),.str (S1 104),.str (S1 98)]))]),
 .asg 5 (.new 3 .compInit [x2,x4,.int 200]),
 .iff (.or (.not (.meth 3 .run x5 [])) (.cmp .ne (.attr 3 4 x5) (.lst []))) [.ret (.bool false)] [],
 .asg 6 (.call .lawWhole [cK (.comp2 (.var 16) 15 x2 16 (.var 15)) x3]),
 .asg 7 (.call .lawClosed [x6,x2]),
 .asg 8 (.dictOf (eK (.tup [.var 18,.meth 3 .simpler x5 [.var 18]]) 18 x6)),
 .asgs [9,10] [.ownD,.ownD],
 fw [11] x6 [
  .ifSetdef 9 (.dget (.var 7) (.var 11)) (.dget (.var 8) (.var 11)) none (.dget (.var 8) (.var 11)) none [.ret (.bool false)],
  .ifSetdef 10 (.dget (.var 8) (.var 11)) (.dget (.var 7) (.var 11)) none (.dget (.var 7) (.var 11)) (some (.cmp .ne (.meth 3 .simpler x5 [.dget (.var 8) (.var 11)]) (.dget (.var 8) (.var 11)))) [.ret (.bool false)]],
 .ret (.cmp .eq (.cmp .isNN (.meth 3 .way x5 [hd x3,.idx x3 i1]) .none) (.cmp .eq (.dget (.var 7) (hd x3)) (.dget (.var 7) (.idx x3 i1))))]⟩
noncomputable def tbl:Fn->cR
 | .named=>yd | .isVar=>wb | .variables=>mA | .placed=>uC | .parts=>w8 | .partAt=>tM
 | .replaced=>nJ | .matched=>qo | .renamed=>qX | .keyOf=>wq | .placeOfOp=>mP
 | .pathInit=>n7 | .above=>xf | .isAbove=>qA | .firstAbove=>kB | .followed=>nN
 | .begun=>v7 | .unified=>pR | .apart=>yq | .markFor=>rg | .overlaps=>nZ
 | .ruleInit=>oq | .normInit=>nj | .stepOf=>tI | .normal=>tE | .normWay=>qe
 | .compInit=>nq | .note=>Aa | .turned=>tL | .simpler=>qs | .letIn=>xy | .meet=>Ao
 | .step=>At | .run=>Cn | .way=>C8
 | .lawPool=>qT | .lawPull=>pz | .lawTerm=>qm | .lawWhole=>nI | .lawClosed=>mq | .law=>Cj
noncomputable def DF (xs:List Int):Option Bool:=match kj 10000 tbl 60 .law [.lst (xs.map .int)] [] with
 | some (.bool b,_)=>some b
 | _=>none
noncomputable abbrev Sh (s:Shared) (h:Heap) (t:Nat):Shared:={ s with heap:=h,toks:=t }
noncomputable abbrev ey (s:Shared) (h:Heap):Shared:={ s with heap:=h }
mutual
noncomputable def cA (h:Heap):V->Value->Prop
 | .none,x=>x=.none
 | .bool b,x=>x=.bool b
 | .int i,x=>∃ t,x=.int i t
 | .str s,x=>∃ t,x=.str s t
 | .tup l,x=>∃ a its,x=.ref a/\h.IsTuple a its/\ce h l its.toList
 | .lst l,x=>∃ a its,x=.ref a/\h.IsList a its/\its.toList.length=l.length
 | .dct _ _,x=>∃ a,x=.ref a
 | .obj _ _,x=>∃ a,x=.ref a
 | .gl _,x=>∃ a,x=.ref a
noncomputable def ce (h:Heap):List V->List Value->Prop
 | [],xs=>xs=[]
 | v::vs,xs=>∃ x r,xs=x::r/\cA h v x/\ce h vs r
end
theorem ce.length {h:Heap}:∀ {vs:List V}{xs:List Value},ce h vs xs->xs.length=vs.length
 | [],_,e=>congrArg List.length e
 | _::_,_,e=>by obtain ⟨zz,zz,q,zz,e⟩:=e; exact q ▸ congrArg (·+1) e.length
def pb (h h':Heap):Prop:=∀ a o xs n,h.get? a=some o->o.data=.seq xs n->h'.get? a=some o
mutual
theorem cA.keep {h h':Heap}(k:pb h h'):∀ {v:V}{x:Value},cA h v x->cA h' v x
 | .tup l,_,e=>by obtain ⟨a,its,q,⟨o,ho,hc,n,hd⟩,r⟩:=e; exact ⟨a,its,q,⟨o,k a o its n ho hd,hc,n,hd⟩,r.keep k⟩
 | .lst l,_,e=>by obtain ⟨a,its,q,⟨o,ho,hc,n,hd⟩,r⟩:=e; exact ⟨a,its,q,⟨o,k a o its n ho hd,hc,n,hd⟩,r⟩
 | .none,_,e=>e
 | .bool _,_,e=>e
 | .int _,_,e=>e
 | .str _,_,e=>e
 | .dct _ _,_,e=>e
 | .obj _ _,_,e=>e
 | .gl _,_,e=>e
theorem ce.keep {h h':Heap}(k:pb h h'):∀ {vs:List V}{xs:List Value},ce h vs xs->ce h' vs xs
 | [],_,e=>e
 | _::_,_,e=>by obtain ⟨x,r,q,a,b⟩:=e; exact ⟨x,r,q,a.keep k,b.keep k⟩
end
section
variable (w:World)
mutual
noncomputable def eA:V->Int
 | .str s=>hashStr w s
 | .tup l=>reduceHash (Builtin.Tuple.tupleHashOf (lI l))
 | _=>0
noncomputable def lI:List V->List Int
 | []=>[]
 | v::vs=>eA v::lI vs
end
end
mutual
noncomputable def cM:V->Nat
 | .str _=>1
 | .tup l=>oQ l+1
 | _=>0
noncomputable def oQ:List V->Nat
 | []=>0
 | v::vs=>cM v+oQ vs
end
noncomputable def pC (n:Nat):V->Bool
 | .str _=>true
 | v=>d9 n v
theorem dr {n:Nat}{v:V}(h:d9 n v=true):pC n v=true:=by
 cases v <;> first | exact h | rfl
theorem iS {v:V}(h:rO v=true):∃ s,v=.str s:=by
 cases v with
 | str s=>exact ⟨s,rfl⟩
 | _=>exact iU h
theorem gp {n:Nat}{v:V}(h:d9 n v=true):∃ m s ks,n=m+1/\v=.tup (.str s::ks)/\∀ k∈ks,d9 m k=true:=by
 cases n with
 | zero=>exact iU h
 | succ n=>cases v with
  | tup l=>cases l with
   | nil=>exact iU h
   | cons u ks=>
    have h:=aC.mp h
    obtain ⟨s,rfl⟩:=iS h.1
    exact ⟨n,s,ks,rfl,rfl,aG.mp h.2⟩
  | _=>exact iU h
theorem qC {n:Nat}{l:List V}(h:d9 (n+1) (.tup l)=true):∀ v∈l,pC n v=true:=λv hv=>by
 obtain ⟨zz,t,ks,hm,he,hk⟩:=gp h
 cases he
 cases hm
 rcases az.mp hv with rfl | hv
 ·rfl
 ·exact dr (hk v hv)
section
variable {prog:Program}{w:World}{A:Around}{E:Value->Shared->Prop}{s:Shared}
theorem ce.at_ {h:Heap}:∀ {vs:List V}{xs:List Value}{i:Nat}{x:Value},ce h vs xs->xs[i]?=some x->∃ v,vs[i]?=some v/\cA h v x
 | [],xs,i,x,e,q=>by subst e; simp at q
 | v::vs,xs,i,x,e,q=>by
  obtain ⟨y,r,rfl,a,b⟩:=e
  cases i with
  | zero=>simp at q; subst q; exact ⟨v,rfl,a⟩
  | succ i=>simp at q; exact b.at_ q
theorem ld {f:Value->Array Int->Sem (ForInStep (Array Int))}(hf:∀ x b,f x b=(do let i ← pyHash x; pure (.yield (b.push i))))
  : ∀ (vs:List V) (xs:List Value) (b:Array Int) (s:Shared) (Q:Array Int->Shared->Prop),ce s.heap vs xs ->
   (∀ v∈vs,∀ (x:Value) (s:Shared) (Q:Int->Shared->Prop),cA s.heap v x->Q (eA w v) { s with toks:=s.toks+cM v }->wpAny (model prog w) A (pyHash x) Q E s) ->
   (∀ c:Array Int,c.toList=b.toList++lI w vs->Q c { s with toks:=s.toks+oQ vs })->wpAny (model prog w) A (forIn xs b f) Q E s
 | [],_,b,s,Q,e,_,q=>by
  cases e
  exact af (q b (bA _).symm)
 | v::vs,_,b,s,Q,e,hv,q=>by
  obtain ⟨x,r,rfl,a,e⟩:=e
  rw [List.forIn_cons,hf]
  refine ad (ad (hv v aa x s _ a (af (ld hf vs r _ _ Q e (λu hu=>hv u (ai _ hu)) λc hc=>?_))))
  have:=q c (hc.trans ((congrArg (·++_) Array.toList_push).trans (List.append_assoc ..)))
  exact (Nat.add_assoc s.toks (cM v) (oQ vs)).symm ▸ this
set_option tactic.hygienic true in
theorem lR {l:List V}{x:Value}{n:Nat}{Q:Int->Shared->Prop}(hu:A.units+n+1 < cLine) (hv:∀ v∈l,∀ (x:Value) (s:Shared) (Q:Int->Shared->Prop),cA s.heap v x->Q (eA w v) { s with toks:=s.toks+cM v }->wpAny (model prog w) A.in1 (pyHash x) Q E s)
  (r:cA s.heap (.tup l) x) (q:Q (eA w (.tup l)) { s with toks:=s.toks+cM (.tup l) }):wpAny (model prog w) A (pyHash x) Q E s:=by
 obtain ⟨a,its,rfl,ht,r⟩:=r
 have hT:=ht.typeIs
 obtain ⟨o,ho,zz,k,hd⟩:=ht
 unfold pyHash
 refine ad (wpAny_cRoomFor_or (.inr (by omega)) ?_)
 refine ad (wpAny_specialOf hT F.slot_tuple_hash.lookup ?_)
 show wpAny _ _ (if (some (Value.builtin "tuple.__hash__") == some Value.none)=true then _ else _) Q E s
 rw [if_neg (by rw [beq_builtin_none]; exact aF)]
 refine ad (wpAny_specialOf hT F.slot_tuple_hash.lookup ?_)
 refine ad (wpAny_callSpecialIfBoundUnlessNone?_slot hT F.slot_tuple_hash (aL F.slot_tuple_hash hT F.entry_tuple_hash ?_ (F.args_tuple_hash_1 _)))
 show wpAny _ _ (Builtin.Tuple.tupleItemsOf (.ref a) >>= _) _ _ s
 refine ad (wpAny_tupleItemsOf ho hd (ad ?_))
 rw [← Array.forIn_toList]
 refine ld (λzz zz=>rfl) l its.toList #[] s _ r hv λc hc=>?_
 show wpAny _ _ (retInt (Builtin.Tuple.tupleHashOf c.toList)) _ _ _
 rw [hc]
 refine wpAny_ret_mkInt ?_
 show wpAny _ _ (if (decide (-(2:Int) ^ 63<=Builtin.Tuple.tupleHashOf (lI w l)) && decide (Builtin.Tuple.tupleHashOf (lI w l) < 2 ^ 63))=true then _ else _) Q E _
 have q:Q (if (decide (-(2:Int) ^ 63<=Builtin.Tuple.tupleHashOf (lI w l)) && decide (Builtin.Tuple.tupleHashOf (lI w l) < 2 ^ 63))=true then _ else _) _:=q
 split
 ·rename_i hr
  rw [if_pos hr] at q
  exact af q
 ·rename_i hr
  rw [if_neg hr] at q
  exact ad (wpAny_rule (af q))
theorem kZ:∀ (n:Nat) (v:V),pC n v=true->∀ (A:Around) (E:Value->Shared->Prop) (s:Shared) (x:Value) (Q:Int->Shared->Prop),A.units+n < cLine->cA s.heap v x->Q (eA w v) { s with toks:=s.toks+cM v } ->
  wpAny (model prog w) A (pyHash x) Q E s:=by
 intro n
 induction n with
 | zero=>
  intro v h A E s x Q _ r q
  cases v with
  | str=>obtain ⟨u,rfl⟩:=r; exact wpAny_pyHash_str q
  | _=>exact iU h
 | succ n ih=>
  intro v h A E s x Q hu r q
  cases v with
  | str=>obtain ⟨u,rfl⟩:=r; exact wpAny_pyHash_str q
  | tup l=>exact lR hu (λv hv x s Q r q=>ih v (qC h v hv) _ _ s x Q (by show A.units+1+n < cLine; omega) r q) r q
  | _=>exact iU h
end
theorem iR {a b:V}{n:Nat}(ha:d9 n a=true) (hb:d9 n b=true):∀ v∈[a,b],pC n v=true:=λv hv=>by
 rcases az.mp hv with e | e
 ·exact e ▸ dr ha
 ·exact ay.mp e ▸ dr hb
inductive Cd (n:Nat):V->V->Bool->Prop
 | int (i j:Int):Cd n (.int i) (.int j) (decide (i=j))
 | str (i j:Str):Cd n (.str i) (.str j) (decide (i=j))
 | tup {m:Nat}{xs ys:List V}{t:Bool}:n=m+1->fS (mT m) xs ys=some t->Cd n (.tup xs) (.tup ys) t
theorem ua {n:Nat}{a b:V}{t:Bool}(h:DA a b=some t):Cd n a b t:=by
 cases a with
 | int i=>refine cu h λj e q=>?_; rw [cH e,← av q]; exact .int i j
 | str i=>refine cu h λj e q=>?_; rw [j1 e,← av q]; exact .str i j
 | _=>exact no h
theorem i8 {n:Nat}{a b:V}{t:Bool}(h:mT n a b=some t):Cd n a b t:=by
 cases n with
 | zero=>exact ua h
 | succ n=>cases a with
  | tup xs=>refine cu h λys e q=>?_; rw [dq e]; exact .tup rfl q
  | _=>exact ua h
inductive vT {α:Type}(f:α->α->Option Bool):List α->List α->Option (α × α)->Prop
 | nil {ys}:vT f [] ys none
 | end {x xs}:vT f (x::xs) [] none
 | eq {x y xs ys d}:f x y=some true->vT f xs ys d->vT f (x::xs) (y::ys) d
 | ne {x y xs ys}:f x y=some false->vT f (x::xs) (y::ys) (some (x,y))
theorem lQ {α:Type}{f:α->α->Option Bool}{t:Bool}:∀ {xs ys:List α},fS f xs ys=some t->(∃ p,vT f xs ys (some p)/\t=false)\/(vT f xs ys none/\t=decide (xs.length=ys.length))
 | [],ys,h=>.inr ⟨.nil,by rw [← av h]; cases ys <;> rfl⟩
 | _::_,[],h=>.inr ⟨.end,(av h).symm⟩
 | x::xs,y::ys,h=>by
  refine cu h λb e h=>?_
  cases b with
  | true=>exact (lQ h).imp (λ⟨p,q,i⟩=>⟨p,.eq e q,i⟩) λ⟨q,i⟩=>⟨.eq e q,by rw [i,aO,aO,decide_eq_decide.mpr Nat.succ_inj]⟩
  | false=>exact .inl ⟨_,.ne e,(av h).symm⟩
section
variable {prog:Program}{w:World}{A:Around}{E:Value->Shared->Prop}{s:Shared}
theorem d8 {f:V->V->Option Bool}{K:Value->Value->Sem Fin}{body:Value × Value->Option Fin × Unit->Sem (ForInStep (Option Fin × Unit))}
  (hb:∀ x y r,body (x,y) r=(do
   let b ← eqBool x y
   if !b then (do let v ← K x y; pure (.done (some v,()))) else pure (.yield (none,()))))
  (hv:∀ v u b,f v u=some b->∀ (x y:Value) (Q:Bool->Shared->Prop),cA s.heap v x->cA s.heap u y->Q b s->wpAny (model prog w) A (eqBool x y) Q E s) {vs us:List V}{d:Option (V × V)}(D:vT f vs us d):
  ∀ {xs ys:List Value}{Q:Option Fin × Unit->Shared->Prop},ce s.heap vs xs->ce s.heap us ys->(d=none->Q (none,()) s)->(∀ p x y,d=some p->cA s.heap p.1 x->cA s.heap p.2 y->wpAny (model prog w) A (K x y) (λv s'=>Q (some v,()) s') E s) ->
   wpAny (model prog w) A (forIn (xs.zip ys) (none,()) body) Q E s:=by
 induction D with
 | nil=>intro xs ys Q r1 _ q0 _; cases r1; exact af (q0 rfl)
 | «end»=>intro xs ys Q r1 r2 q0 _; cases r2; rw [List.zip_nil_right]; exact af (q0 rfl)
 | eq e _ ih=>
  intro xs ys Q r1 r2 q0 q1
  obtain ⟨x,xs,rfl,a,r1⟩:=r1
  obtain ⟨y,ys,rfl,b,r2⟩:=r2
  rw [List.zip_cons_cons,List.forIn_cons,hb]
  exact ad (ad (hv _ _ _ e x y _ a b (af (ih r1 r2 q0 q1))))
 | ne e=>
  intro xs ys Q r1 r2 _ q1
  obtain ⟨x,xs,rfl,a,r1⟩:=r1
  obtain ⟨y,ys,rfl,b,r2⟩:=r2
  rw [List.zip_cons_cons,List.forIn_cons,hb]
  exact ad (ad (hv _ _ _ e x y _ a b (ad (wpAny_mono (q1 _ x y rfl a b) (λv s' q=>af (af q)) λzz zz e=>e))))
theorem rn {vs us:List V}{xs ys:Array Value}(r1:ce s.heap vs xs.toList) (r2:ce s.heap us ys.toList):(xs.size == ys.size)=decide (vs.length=us.length):=by
 rw [← r1.length,← r2.length]; rfl
theorem uF {f:V->V->Option Bool}{vs us:List V}{t:Bool}{a b:Addr}{xs ys:Array Value}{P:Fin->Shared->Prop}
  (h:fS f vs us=some t) (ha:s.heap.IsTuple a xs) (hb:s.heap.IsTuple b ys) (r1:ce s.heap vs xs.toList) (r2:ce s.heap us ys.toList)
  (hv:∀ v u b,f v u=some b->∀ (x y:Value) (Q:Bool->Shared->Prop),cA s.heap v x->cA s.heap u y->Q b s->wpAny (model prog w) A (eqBool x y) Q E s)
  (q:P (.done (.ret (.bool t))) s):wpAny (model prog w) A (Builtin.«tuple.__eq__» ⟨[.ref a,.ref b],[]⟩) P E s:=by
 have hTb:=hb.typeIs
 obtain ⟨oa,hoa,zz,na,hda⟩:=ha
 obtain ⟨ob,hob,zz,nb,hdb⟩:=hb
 show wpAny _ _ (isInstance (.ref b) (.type "tuple") >>= _) _ _ s
 refine ad (wpAny_isInstance hTb isSubtype_tuple_tuple (ad (wpAny_tupleItemsOf hoa hda (ad (wpAny_tupleItemsOf hob hdb (ad ?_))))))
 rcases lQ h with ⟨p,D,rfl⟩ | ⟨D,rfl⟩
 ·exact d8 (K:=λzz zz=>ret (.bool false)) (λzz zz zz=>rfl) hv D r1 r2 (λe=>nomatch e) λp x y zz zz zz=>af (af q)
 ·refine d8 (K:=λzz zz=>ret (.bool false)) (λzz zz zz=>rfl) hv D r1 r2 (λzz=>af ?_) λp x y e zz zz=>no e
  show P (.done (.ret (.bool (xs.size == ys.size)))) s
  rw [rn r1 r2]; exact q
theorem xc {h:Heap}{a:Addr}{xs ys:Array Value}(hx:h.IsTuple a xs) (hy:h.IsTuple a ys):xs=ys:=by
 obtain ⟨o,ho,zz,k,hd⟩:=hx
 obtain ⟨o',ho',zz,k',hd'⟩:=hy
 rw [av (ho.symm.trans ho'),hd'] at hd
 exact (Data.seq.inj hd).1.symm
theorem oo {h:Heap}{f:V->V->Option Bool}(hf:∀ {v u b x},f v u=some b->cA h v x->cA h u x->b=true) {t:Bool}:∀ {vs us:List V}{xs:List Value},fS f vs us=some t->ce h vs xs->ce h us xs->t=true
 | [],us,xs,e,r1,r2=>by
  cases us with
  | nil=>exact (av e).symm
  | cons=>cases r1; obtain ⟨zz,zz,q,zz⟩:=r2; cases q
 | v::vs,us,xs,e,r1,r2=>by
  obtain ⟨x,xs,rfl,a,r1⟩:=r1
  cases us with
  | nil=>cases r2
  | cons u us=>
   obtain ⟨y,ys,e1,b,r2⟩:=r2
   cases e1
   refine cu e λc e q=>?_
   cases hf e a b
   exact oo hf q r1 r2
theorem DP {p:Nat->Prop}(h:∀ n,(∀ m,n=m+1->p m)->p n) (n:Nat):p n:=by
 induction n with
 | zero=>exact h 0 λm e=>nomatch e
 | succ n ih=>exact h _ λm e=>by cases e; exact ih
theorem mx {h:Heap}:∀ (n:Nat) {a b:V}{t:Bool}{x:Value},mT n a b=some t->cA h a x->cA h b x->t=true:=by
 refine DP λn ih=>?_
 intro a b t x e r1 r2
 cases i8 e with
 | int=>obtain ⟨zz,rfl⟩:=r1; obtain ⟨zz,q⟩:=r2; cases q; exact be rfl
 | str=>obtain ⟨zz,rfl⟩:=r1; obtain ⟨zz,q⟩:=r2; cases q; exact be rfl
 | tup hn q=>
  obtain ⟨i,its,rfl,hi,r1⟩:=r1
  obtain ⟨j,jts,e2,hj,r2⟩:=r2
  rw [← Value.ref.inj e2] at hj
  rw [← xc hi hj] at r2
  exact oo (ih _ hn) q r1 r2
set_option tactic.hygienic true in
theorem oj:∀ (n:Nat) (a b:V) (t:Bool),mT n a b=some t->∀ (A:Around) (E:Value->Shared->Prop) (s:Shared) (x y:Value) (Q:Bool->Shared->Prop),A.units+n < cLine ->
  cA s.heap a x->cA s.heap b y->Q t s->wpAny (model prog w) A (eqBool x y) Q E s:=by
 refine DP λn ih=>?_
 intro a b t e A E s x y Q hu r1 r2 q
 cases i8 e with
 | int=>obtain ⟨zz,rfl⟩:=r1; obtain ⟨zz,rfl⟩:=r2; exact wpAny_eqBool_int q
 | str=>obtain ⟨zz,rfl⟩:=r1; obtain ⟨zz,rfl⟩:=r2; exact wpAny_eqBool_str q
 | tup hn h=>
  have same:=λy=>mx (h:=s.heap) (x:=y) n e
  have k1:=r1
  have k2:=r2
  obtain ⟨i,its,rfl,hi,r1⟩:=r1
  obtain ⟨j,jts,rfl,hj,r2⟩:=r2
  unfold eqBool
  refine aH ?_
  show wpAny _ _ (if (Value.ref i == Value.ref j)=true then _ else _) Q E s
  split
  ·rename_i hij
   rw [← bg hij] at k2
   cases same _ k1 k2
   exact ad (wpAny_rule (af q))
  ·exact ad (wpAny_richCompare_same_room (op:=.Eq) hi.typeIs hj.typeIs F.slot_tuple_eq
    (aL F.slot_tuple_eq hi.typeIs F.entry_tuple_eq (uF h hi hj r1 r2 (λv u b hb x y Q a1 a2 a3=>ih _ hn v u b hb A.in1 _ s x y Q (by show A.units+1+_ < cLine; omega) a1 a2 a3) ⟨_,rfl,(λe=>nomatch e),bl q⟩) (F.args_tuple_eq_2 _ _)) (by omega))
theorem ki {n:Nat}{body:Value->Option Bool × Unit->Sem (ForInStep (Option Bool × Unit))}
  (hb:∀ x r,body x r=(do
   let b ← eqIsQuiet n x
   if !b then pure (.done (some false,())) else pure (.yield (none,())))):
  ∀ (vs:List V) (xs:List Value),ce s.heap vs xs ->
   (∀ v∈vs,∀ (x:Value) (Q:Bool->Shared->Prop),cA s.heap v x->Q true s->wpAny (model prog w) A (eqIsQuiet n x) Q E s) ->
   ∀ (Q:Option Bool × Unit->Shared->Prop),Q (none,()) s->wpAny (model prog w) A (forIn xs (none,()) body) Q E s
 | [],_,r,_,Q,q=>by cases r; exact af q
 | v::vs,_,r,hv,Q,q=>by
  obtain ⟨x,xs,rfl,a,r⟩:=r
  rw [List.forIn_cons,hb]
  exact ad (ad (hv v aa x _ a (af (ki hb vs xs r (λv' hv'=>hv v' (ai _ hv')) Q q))))
theorem nG {n:Nat}{l:List V}{x:Value}{Q:Bool->Shared->Prop}(hv:∀ v∈l,∀ (x:Value) (Q:Bool->Shared->Prop),cA s.heap v x->Q true s->wpAny (model prog w) A (eqIsQuiet n x) Q E s)
  (r:cA s.heap (.tup l) x) (q:Q true s):wpAny (model prog w) A (eqIsQuiet (n+1) x) Q E s:=by
 obtain ⟨a,its,rfl,ht,r⟩:=r
 have hT:=ht.typeIs
 obtain ⟨o,ho,zz,k,hd⟩:=ht
 unfold eqIsQuiet
 refine ad (wpAny_specialOf hT F.slot_tuple_eq.lookup ?_)
 show wpAny _ _ (isInstance (.ref a) (.type "tuple") >>= _) _ _ s
 refine ad (wpAny_isInstance hT isSubtype_tuple_tuple (ad (wpAny_seqItems ho hd (ad ?_))))
 show wpAny _ _ (forIn its _ _) _ _ s
 rw [← Array.forIn_toList]
 exact ki (n:=n) (λzz zz=>rfl) l its.toList r hv _ (af q)
theorem qa:∀ (n:Nat) (v:V),pC n v=true->∀ (x:Value) (Q:Bool->Shared->Prop),cA s.heap v x->Q true s->wpAny (model prog w) A (eqIsQuiet n x) Q E s:=by
 intro n
 induction n with
 | zero=>
  intro v h x Q r q
  cases v with
  | str=>obtain ⟨u,rfl⟩:=r; rw [eqIsQuiet_byValue _ rfl]; exact af q
  | _=>exact iU h
 | succ n ih=>
  intro v h x Q r q
  cases v with
  | str=>obtain ⟨u,rfl⟩:=r; rw [eqIsQuiet_byValue _ rfl]; exact af q
  | tup l=>exact nG (λv hv=>ih v (qC h v hv)) r q
  | _=>exact iU h
end
def fv (o:Option Bool) (P:Prop):Prop:=∃ t,o=some t/\(t=true↔P)
theorem nP {f:V->V->Option Bool}:fv (fS f [] []) ([]=([]:List V)):=⟨true,rfl,λzz=>rfl,λzz=>rfl⟩
theorem gJ {f:V->V->Option Bool}{x y:V}{xs ys:List V}(h:fv (f x y) (x=y)) (k:fv (fS f xs ys) (xs=ys)):fv (fS f (x::xs) (y::ys)) (x::xs=y::ys):=by
 obtain ⟨t,e,i⟩:=h
 obtain ⟨t',e',i'⟩:=k
 cases t with
 | true=>exact ⟨t',bL e e',by rw [i',i.mp rfl,List.cons.injEq]; exact ⟨λh=>⟨rfl,h⟩,And.right⟩⟩
 | false=>exact ⟨false,bL e rfl,iU,λh=>absurd (i.mpr (List.cons.inj h).1) aF⟩
theorem m9 {n:Nat}{xs ys:List V}(h:fv (fS (mT n) xs ys) (xs=ys)):fv (mT (n+1) (.tup xs) (.tup ys)) (V.tup xs=.tup ys):=by rw [V.tup.injEq]; exact h
theorem tO {n:Nat}{f:V->V->Option Bool}(hf:∀ a b,d9 n a=true->d9 n b=true->fv (f a b) (a=b)):∀ {k1 k2:List V},(∀ k∈k1,d9 n k=true)->(∀ k∈k2,d9 n k=true)->fv (fS f k1 k2) (k1=k2)
 | [],[],_,_=>nP
 | [],_::_,_,_=>⟨false,rfl,iU,λh=>(nomatch h)⟩
 | _::_,[],_,_=>⟨false,rfl,iU,λh=>(nomatch h)⟩
 | x::k1,y::k2,h1,h2=>gJ (hf x y (h1 x aa) (h2 y aa)) (tO hf (λk hk=>h1 k (ai _ hk)) λk hk=>h2 k (ai _ hk))
theorem qP {m:Nat}{s1 s2:Str}:fv (mT m (.str s1) (.str s2)) (V.str s1=.str s2):=by
 rw [V.str.injEq]
 exact ⟨decide (s1=s2),by cases m <;> rfl,decide_eq_true_iff⟩
theorem kN:∀ (n m:Nat) (a b:V),d9 n a=true->d9 n b=true->n<=m->fv (mT m a b) (a=b):=by
 intro n
 induction n with
 | zero=>intro m a b h; exact iU h
 | succ n ih=>
  intro m a b ha hb hm
  obtain ⟨n1,s1,k1,e1,rfl,q1⟩:=gp ha
  obtain ⟨n2,s2,k2,e2,rfl,q2⟩:=gp hb
  cases e1
  cases e2
  cases m with
  | zero=>exact absurd hm (Nat.not_succ_le_zero _)
  | succ m=>exact m9 (gJ qP (tO (λa b h h'=>ih m a b h h' (au hm)) q1 q2))
theorem oL {a b:V}(ha:gc a=true) (hb:gc b=true):fv (fU a b) (a=b):=kN 8 20 a b ha hb (by decide)
theorem fz {a:V}(h:iF a=true):∃ x y,a=.tup [x,y]/\d9 7 x=true/\d9 7 y=true:=by
 unfold iF at h
 cases e:iV a with
 | none=>rw [e] at h; exact iU h
 | some p=>rw [e] at h; exact ⟨p.1,p.2,iO e,aC.mp h⟩
theorem ji {a b:V}(ha:iF a=true) (hb:iF b=true):fv (fU a b) (a=b):=by
 obtain ⟨x,y,rfl,h1,h2⟩:=fz ha
 obtain ⟨x',y',rfl,h1',h2'⟩:=fz hb
 exact m9 (n:=19) (gJ (kN 7 19 x x' h1 h1' (by decide)) (gJ (kN 7 19 y y' h2 h2' (by decide)) nP))
theorem dg {h h':Heap}{d:Addr}{o:Obj}{es ep}(ho:h.get? d=some o) (hd:o.data=.dict es ep) (hs:Heap.SameBut d h h'):pb h h':=λa o' xs n ho' hd'=>by
 rw [hs.2 a ?_]; exact ho'
 rintro rfl
 cases ho.symm.trans ho'
 rw [hd] at hd'; cases hd'
theorem fv.dec {a b:V} [d:Decidable (a=b)] {o:Option Bool}(h:fv o (a=b)):o=some (decide (a=b)):=by
 obtain ⟨t,e,i⟩:=h
 rw [e]
 cases t with
 | true=>rw [be (i.mp rfl)]
 | false=>rw [bq λq=>aF (i.mpr q)]
section
variable (prog:Program) (w:World)
open Classical
noncomputable def Cs:HeapKind prog w V where
 is:=λh v a=>gc v=true/\cA h v (.ref a)
 hash:=eA w
 draws:=cM
 room:=λA=>A.units+40 < cLine
 inj:=λ{h a x y} hx hy=>by
  obtain ⟨t,e,i⟩:=oL hx.1 hy.1
  exact i.mp (mx 20 e hx.2 hy.2)
 keeps:=λx ho hd hs=>⟨x.1,x.2.keep (dg ho hd hs)⟩
 pyHash:=λ{A E s k a Q} hu hk h=>kZ 8 k (dr hk.1) A E s _ Q (by omega) hk.2 h
 eqBool:=λ{A E s x y a b Q} hu hx hy h=>oj 20 x y _ (oL hx.1 hy.1).dec A E s _ _ Q (by omega) hx.2 hy.2 h
 quiet:=λ{A E s k a Q} hk h=>qa 8 k (dr hk.1) _ Q hk.2 h
noncomputable def Ct:HeapKind prog w V where
 is:=λh v a=>iF v=true/\cA h v (.ref a)
 hash:=eA w
 draws:=cM
 room:=λA=>A.units+40 < cLine
 inj:=λ{h a x y} hx hy=>by
  obtain ⟨t,e,i⟩:=ji hx.1 hy.1
  exact i.mp (mx 20 e hx.2 hy.2)
 keeps:=λx ho hd hs=>⟨x.1,x.2.keep (dg ho hd hs)⟩
 pyHash:=λ{A E s k a Q} hu hk h=>by
  obtain ⟨x,y,rfl,h1,h2⟩:=fz hk.1
  exact lR (n:=8) (by omega) (λv hv x s Q r q=>kZ 7 v (iR h1 h2 v hv) _ _ s x Q (by show A.units+1+7 < cLine; omega) r q) hk.2 h
 eqBool:=λ{A E s x y a b Q} hu hx hy h=>oj 20 x y _ (ji hx.1 hy.1).dec A E s _ _ Q (by omega) hx.2 hy.2 h
 quiet:=λ{A E s k a Q} hk h=>by
  obtain ⟨x,y,rfl,h1,h2⟩:=fz hk.1
  exact nG (λv hv=>qa 7 v (iR h1 h2 v hv)) hk.2 h
end
inductive cQ where
 | other
 | frozen
 | glob (n t:Nat)
 | own (i:Nat)
 | tab
 deriving DecidableEq
structure Gh where
 role:Addr->cQ
 ga:Nat->Addr
 gn:Nat
structure Pm where
 prog:Program
 w:World
 cl:Nat->Addr
 h0:Heap
 tab:Addr
 lpos:Pos
 lqual:Str
 fa:Fn->Addr
inductive dI (w:World):List DictEntry->List V->List Value->List Value->Prop
 | nil:dI w [] [] [] []
 | cons {es ks kx vx k x v}:dI w es ks kx vx->dI w (⟨eA w k,x,v⟩::es) (k::ks) (x::kx) (v::vx)
inductive fy:List DictEntry->List Str->List Value->Prop
 | nil:fy [] [] []
 | cons {es ns vs hs t n v}:fy es ns vs->fy (⟨hs,.str n t,v⟩::es) (n::ns) (v::vs)
inductive bJ (P:Pm) (h:Heap) (a:Addr) (ks:List V) (kx vx:List Value):Prop
 | mk (o:Obj) (es:Array DictEntry) (ep:Nat) (ho:h.get? a=some o) (hc:o.ExactDict) (hd:o.data=.dict es ep) (he:dI P.w es.toList ks kx vx) (hn:ks.Nodup) (hr:ce h ks kx)
inductive eI (P:Pm) (h:Heap) (a d:Addr) (c:Nat) (ns:List Str) (vs:List Value):Prop
 | mk (ha:h.get? a=some (instObj (P.cl c) d)) (es:List DictEntry) (n:Nat) (hd:h.get? d=some (dictOf es n)) (en:fy es ns vs)
mutual
noncomputable def bM (P:Pm) (γ:Gh) (h:Heap):V->Value->Prop
 | .none,x=>x=.none
 | .bool b,x=>x=.bool b
 | .int i,x=>∃ t,x=.int i t
 | .str s,x=>∃ t,x=.str s t
 | .tup l,x=>∃ a its,x=.ref a/\γ.role a=.frozen/\h.IsTuple a its/\bI P γ h l its.toList
 | .lst l,x=>∃ a its,x=.ref a/\γ.role a=.frozen/\h.PlainList a its/\bI P γ h l its.toList
 | .dct ks vs,x=>∃ a kx vx,x=.ref a/\γ.role a=.frozen/\bJ P h a ks kx vx/\bI P γ h ks kx/\bI P γ h vs vx
 | .obj c vs,x=>∃ a d vx,x=.ref a/\γ.role a=.frozen/\γ.role d=.frozen/\eI P h a d c ((bH c).take vs.length) vx/\bI P γ h vs vx
 | .gl n,x=>x=.ref (γ.ga n)/\n < γ.gn
noncomputable def bI (P:Pm) (γ:Gh) (h:Heap):List V->List Value->Prop
 | [],xs=>xs=[]
 | v::vs,xs=>∃ x r,xs=x::r/\bM P γ h v x/\bI P γ h vs r
end
section
variable {P:Pm}{γ γ':Gh}{h h':Heap}
theorem bI.length:∀ {vs:List V}{xs:List Value},bI P γ h vs xs->xs.length=vs.length
 | [],xs,e=>by rw [e]; rfl
 | v::vs,xs,e=>by
  obtain ⟨x,r,rfl,zz,e⟩:=e
  rw [aO,aO,e.length]
theorem bI.nil:bI P γ h [] []:=rfl
theorem bI.cons {v:V}{vs:List V}{x:Value}{xs:List Value}(a:bM P γ h v x) (b:bI P γ h vs xs):bI P γ h (v::vs) (x::xs):=by
 exact ⟨x,xs,rfl,a,b⟩
theorem bI.inv {v:V}{vs:List V}{xs:List Value}(e:bI P γ h (v::vs) xs):∃ x r,xs=x::r/\bM P γ h v x/\bI P γ h vs r:=by
 exact e
theorem bI.inv_nil {xs:List Value}(e:bI P γ h [] xs):xs=[]:=e
theorem bI.append:∀ {us vs:List V}{xs ys:List Value},bI P γ h us xs->bI P γ h vs ys->bI P γ h (us++vs) (xs++ys)
 | [],vs,xs,ys,a,b=>by cases a.inv_nil; exact b
 | u::us,vs,xs,ys,a,b=>by
  obtain ⟨x,r,rfl,a1,a2⟩:=a.inv
  exact .cons a1 (a2.append b)
theorem bI.get:∀ {vs:List V}{xs:List Value}{i:Nat}{v:V},bI P γ h vs xs->vs[i]?=some v->∃ x,xs[i]?=some x/\bM P γ h v x
 | [],xs,i,v,e,q=>by simp at q
 | v::vs,xs,i,u,e,q=>by
  obtain ⟨x,r,rfl,a,b⟩:=e.inv
  cases i with
  | zero=>simp at q; subst q; exact ⟨x,rfl,a⟩
  | succ i=>simp at q; exact b.get q
theorem bI.get':∀ {vs:List V}{xs:List Value}{i:Nat}{x:Value},bI P γ h vs xs->xs[i]?=some x->∃ v,vs[i]?=some v/\bM P γ h v x
 | [],xs,i,v,e,q=>by cases e.inv_nil; simp at q
 | v::vs,xs,i,u,e,q=>by
  obtain ⟨x,r,rfl,a,b⟩:=e.inv
  cases i with
  | zero=>simp at q; subst q; exact ⟨v,rfl,a⟩
  | succ i=>simp at q; exact b.get' q
theorem bI.take:∀ {vs:List V}{xs:List Value}(n:Nat),bI P γ h vs xs->bI P γ h (vs.take n) (xs.take n)
 | [],xs,n,e=>by cases e.inv_nil; simp [bI.nil]
 | v::vs,xs,0,e=>by simp [bI.nil]
 | v::vs,xs,n+1,e=>by
  obtain ⟨x,r,rfl,a,b⟩:=e.inv
  simp only [List.take_succ_cons]
  exact .cons a (b.take n)
theorem bI.drop:∀ {vs:List V}{xs:List Value}(n:Nat),bI P γ h vs xs->bI P γ h (vs.drop n) (xs.drop n)
 | [],xs,n,e=>by cases e.inv_nil; simp [bI.nil]
 | v::vs,xs,0,e=>by simpa using e
 | v::vs,xs,n+1,e=>by
  obtain ⟨x,r,rfl,a,b⟩:=e.inv
  simp only [List.drop_succ_cons]
  exact b.drop n
theorem bI.set:∀ {vs:List V}{xs:List Value}{v:V}{x:Value}(n:Nat),bI P γ h vs xs->bM P γ h v x->bI P γ h (vs.set n v) (xs.set n x)
 | [],xs,v,x,n,e,r=>by cases e.inv_nil; simp [bI.nil]
 | u::vs,xs,v,x,0,e,r=>by
  obtain ⟨y,s,rfl,a,b⟩:=e.inv
  exact .cons r b
 | u::vs,xs,v,x,n+1,e,r=>by
  obtain ⟨y,s,rfl,a,b⟩:=e.inv
  exact .cons a (b.set n r)
theorem bI.reverse {vs:List V}{xs:List Value}(e:bI P γ h vs xs):bI P γ h vs.reverse xs.reverse:=by
 induction vs generalizing xs with
 | nil=>cases e.inv_nil; exact .nil
 | cons v vs ih=>
  obtain ⟨x,r,rfl,a,b⟩:=e.inv
  simp only [List.reverse_cons]
  exact (ih b).append (.cons a .nil)
mutual
theorem bM.toK:∀ {v:V}{x:Value},bM P γ h v x->cA h v x
 | .tup l,_,e=>by obtain ⟨a,its,q,zz,t,r⟩:=e; exact ⟨a,its,q,t,r.toK⟩
 | .lst l,_,e=>by obtain ⟨a,its,q,zz,t,r⟩:=e; exact ⟨a,its,q,t.isList,r.length⟩
 | .dct _ _,_,e=>by obtain ⟨a,zz,zz,q,zz⟩:=e; exact ⟨a,q⟩
 | .obj _ _,_,e=>by obtain ⟨a,zz,zz,q,zz⟩:=e; exact ⟨a,q⟩
 | .gl _,_,e=>⟨_,e.1⟩
 | .none,_,e=>e
 | .bool _,_,e=>e
 | .int _,_,e=>e
 | .str _,_,e=>e
theorem bI.toK:∀ {vs:List V}{xs:List Value},bI P γ h vs xs->ce h vs xs
 | [],_,e=>e
 | v::vs,_,e=>by obtain ⟨x,r,q,a,b⟩:=e; exact ⟨x,r,q,a.toK,b.toK⟩
end
def fo (γ:Gh) (h:Heap) (γ':Gh) (h':Heap):Prop:=∀ a o,γ.role a=.frozen->h.get? a=some o->γ'.role a=.frozen/\h'.get? a=some o
theorem ce.keepOf {ks:List V}{kx:List Value}(e:ce h ks kx) (r:bI P γ' h' ks kx):ce h' ks kx:=r.toK
theorem fo.tuple (f:fo γ h γ' h') {a:Addr}{its:Array Value}(r:γ.role a=.frozen) (t:h.IsTuple a its):γ'.role a=.frozen/\h'.IsTuple a its:=by
 obtain ⟨o,ho,q⟩:=t
 exact ⟨(f a o r ho).1,o,(f a o r ho).2,q⟩
theorem fo.list (f:fo γ h γ' h') {a:Addr}{its:Array Value}(r:γ.role a=.frozen) (t:h.PlainList a its):γ'.role a=.frozen/\h'.PlainList a its:=by
 obtain ⟨n,ho⟩:=t
 exact ⟨(f a _ r ho).1,n,(f a _ r ho).2⟩
theorem fo.inst (f:fo γ h γ' h') {a d:Addr}{c:Nat}{ns:List Str}{vs:List Value}(r:γ.role a=.frozen) (r':γ.role d=.frozen) (t:eI P h a d c ns vs):
  γ'.role a=.frozen/\γ'.role d=.frozen/\eI P h' a d c ns vs:=by
 obtain ⟨ho,es,n,hd,q⟩:=t
 exact ⟨(f a _ r ho).1,(f d _ r' hd).1,(f a _ r ho).2,es,n,(f d _ r' hd).2,q⟩
theorem bJ.to {a:Addr}{ks:List V}{kx vx:List Value}{r':cQ}(t:bJ P h a ks kx vx) (f:∀ o,h.get? a=some o->γ'.role a=r'/\h'.get? a=some o) (k:ce h' ks kx):γ'.role a=r'/\bJ P h' a ks kx vx:=by
 obtain ⟨o,es,ep,ho,he,hd,q,nd,zz⟩:=t
 exact ⟨(f o ho).1,o,es,ep,(f o ho).2,he,hd,q,nd,k⟩
theorem fo.dict (f:fo γ h γ' h') {a:Addr}{ks:List V}{kx vx:List Value}(r:γ.role a=.frozen) (t:bJ P h a ks kx vx) (k:ce h' ks kx):
  γ'.role a=.frozen/\bJ P h' a ks kx vx:=t.to (λo=>f a o r) k
mutual
theorem bM.monoN {m:Nat}(f:fo γ h γ' h') (hg:m<=γ'.gn) (hga:∀ n,n < m->γ'.ga n=γ.ga n):∀ {v:V}{x:Value},ie m v=true->bM P γ h v x->bM P γ' h' v x
 | .tup l,_,hn,e=>by obtain ⟨a,its,q,ro,t,r⟩:=e; exact ⟨a,its,q,(f.tuple ro t).1,(f.tuple ro t).2,r.monoN f hg hga hn⟩
 | .lst l,_,hn,e=>by obtain ⟨a,its,q,ro,t,r⟩:=e; exact ⟨a,its,q,(f.list ro t).1,(f.list ro t).2,r.monoN f hg hga hn⟩
 | .dct ks vs,_,hn,e=>by
  obtain ⟨a,kx,vx,q,ro,t,r1,r2⟩:=e
  have hn:=aC.mp hn
  have r1:=r1.monoN f hg hga hn.1
  exact ⟨a,kx,vx,q,(f.dict ro t r1.toK).1,(f.dict ro t r1.toK).2,r1,r2.monoN f hg hga hn.2⟩
 | .obj c vs,_,hn,e=>by obtain ⟨a,d,vx,q,ro,rd,t,r⟩:=e; exact ⟨a,d,vx,q,(f.inst ro rd t).1,(f.inst ro rd t).2.1,(f.inst ro rd t).2.2,r.monoN f hg hga hn⟩
 | .gl n,_,hn,e=>⟨(hga n (bw hn)).symm ▸ e.1,br (bw hn) hg⟩
 | .none,_,_,e=>e
 | .bool _,_,_,e=>e
 | .int _,_,_,e=>e
 | .str _,_,_,e=>e
theorem bI.monoN {m:Nat}(f:fo γ h γ' h') (hg:m<=γ'.gn) (hga:∀ n,n < m->γ'.ga n=γ.ga n):∀ {vs:List V}{xs:List Value},dH m vs=true->bI P γ h vs xs->bI P γ' h' vs xs
 | [],_,_,e=>e
 | v::vs,_,hn,e=>by obtain ⟨x,r,q,a,b⟩:=e; exact ⟨x,r,q,a.monoN f hg hga (aC.mp hn).1,b.monoN f hg hga (aC.mp hn).2⟩
end
mutual
theorem bM.lt:∀ {v:V}{x:Value},bM P γ h v x->ie γ.gn v=true
 | .tup _,_,e=>by obtain ⟨zz,zz,zz,zz,zz,r⟩:=e; exact r.lt
 | .lst _,_,e=>by obtain ⟨zz,zz,zz,zz,zz,r⟩:=e; exact r.lt
 | .dct _ _,_,e=>by obtain ⟨zz,zz,zz,zz,zz,zz,r,r'⟩:=e; exact aC.mpr ⟨r.lt,r'.lt⟩
 | .obj _ _,_,e=>by obtain ⟨zz,zz,zz,zz,zz,zz,zz,r⟩:=e; exact r.lt
 | .gl _,_,e=>be e.2
 | .none,_,_=>rfl
 | .bool _,_,_=>rfl
 | .int _,_,_=>rfl
 | .str _,_,_=>rfl
theorem bI.lt:∀ {vs:List V}{xs:List Value},bI P γ h vs xs->dH γ.gn vs=true
 | [],_,_=>rfl
 | _::_,_,e=>by obtain ⟨zz,zz,zz,a,b⟩:=e; exact aC.mpr ⟨a.lt,b.lt⟩
end
theorem bM.mono (f:fo γ h γ' h') (hg:γ.gn<=γ'.gn) (hga:∀ n,n < γ.gn->γ'.ga n=γ.ga n) {v:V}{x:Value}(r:bM P γ h v x):bM P γ' h' v x:=r.monoN f hg hga r.lt
theorem bI.mono (f:fo γ h γ' h') (hg:γ.gn<=γ'.gn) (hga:∀ n,n < γ.gn->γ'.ga n=γ.ga n) {vs:List V}{xs:List Value}(r:bI P γ h vs xs):bI P γ' h' vs xs:=r.monoN f hg hga r.lt
end
noncomputable def bT (P:Pm) (γ:Gh) (h:Heap) (r:cQ):bN->Value->Prop
 | .val v,x=>bM P γ h v x
 | .ol xs,x=>∃ a its,x=.ref a/\γ.role a=r/\h.PlainList a its/\bI P γ h xs its.toList
 | .od ks vs,x=>∃ a kx vx,x=.ref a/\γ.role a=r/\bJ P h a ks kx vx/\bI P γ h ks kx/\bI P γ h vs vx
def dS (P:Pm) (γ:Gh) (h:Heap) (n:Nat) (slots:List bN) (xs:List Value):Prop:=
 xs.length=slots.length/\∀ k sl x,slots[k]?=some sl->xs[k]?=some x->bT P γ h (.glob n (k+2)) sl x
inductive DG (P:Pm) (γ:Gh) (h:Heap) (n c:Nat) (slots:List bN):Prop
 | mk (d:Addr) (vx:List Value) (ro:γ.role (γ.ga n)=.glob n 0) (rd:γ.role d=.glob n 1) (hl:slots.length<=(bH c).length) (X:eI P h (γ.ga n) d c ((bH c).take slots.length) vx) (S:dS P γ h n slots vx)
noncomputable def gK (P:Pm) (γ:Gh) (h:Heap) (n:Nat):mR->Prop
 | .lst xs=>∃ its,γ.role (γ.ga n)=.glob n 0/\h.IsList (γ.ga n) its/\bI P γ h xs its.toList
 | .inst c slots=>DG P γ h n c slots
def qr (P:Pm) (γ:Gh) (h:Heap):Prop:=
 γ.role P.tab=.tab/\∃ ps,h.get? P.tab=some (tabObj ps)/\TriplesOk ps.toList /\
  (codeAmong P.lpos ps.toList=none\/∃ c,codeAmong P.lpos ps.toList=some (.ref c)/\γ.role c=.frozen/\h.CodeRec (.ref c) P.lqual)
structure bP (P:Pm) (γ:Gh) (h:Heap) (g:G):Prop where
 gn:γ.gn=g.length
 wf:∀ a,γ.role a≠.other->(h.get? a).isSome=true
 objs:∀ n ob,g[n]?=some ob->gK P γ h n ob
 base:∀ a o,P.h0.get? a=some o->(γ.role a=.other\/γ.role a=.frozen)/\h.get? a=some o
 tab:qr P γ h
 sys:γ.role sysModules=.other/\(P.h0.get? sysModules).isSome=true
structure Ev (γ:Gh) (h:Heap) (γ':Gh) (h':Heap):Prop where
 fro:fo γ h γ' h'
 oth:∀ a o,γ.role a=.other->h.get? a=some o->γ'.role a=.other/\h'.get? a=some o
 own:∀ a o i,γ.role a=.own i->h.get? a=some o->γ'.role a=.own i/\h'.get? a=some o
 gn:γ.gn<=γ'.gn
 ga:∀ n,n < γ.gn->γ'.ga n=γ.ga n
section
variable {P:Pm}{γ γ' γ₁:Gh}{h h' h₁:Heap}{g:G}
theorem fo.refl:fo γ h γ h:=λzz zz a b=>⟨a,b⟩
theorem fo.trans (a:fo γ h γ' h') (b:fo γ' h' γ₁ h₁):fo γ h γ₁ h₁:=λx o r e=>b x o (a x o r e).1 (a x o r e).2
theorem Ev.refl:Ev γ h γ h:=⟨.refl,λzz zz a b=>⟨a,b⟩,λzz zz zz a b=>⟨a,b⟩,ak _,λzz zz=>rfl⟩
theorem Ev.trans (a:Ev γ h γ' h') (b:Ev γ' h' γ₁ h₁):Ev γ h γ₁ h₁:=
 ⟨a.fro.trans b.fro,λx o r e=>b.oth x o (a.oth x o r e).1 (a.oth x o r e).2,λx o i r e=>b.own x o i (a.own x o i r e).1 (a.own x o i r e).2,
  aj a.gn b.gn,λn hn=>(b.ga n (br hn a.gn)).trans (a.ga n hn)⟩
theorem bM.ev (f:Ev γ h γ' h') {v:V}{x:Value}(r:bM P γ h v x):bM P γ' h' v x:=r.mono f.fro f.gn f.ga
theorem bI.ev (f:Ev γ h γ' h') {v:List V}{x:List Value}(r:bI P γ h v x):bI P γ' h' v x:=r.mono f.fro f.gn f.ga
end
section
variable {P:Pm}{γ:Gh}{h:Heap}{g:G}
noncomputable def Gh.put (γ:Gh) (a:Addr) (r:cQ):Gh:={ γ with role:=λb=>if b=a then r else γ.role b }
theorem cz {a:Addr}{r:cQ}:(γ.put a r).role a=r:=if_pos rfl
theorem bK {a b:Addr}{r:cQ}(hb:b≠a):(γ.put a r).role b=γ.role b:=if_neg hb
theorem dm (h:Heap):h.get? h.objs.size=none:=by
 cases e:h.get? h.objs.size with
 | none=>rfl
 | some o=>exact absurd (Heap.lt_size e) (Nat.lt_irrefl _)
theorem cT {a:Addr}{o:Obj}(e:h.get? a=some o):a≠h.objs.size:=Nat.ne_of_lt (Heap.lt_size e)
theorem bP.role_new (I:bP P γ h g):γ.role h.objs.size=.other:=by
 cases e:γ.role h.objs.size with
 | other=>rfl
 | _=>have:=I.wf h.objs.size (by rw [e]; exact λq=>nomatch q); rw [dm] at this; cases this
theorem Ev.push (I:bP P γ h g) (o:Obj) (r:cQ):Ev γ h (γ.put h.objs.size r) (h.push o):=by
 refine ⟨λa x hr e=>?_,λa x hr e=>?_,λa x i hr e=>?_,ak _,λzz zz=>rfl⟩ <;>
  exact ⟨by rw [bK (cT e)]; exact hr,ag o e⟩
theorem PlainList.push {a:Addr}{its:Array Value}(x:h.PlainList a its) (o:Obj):(h.push o).PlainList a its:=let ⟨n,e⟩:=x; ⟨n,ag o e⟩
theorem bT.glob {γ':Gh}{h':Heap}(f:fo γ h γ' h') (hg:γ.gn<=γ'.gn) (hga:∀ n,n < γ.gn->γ'.ga n=γ.ga n) {r:cQ}(k:∀ a o,γ.role a=r->h.get? a=some o->γ'.role a=r/\h'.get? a=some o)
  {sl:bN}{x:Value}(q:bT P γ h r sl x):bT P γ' h' r sl x:=by
 cases sl with
 | val v=>exact bM.mono f hg hga q
 | ol xs=>
  obtain ⟨a,its,q1,ro,⟨n,e⟩,q⟩:=q
  exact ⟨a,its,q1,(k a _ ro e).1,⟨n,(k a _ ro e).2⟩,q.mono f hg hga⟩
 | od ks vs=>
  obtain ⟨a,kx,vx,e,ro,X,r1,r2⟩:=q
  have r1:=r1.mono f hg hga
  have X:=X.to (λo=>k a o ro) r1.toK
  exact ⟨a,kx,vx,e,X.1,X.2,r1,r2.mono f hg hga⟩
theorem bT.ev {γ':Gh}{h':Heap}(f:Ev γ h γ' h') {i:Nat}{sl:bN}{x:Value}(r:bT P γ h (.own i) sl x):bT P γ' h' (.own i) sl x:=r.glob f.fro f.gn f.ga λa o=>f.own a o i
theorem gK.keep {γ':Gh}{h':Heap}{n:Nat}{ob:mR}(f:fo γ h γ' h') (hg:γ.gn<=γ'.gn) (hga:∀ n,n < γ.gn->γ'.ga n=γ.ga n) (hn:n < γ.gn)
  (k:∀ a o t,γ.role a=.glob n t->h.get? a=some o->γ'.role a=.glob n t/\h'.get? a=some o) (q:gK P γ h n ob):gK P γ' h' n ob:=by
 cases ob with
 | lst xs=>
  obtain ⟨its,ro,⟨m,e,e'⟩,q⟩:=q
  have e:=k _ _ _ ro e
  exact ⟨its,(hga n hn).symm ▸ e.1,(hga n hn).symm ▸ ⟨m,e.2,e'⟩,q.mono f hg hga⟩
 | inst c slots=>
  obtain ⟨d,vx,ro,rd,hl,⟨e1,es,m,e2,en⟩,⟨hs,q⟩⟩:=q
  have e1:=k _ _ _ ro e1
  have e2:=k _ _ _ rd e2
  exact ⟨d,vx,(hga n hn).symm ▸ e1.1,e2.1,hl,⟨(hga n hn).symm ▸ e1.2,es,m,e2.2,en⟩,hs,λi sl x h1 h2=>(q i sl x h1 h2).glob f hg hga λa o=>k a o _⟩
theorem qr.keep {γ':Gh}{h':Heap}(t:qr P γ h) (f:fo γ h γ' h') (kt:∀ o,γ.role P.tab=.tab->h.get? P.tab=some o->γ'.role P.tab=.tab/\h'.get? P.tab=some o):qr P γ' h':=by
 obtain ⟨r,ps,e,ok,q⟩:=t
 refine ⟨(kt _ r e).1,ps,(kt _ r e).2,ok,q.imp id λ⟨c,a,b,d⟩=>?_⟩
 obtain ⟨c',o,vs,t,e1,e2,e3⟩:=d
 have f:=f c o b (Value.ref.inj e1 ▸ e2)
 exact ⟨c,a,f.1,c',o,vs,t,e1,Value.ref.inj e1 ▸ f.2,e3⟩
theorem bP.keepT {γ':Gh}{h':Heap}(I:bP P γ h g) (f:fo γ h γ' h') (hg:γ'.gn=γ.gn) (hga:∀ n,n < γ.gn->γ'.ga n=γ.ga n) (wf:∀ a,γ'.role a≠.other->(h'.get? a).isSome=true)
  (k:∀ a o n t,γ.role a=.glob n t->h.get? a=some o->γ'.role a=.glob n t/\h'.get? a=some o)
  (ko:∀ a o,(P.h0.get? a).isSome=true->γ.role a=.other->h.get? a=some o->γ'.role a=.other/\h'.get? a=some o)
  (kt:qr P γ' h'):bP P γ' h' g where
 gn:=hg.trans I.gn
 wf:=wf
 objs:=λn ob e=>(I.objs n ob e).keep f (Nat.le_of_eq hg.symm) hga (by rw [I.gn]; exact (aA.mp e).1) λa o t=>k a o n t
 base:=λa o e=>by
  obtain ⟨r,q⟩:=I.base a o e
  rcases r with r | r
  ·obtain ⟨r',q'⟩:=ko a o (by rw [e]; rfl) r q
   exact ⟨.inl r',q'⟩
  ·obtain ⟨r',q'⟩:=f a o r q
   exact ⟨.inr r',q'⟩
 tab:=kt
 sys:=by
  obtain ⟨r,i⟩:=I.sys
  obtain ⟨o,ho⟩:=aq.mp i
  exact ⟨(ko _ o i r (I.base _ o ho).2).1,i⟩
theorem bP.keep {γ':Gh}{h':Heap}(I:bP P γ h g) (f:fo γ h γ' h') (hg:γ'.gn=γ.gn) (hga:∀ n,n < γ.gn->γ'.ga n=γ.ga n) (wf:∀ a,γ'.role a≠.other->(h'.get? a).isSome=true)
  (k:∀ a o n t,γ.role a=.glob n t->h.get? a=some o->γ'.role a=.glob n t/\h'.get? a=some o)
  (ko:∀ a o,(P.h0.get? a).isSome=true->γ.role a=.other->h.get? a=some o->γ'.role a=.other/\h'.get? a=some o)
  (kt:∀ o,γ.role P.tab=.tab->h.get? P.tab=some o->γ'.role P.tab=.tab/\h'.get? P.tab=some o):bP P γ' h' g:=
 I.keepT f hg hga wf k ko (I.tab.keep f kt)
theorem bP.push (I:bP P γ h g) (o:Obj) (hf:o.isFreed=false) (r:cQ) (hr:∀ n t,r≠.glob n t):bP P (γ.put h.objs.size r) (h.push o) g:=by
 refine I.keep (Ev.push I o r).fro rfl (λzz zz=>rfl) (λa ha=>?_) (λa x n t hro e=>⟨by rw [bK (cT e)]; exact hro,ag o e⟩)
  (λa x zz hro e=>⟨by rw [bK (cT e)]; exact hro,ag o e⟩) (λx hro e=>⟨by rw [bK (cT e)]; exact hro,ag o e⟩)
 by_cases hs:a=h.objs.size
 ·rw [hs,ah h hf]; rfl
 ·rw [bK hs] at ha
  obtain ⟨x,hx⟩:=aq.mp (I.wf a ha)
  rw [ag o hx]; rfl
end
noncomputable abbrev pj:=List (Str × Nat)
def dy (env:Env) (h:Heap) (x:Str) (v:Value):Prop:=
 (env.kindOf x=some .local/\∃ m,h.Ns env.locals m/\m x=some v) \/
 ((env.kindOf x=some .cell\/env.kindOf x=some .free)/\(x == ("__classdict__":Str))=false/\∃ c,env.cells.lookup x=some c/\h.IsCell c (some v))
section
variable {P:Pm}{γ γ':Gh}{h h':Heap}{env:Env}
theorem Ns.keep {a:Addr}{m:Str->Option Value}(x:h.Ns a m) (k:∀ o,h.get? a=some o->h'.get? a=some o):h'.Ns a m:=let ⟨o,es,ep,ho,r⟩:=x; ⟨o,es,ep,k o ho,r⟩
theorem IsCell.keep {c:Addr}{v:Option Value}(x:h.IsCell c v) (k:∀ o,h.get? c=some o->h'.get? c=some o):h'.IsCell c v:=let ⟨o,ho,r⟩:=x; ⟨o,k o ho,r⟩
theorem Ev.ns (f:Ev γ h γ' h') {a:Addr}{m:Str->Option Value}(r:γ.role a=.other) (x:h.Ns a m):γ'.role a=.other/\h'.Ns a m:=by
 obtain ⟨o,es,ep,ho,q⟩:=x
 exact ⟨(f.oth a o r ho).1,o,es,ep,(f.oth a o r ho).2,q⟩
theorem Ev.cell (f:Ev γ h γ' h') {c:Addr}{v:Option Value}(r:γ.role c=.other) (x:h.IsCell c v):γ'.role c=.other/\h'.IsCell c v:=by
 obtain ⟨o,ho,q⟩:=x
 exact ⟨(f.oth c o r ho).1,o,(f.oth c o r ho).2,q⟩
theorem dy.ev (f:Ev γ h γ' h') (r1:γ.role env.locals=.other) (r2:∀ x c,env.cells.lookup x=some c->γ.role c=.other) {x:Str}{v:Value}(q:dy env h x v):dy env h' x v:=by
 rcases q with ⟨a,m,b,d⟩ | ⟨a,n,c,b,d⟩
 ·exact .inl ⟨a,m,(f.ns r1 b).2,d⟩
 ·exact .inr ⟨a,n,c,b,(f.cell (r2 x c b) d).2⟩
theorem cS {M:Model}{A:Around}{Q:Value->Shared->Prop}{Ex:Value->Shared->Prop}{s:Shared}{x:Str}{v:Value}(hk:env.scope.kind=.function) (r:dy env s.heap x v) (q:Q v s):wpAny M A (loadName env x) Q Ex s:=by
 rcases r with ⟨a,m,b,d⟩ | ⟨a,n,c,b,d⟩
 ·exact wpAny_loadName_local hk a b d q
 ·rcases a with a | a
  ·exact wpAny_loadName_cell hk a b d q
  ·exact wpAny_loadName_free hk a b d q n
end
def KE (P:Pm) (γ:Gh) (s:Shared) (v:V) (g':G) (Q:Value->Shared->Prop):Prop:=∀ x γ' h' tk,Ev γ s.heap γ' h'->bP P γ' h' g'->bM P γ' h' v x->Q x (Sh s h' tk)
def cb (P:Pm) (A:Around) (t:Sem Value) (γ:Gh) (s:Shared) (v:V) (g':G):Prop:=∀ (Q Ex:Value->Shared->Prop),KE P γ s v g' Q->wpAny (model P.prog P.w) A t Q Ex s
theorem cb.of {P:Pm}{A:Around}{t:Sem Value}{γ:Gh}{s:Shared}{v v1:V}{g1 g':G}(e:some (v1,g1)=some (v,g')) (k:cb P A t γ s v1 g1):cb P A t γ s v g':=by
 cases e; exact k
theorem cb.v {P:Pm}{A:Around}{t:Sem Value}{γ:Gh}{s:Shared}{v v1:V}{g':G}(e:some v1=some v) (k:cb P A t γ s v1 g'):cb P A t γ s v g':=by
 cases e; exact k
theorem cb.of' {P:Pm}{A:Around}{t:Sem Value}{γ:Gh}{s:Shared}{v v1:V}{g1 g':G}(k:cb P A t γ s v1 g1) (e:some (v1,g1)=some (v,g')):cb P A t γ s v g':=cb.of e k
theorem cb.v' {P:Pm}{A:Around}{t:Sem Value}{γ:Gh}{s:Shared}{v v1:V}{g':G}(k:cb P A t γ s v1 g') (e:some v1=some v):cb P A t γ s v g':=cb.v e k
theorem bM.tup {P:Pm}{γ:Gh}{h:Heap}{v:V}{x:Value}{l:List V}(r:bM P γ h v x) (e:ez v=some l):bM P γ h (.tup l) x:=by rw [← dq e]; exact r
theorem bM.lst {P:Pm}{γ:Gh}{h:Heap}{v:V}{x:Value}{l:List V}(r:bM P γ h v x) (e:lH v=some l):bM P γ h (.lst l) x:=by rw [← iE e]; exact r
theorem bM.int {P:Pm}{γ:Gh}{h:Heap}{v:V}{x:Value}{l:Int}(r:bM P γ h v x) (e:c6 v=some l):bM P γ h (.int l) x:=by rw [← cH e]; exact r
section
variable {P:Pm}{γ:Gh}{h:Heap}
inductive C7 (P:Pm) (γ:Gh) (h:Heap) (l:List V):Value->Prop
 | mk {a:Addr}{its:Array Value}(ro:γ.role a=.frozen) (ti:h.IsTuple a its) (li:bI P γ h l its.toList):C7 P γ h l (.ref a)
theorem bM.tupI {l:List V}{x:Value}(r:bM P γ h (.tup l) x):C7 P γ h l x:=by
 obtain ⟨a,its,rfl,ro,ti,li⟩:=r
 exact .mk ro ti li
inductive CR (P:Pm) (γ:Gh) (h:Heap) (l:List V):Value->Prop
 | mk {a:Addr}{its:Array Value}(ro:γ.role a=.frozen) (ti:h.PlainList a its) (li:bI P γ h l its.toList):CR P γ h l (.ref a)
theorem bM.lstI {l:List V}{x:Value}(r:bM P γ h (.lst l) x):CR P γ h l x:=by
 obtain ⟨a,its,rfl,ro,ti,li⟩:=r
 exact .mk ro ti li
inductive Aq (P:Pm) (γ:Gh) (h:Heap) (v:V) (vs:List V):List Value->Prop
 | mk {x:Value}{xs:List Value}(rx:bM P γ h v x) (rs:bI P γ h vs xs):Aq P γ h v vs (x::xs)
theorem bI.consI {v:V}{vs:List V}{xs:List Value}(r:bI P γ h (v::vs) xs):Aq P γ h v vs xs:=by
 obtain ⟨x,xs,rfl,a,b⟩:=r
 exact .mk a b
inductive C6 (P:Pm) (γ:Gh) (h:Heap) (v:V):List Value->Prop
 | mk {x:Value}(rx:bM P γ h v x):C6 P γ h v [x]
theorem bI.oneI {v:V}{xs:List Value}(r:bI P γ h [v] xs):C6 P γ h v xs:=by
 obtain ⟨x,xs,rfl,a,rfl⟩:=r
 exact .mk a
inductive B2 (P:Pm) (γ:Gh) (h:Heap) (u v:V):List Value->Prop
 | mk {x y:Value}(rx:bM P γ h u x) (ry:bM P γ h v y):B2 P γ h u v [x,y]
theorem bI.twoI {u v:V}{xs:List Value}(r:bI P γ h [u,v] xs):B2 P γ h u v xs:=by
 obtain ⟨x,xs,rfl,a,y,xs,rfl,b,rfl⟩:=r
 exact .mk a b
inductive z9 (P:Pm) (γ:Gh) (h:Heap) (u v:V):Value->Prop
 | mk {a:Addr}{its:Array Value}{x y:Value}(ro:γ.role a=.frozen) (ti:h.IsTuple a its) (e:its.toList=[x,y]) (rx:bM P γ h u x) (ry:bM P γ h v y):z9 P γ h u v (.ref a)
theorem bM.pairI {u v:V}{x:Value}(r:bM P γ h (.tup [u,v]) x):z9 P γ h u v x:=by
 obtain ⟨a,its,rfl,ro,ti,x,r,e,rx,y,r',rfl,ry,rfl⟩:=r
 exact .mk ro ti e rx ry
end
theorem sz (n:Nat) (h:n<=lim):n<=sizeLine:=by rw [sizeLine_eq]; unfold lim at h; lia
noncomputable abbrev kM (xs:List Value):Obj:={ cls:=.type "tuple",data:=.seq xs.toArray }
noncomputable abbrev gI (xs:List Value):Obj:={ cls:=.type "list",data:=.seq xs.toArray }
section
variable {P:Pm}{γ:Gh}{h:Heap}{g:G}
theorem fh (I:bP P γ h g) {vs:List V}{xs:List Value}(r:bI P γ h vs xs):
  Ev γ h (γ.put h.objs.size .frozen) (h.push (kM xs))/\bP P (γ.put h.objs.size .frozen) (h.push (kM xs)) g/\bM P (γ.put h.objs.size .frozen) (h.push (kM xs)) (.tup vs) (.ref h.objs.size):=by
 refine ⟨Ev.push I _ _,I.push _ rfl _ (λn t e=>nomatch e),?_⟩
 exact ⟨_,xs.toArray,rfl,cz,⟨_,ah _ rfl,rfl,0,rfl⟩,r.ev (Ev.push I _ _)⟩
theorem jp (I:bP P γ h g) {vs:List V}{xs:List Value}(r:bI P γ h vs xs):
  Ev γ h (γ.put h.objs.size .frozen) (h.push (gI xs))/\bP P (γ.put h.objs.size .frozen) (h.push (gI xs)) g/\bM P (γ.put h.objs.size .frozen) (h.push (gI xs)) (.lst vs) (.ref h.objs.size):=by
 refine ⟨Ev.push I _ _,I.push _ rfl _ (λn t e=>nomatch e),?_⟩
 exact ⟨_,xs.toArray,rfl,cz,⟨0,ah _ rfl⟩,r.ev (Ev.push I _ _)⟩
end
section
variable {P:Pm}{A:Around}{γ:Gh}{s:Shared}{g:G}{t:Sem Value}{v:V}
theorem nA (I:bP P γ s.heap g) (x:Value) (k:Nat) (r:bM P γ s.heap v x) (h:∀ (Q Ex:Value->Shared->Prop),Q x { s with toks:=k }->wpAny (model P.prog P.w) A t Q Ex s):cb P A t γ s v g:=
 λQ Ex q=>h Q Ex (q x γ s.heap k .refl I r)
theorem gC (I:bP P γ s.heap g) (x:Value) (r:bM P γ s.heap v x) (h:∀ (Q Ex:Value->Shared->Prop),Q x s->wpAny (model P.prog P.w) A t Q Ex s):cb P A t γ s v g:=
 λQ Ex q=>h Q Ex (q x γ s.heap s.toks .refl I r)
theorem BM (I:bP P γ s.heap g) {vs:List V}{xs:List Value}(r:bI P γ s.heap vs xs) (k:Nat)
  (h:∀ (Q Ex:Value->Shared->Prop),Q (.ref s.heap.objs.size) (Sh s (s.heap.push (kM xs)) k)->wpAny (model P.prog P.w) A t Q Ex s):cb P A t γ s (.tup vs) g:=
 λQ Ex q=>h Q Ex (q _ _ _ k (fh I r).1 (fh I r).2.1 (fh I r).2.2)
theorem jF (I:bP P γ s.heap g) {vs:List V}{xs:List Value}(r:bI P γ s.heap vs xs) (k:Nat)
  (h:∀ (Q Ex:Value->Shared->Prop),Q (.ref s.heap.objs.size) (Sh s (s.heap.push (gI xs)) k)->wpAny (model P.prog P.w) A t Q Ex s):cb P A t γ s (.lst vs) g:=
 λQ Ex q=>h Q Ex (q _ _ _ k (jp I r).1 (jp I r).2.1 (jp I r).2.2)
end
noncomputable def Bu:BK->Operator
 | .add=>.Add | .sub=>.Sub | .mul=>.Mult | .fdiv=>.FloorDiv | .mod=>.Mod
section
variable {prog:Program}{w:World}{A:Around}{E:Value->Shared->Prop}{s:Shared}
theorem sA {t b:Addr}{vs ws:List Value}{Q:Value->Shared->Prop}(ht:s.heap.IsTuple t vs.toArray) (hb:s.heap.IsTuple b ws.toArray)
  (h0:vs=[]->Q (.ref b) s) (h1:vs≠[]->ws=[]->Q (.ref t) s) (h2:vs≠[]->ws≠[]->Q (.ref s.heap.objs.size) (ey s (s.heap.push (kM (vs++ws)))))
  (hsz:vs.length+ws.length<=sizeLine):wpAny (model prog w) A (binaryOp .Add (.ref t) (.ref b)) Q E s:=by
 obtain ⟨⟨cls,dd,data,sl⟩,ho,hc,n,hd⟩:=id ht
 obtain ⟨⟨cls2,dd2,data2,sl2⟩,ho2,hc2,n2,hd2⟩:=id hb
 simp only at hc hd hc2 hd2
 clear hb ht
 subst hc hd hc2 hd2
 by_cases hv:vs=[]
 ·exact concat_meets ⟨_,ho,rfl⟩ ⟨_,ho2,rfl⟩ noFill_tuple_add seq_tuple_add PySem.F.slot_tuple_add PySem.F.entry_tuple_add (PySem.F.args_tuple_add_2 _ _)
   (tuple_addW0 t b vs.toArray ws.toArray n n2 dd dd2 sl sl2 (by simp [hv])) ⟨ho,ho2,h0 hv⟩
 ·by_cases hw:ws=[]
  ·exact concat_meets ⟨_,ho,rfl⟩ ⟨_,ho2,rfl⟩ noFill_tuple_add seq_tuple_add PySem.F.slot_tuple_add PySem.F.entry_tuple_add (PySem.F.args_tuple_add_2 _ _)
    (tuple_addW1 t b vs.toArray ws.toArray n n2 dd dd2 sl sl2 (by simpa using hv) (by simp [hw])) ⟨ho,ho2,h1 hv hw⟩
  ·refine concat_meets ⟨_,ho,rfl⟩ ⟨_,ho2,rfl⟩ noFill_tuple_add seq_tuple_add PySem.F.slot_tuple_add PySem.F.entry_tuple_add (PySem.F.args_tuple_add_2 _ _)
    (tuple_addW2 t b vs.toArray ws.toArray n n2 dd dd2 sl sl2 (by simpa using hv) (by simpa using hw) (by rw [List.size_toArray,List.size_toArray]; exact hsz)) ⟨ho,ho2,?_⟩
   rw [show vs.toArray++ws.toArray=(vs++ws).toArray by simp]
   exact h2 hv hw
theorem rI {l b:Addr}{vs ws:List Value}{Q:Value->Shared->Prop}(hl:s.heap.IsList l vs.toArray) (hb:s.heap.IsList b ws.toArray)
  (h:Q (.ref s.heap.objs.size) (ey s (s.heap.push (gI (vs++ws)))))
  (hsz:vs.length+ws.length<=sizeLine):wpAny (model prog w) A (binaryOp .Add (.ref l) (.ref b)) Q E s:=by
 obtain ⟨⟨cls,dd,data,sl⟩,ho,hc,n,hd⟩:=id hl
 obtain ⟨⟨cls2,dd2,data2,sl2⟩,ho2,hc2,n2,hd2⟩:=id hb
 simp only at hc hd hc2 hd2
 clear hb hl
 subst hc hd hc2 hd2
 refine concat_meets ⟨_,ho,rfl⟩ ⟨_,ho2,rfl⟩ noFill_list_add seq_list_add PySem.F.slot_list_add PySem.F.entry_list_add (PySem.F.args_list_add_2 _ _) (list_addW l b vs.toArray ws.toArray n n2 dd dd2 sl sl2 (by simpa using hsz)) ⟨ho,ho2,?_⟩
 rw [show vs.toArray++ws.toArray=(vs++ws).toArray by simp]
 exact h
end
theorem jk (xs:Array Value):xs=xs.toList.toArray:=by simp
section
variable {P:Pm}{A:Around}{γ:Gh}{s:Shared}{g:G}
theorem vH {a:Int}(h:o9 a=true):Builtin.Int.intBits a<=64:=by
 simp only [o9,decide_eq_true_eq] at h
 exact intBits_le_64 (by omega) (by omega)
theorem B7 {A:Around}{t:Sem Value}{v:V}{g':G}{γ':Gh}{h':Heap}{tk:Nat}{x:Value}(f:Ev γ s.heap γ' h') (I:bP P γ' h' g') (r:bM P γ' h' v x)
  (h:∀ (Q Ex:Value->Shared->Prop),Q x (Sh s h' tk)->wpAny (model P.prog P.w) A t Q Ex s):cb P A t γ s v g':=
 λQ Ex q=>h Q Ex (q x γ' h' tk f I r)
theorem g8 {a b c:V}{x y:Value}{h:Heap}{f:Int->Int->Option V}(e:((c6 a).bind λi=>(c6 b).bind λj=>f i j)=some c) (r1:bM P γ h a x) (r2:bM P γ h b y):
  ∃ i t j u,x=.int i t/\y=.int j u/\f i j=some c:=by
 refine cu e λi e1=>?_
 clear e
 intro e
 refine cu e λj e2=>?_
 clear e
 intro e
 rw [cH e1] at r1
 rw [cH e2] at r2
 obtain ⟨t,q1⟩:=r1
 obtain ⟨u,q2⟩:=r2
 exact ⟨i,t,j,u,q1,q2,e⟩
theorem gm (I:bP P γ s.heap g) {t:Sem Value}{i:Int}{k:Nat}(h:∀ (Q Ex:Value->Shared->Prop),Q (.int i s.toks) { s with toks:=k }->wpAny (model P.prog P.w) A t Q Ex s):cb P A t γ s (.int i) g:=nA I _ _ ⟨_,rfl⟩ h
theorem uc {vs:List V}{xs:List Value}{h:Heap}(r:bI P γ h vs xs) (e:xs=[]):vs=[]:=ba.mp (r.length.symm.trans (congrArg List.length e))
theorem xT {op:BK}{a b c:V}{x y:Value}(e:mz op a b=some c) (I:bP P γ s.heap g) (r1:bM P γ s.heap a x) (r2:bM P γ s.heap b y):cb P A (binaryOp (Bu op) x y) γ s c g:=by
 cases op with
 | add=>cases a with
  | int i=>
   refine cu e λj e1=>?_
   clear e
   intro e
   rw [cH e1] at r2
   cases e
   obtain ⟨t1,rfl⟩:=r1
   obtain ⟨t2,rfl⟩:=r2
   exact gm I λQ Ex q=>wpAny_add_int q
  | tup us=>
   refine cu e λws e1=>?_
   clear e
   intro e
   rw [dq e1] at r2
   refine bU e λhl=>?_
   clear e
   intro e
   cases e
   obtain ⟨i,its,rfl,ri,ti,li⟩:=r1
   obtain ⟨j,jts,rfl,rj,tj,lj⟩:=r2
   intro Q Ex q
   have N:=fh I (li.append lj)
   refine sA (jk its ▸ ti) (jk jts ▸ tj) (λe0=>?_) (λzz e0=>?_) (λzz zz=>q _ _ _ s.toks N.1 N.2.1 N.2.2) (by rw [li.length,lj.length]; exact sz _ hl)
   ·rw [uc li e0] at q
    exact q _ γ _ s.toks .refl I ⟨j,jts,rfl,rj,tj,lj⟩
   ·rw [uc lj e0,bA] at q
    exact q _ γ _ s.toks .refl I ⟨i,its,rfl,ri,ti,li⟩
  | lst us=>
   refine cu e λws e1=>?_
   clear e
   intro e
   rw [iE e1] at r2
   refine bU e λhl=>?_
   clear e
   intro e
   cases e
   obtain ⟨i,its,rfl,ri,ti,li⟩:=r1
   obtain ⟨j,jts,rfl,rj,tj,lj⟩:=r2
   exact jF I (li.append lj) s.toks λQ Ex q=>rI (jk its ▸ ti.isList) (jk jts ▸ tj.isList) q (by rw [li.length,lj.length]; exact sz _ hl)
  | _=>exact no e
 | sub=>
  obtain ⟨i,t,j,u,rfl,rfl,e⟩:=g8 e r1 r2
  cases e
  exact gm I λQ Ex q=>PyProof.Rows.sub_int q
 | mul=>
  refine cu e λn e1=>?_
  clear e
  intro e
  rw [cH e1] at r2
  clear e1
  obtain ⟨u,rfl⟩:=r2
  cases a with
  | int i=>
   refine bU e λhb=>?_
   clear e
   intro e
   cases e
   obtain ⟨t1,rfl⟩:=r1
   exact gm I λQ Ex q=>PyProof.Rows.mul_int q (.of_left (vH hb.1))
  | lst us=>
   refine bU e λhb=>?_
   clear e
   intro e
   cases e
   obtain ⟨i,its,rfl,ri,⟨k,ti⟩,li⟩:=r1
   have hsz:its.size=1:=by rw [← aM,li.length,hb.1]
   have hne:its.isEmpty=false:=by show decide (its.size=0)=false; rw [hsz]; rfl
   have hrep:∀ Q Ex:Value->Shared->Prop,Q (.ref s.heap.objs.size) (ey s (s.heap.push { cls:=.type "list",data:=.seq (List.foldl (λx1 x2=>x1++x2) #[] (List.replicate (if its.isEmpty=true then 0 else n.toNat) its)) })) ->
     wpAny (model P.prog P.w) A (binaryOp .Mult (.ref i) (.int n u)) Q Ex s:=λQ Ex q=>
    wpAny_binaryOp_repeat_ref (T:="list") (U:="int") (by decide) ⟨_,ti,rfl⟩ (λs'=>typeIs_int s' n u) noFill_list_mul PySem.F.fills_int_mul PySem.F.slot_int_rmul repeat_list PySem.F.slot_int_index.lookup
     (call_meets PySem.F.slot_int_rmul (typeIs_int s n u) PySem.F.entry_int_rmul (PySem.F.args_int_rmul_2 _ _) (int___rmul___int_list n u i its k)
      ⟨ti,rfl,⟨_,ti,rfl⟩,call_meets PySem.F.slot_list_mul ⟨_,ti,rfl⟩ PySem.F.entry_list_mul (PySem.F.args_list_mul_2 _ _)
       (AutoListH.list___mul___list_int_3 i its k n u (by simp [Builtin.List.listFitsIndex]; omega) (by rw [hsz]; lia) (by simp [Builtin.List.listTooLong,sizeLine,hsz]; omega)) ⟨ti,q⟩⟩)
   rw [hne] at hrep
   by_cases h1:n=1
   ·clear hne hsz ri ti
    subst h1
    exact jF I li s.toks λQ Ex q=>hrep Q Ex (by simpa [Sh,ey] using q)
   ·have h0:n=0:=by lia
    clear hne hsz li ri ti
    subst h0
    exact jF I .nil s.toks λQ Ex q=>hrep Q Ex q
  | _=>exact no e
 | fdiv=>
  obtain ⟨i,t,j,u,rfl,rfl,e⟩:=g8 e r1 r2
  refine bU e λhb=>?_
  clear e
  intro e
  cases e
  exact gm I λQ Ex q=>PyProof.Rows.floordiv_int (Int.ne_of_gt hb.2.1) q (.inl (PyProof.noPylong_small (by omega)))
 | mod=>
  obtain ⟨i,t,j,u,rfl,rfl,e⟩:=g8 e r1 r2
  refine bU e λhb=>?_
  clear e
  intro e
  clear r1 r2
  cases e
  exact gm I λQ Ex q=>PyProof.Rows.mod_int' (Int.ne_of_gt hb) q
end
section
variable {P:Pm}{A:Around}{γ:Gh}{s:Shared}{g:G}
theorem eX {prog:Program}{w:World}{E:Value->Shared->Prop}{value slice:Expr}{o i:Value}{T id:String}{Q:Value->Shared->Prop}(hT:s.TypeIs o T)
  (hl:typeLookup (.type T) "__getitem__"=pure (some (.builtin id))) (hs:∃ ops,subscripted slice false o i=operate ops (getItem o i)) (h:wpAny (model prog w) A (getItem o i) Q E s):
  wpAny (model prog w) A (subscriptTail value slice o i) Q E s:=by
 obtain ⟨ops,hs⟩:=hs
 unfold subscriptTail
 refine ad ?_
 rw [getitemInPython_of_ne hT.not_modules]
 refine ad (wpAny_specialOf hT hl ?_)
 have eQ:wpAny (model prog w) A (subscripted slice false o i) (λr s₃=>wpAny (model prog w) A (letTemporaryGo value o r >>= λzz=>pure r) Q E s₃) E s:=by
  rw [hs]
  exact wpAny_operating (wpAny_mono h (λr s₃ h₃=>ad (wpAny_letTemporaryGo (af h₃))) λzz zz x=>x)
 first
  | exact af (ad eQ)
  | exact ad (af (ad eQ))
  | exact ad eQ
def eZ (e:Expr):Prop:=∀ o i,subscripted e false o i=operate [o,i] (getItem o i)
theorem rW {k:Int}(h:0<=k/\k < lim):0<=k/\k < 2 ^ 63:=by simp only [lim] at h; omega
theorem i9 {k:Int}{n:Nat}(h:0<=k) (hn:k.toNat < n):seqIndex? k n=some k.toNat:=by
 unfold seqIndex?
 rw [if_neg (Int.not_lt.mpr h)]
 exact if_pos (by simp; omega)
theorem bP.lstAt (I:bP P γ s.heap g) {n:Nat}{xs:List V}(e:yS g n=some xs):∃ its,γ.role (γ.ga n)=.glob n 0/\s.heap.IsList (γ.ga n) its/\bI P γ s.heap xs its.toList:=by
 refine cu e λo e q=>?_
 cases o with
 | lst ys=>rw [av q] at e; exact I.objs n _ e
 | inst=>exact no q
theorem t6 {value slice:Expr}{l:Addr}{xs:List V}{c:V}{its:Array Value}{k:Int}{u:Tok}(hs:eZ slice) (I:bP P γ s.heap g) (hl:s.heap.IsList l its) (li:bI P γ s.heap xs its.toList) (e:zM xs k=some c):cb P A (subscriptTail value slice (.ref l) (.int k u)) γ s c g:=by
 refine bU e λhk=>?_
 clear e
 intro e
 obtain ⟨z,hz,rz⟩:=li.get e
 exact gC I z rz λQ Ex q=>eX hl.typeIs slot_list_getitem.lookup ⟨_,hs _ _⟩ (wpAny_getItem_list hl hk.1 (rW hk).2 (by rw [← aK]; exact hz) q)
theorem yB {value slice:Expr}{a b c:V}{x y:Value}(e:Bp g a b=some c) (hs:eZ slice) (I:bP P γ s.heap g) (r1:bM P γ s.heap a x) (r2:bM P γ s.heap b y):cb P A (subscriptTail value slice x y) γ s c g:=by
 refine cu e λk e1=>?_
 clear e
 intro e
 rw [cH e1] at r2
 clear e1
 obtain ⟨u,rfl⟩:=r2
 cases a with
 | tup xs=>
  refine bU e λhk=>?_
  clear e
  intro e
  obtain ⟨i,its,rfl,ri,ti,li⟩:=r1
  obtain ⟨z,hz,rz⟩:=li.get e
  have hlt:=(aA.mp hz).1
  exact gC I z rz λQ Ex q=>eX ti.typeIs slot_tuple_getitem.lookup ⟨_,hs _ _⟩ (getItem_tuple ti (Int.le_trans (by decide) hk.1) (rW hk).2 (i9 hk.1 hlt) (by rw [← aK]; exact hz) q)
 | lst xs=>obtain ⟨i,its,rfl,ri,ti,li⟩:=r1; exact t6 hs I ti.isList li e
 | str t=>
  refine bU e λhk=>?_
  clear e
  intro e
  refine cu e λd hd=>?_
  clear e
  intro e
  cases e
  obtain ⟨v,rfl⟩:=r1
  exact nA I (.str ⟨#[d]⟩ s.toks) (s.toks+1) ⟨_,rfl⟩ λQ Ex q=>eX (typeIs_str s t v) PySem.F.slot_str_getitem.lookup ⟨_,hs _ _⟩ (PySem.P.getItem_str (by have:=rW hk; simp; omega) (by show (seqIndex? k t.cps.size).bind _=_; rw [i9 hk.1 (Array.getElem?_eq_some_iff.mp hd).1]; exact hd) q)
 | gl n=>
  refine cu e λxs hg=>?_
  clear e
  intro e
  obtain ⟨its,ro,ti,li⟩:=I.lstAt hg
  clear hg ro
  obtain ⟨rfl,zz⟩:=r1
  exact t6 hs I ti li e
 | _=>exact no e
theorem jf {prog:Program}{w:World}{E:Value->Shared->Prop}{v:Value}{k:Option Int}{Q:Option Int->Shared->Prop}(hv:IsPart v k) (h:Q k s):wpAny (model prog w) A (Builtin.Slice.slicePartIndex v) Q E s:=by
 cases hv with
 | none=>exact slicePart_none h
 | int i t=>exact slicePart_int h
theorem jj (a n:Nat):(if (a:Int) < 0 then max ((a:Int)+n) 0 else min (a:Int) n)=((min a n:Nat):Int):=by
 rw [if_neg (Int.not_lt.mpr (Int.natCast_nonneg a))]
 omega
theorem r9 (lo hi:Option Nat) (n:Nat):Builtin.Slice.sliceAdjust (lo.map Nat.cast) (hi.map Nat.cast) 1 (n:Int)=(((min (lo.getD 0) n:Nat):Int),((min (hi.getD n) n:Nat):Int)):=by
 cases lo with
 | none=>cases hi with
  | none=>show ((0:Int),(n:Int))=_; rw [Option.getD_none,Option.getD_none,Nat.zero_min,Nat.min_self]; rfl
  | some b=>exact Prod.ext (by rw [Option.getD_none,Nat.zero_min]; rfl) (jj b n)
 | some a=>cases hi with
  | none=>exact Prod.ext (jj a n) (by rw [Option.getD_none,Nat.min_self]; rfl)
  | some b=>exact Prod.ext (jj a n) (jj b n)
theorem rS (a b:Nat):Builtin.Slice.slicePlaces (a:Int) (b:Int) 1=b - a:=by
 show (if (a:Int) < b then ((b:Int) - a - 1) / 1+1 else 0).toNat=b - a
 rw [Int.ediv_one]
 split <;> lia
theorem kK {prog:Program}{w:World}{E:Value->Shared->Prop}{sl:Addr}{vl vu:Value}{lo hi:Option Nat}{n:Nat}{Q:Int × Int × Nat->Shared->Prop}(hs:s.heap.IsSliceOf sl vl vu .none) (pl:IsPart vl (lo.map Nat.cast)) (pu:IsPart vu (hi.map Nat.cast))
  (h:Q (((min (lo.getD 0) n:Nat):Int),1,min (hi.getD n) n - min (lo.getD 0) n) s):
  wpAny (model prog w) A (Builtin.Slice.sliceApplied (.ref sl) (pure (n:Int))) Q E s:=by
 obtain ⟨os,hos,hcs,hds⟩:=id hs
 unfold Builtin.Slice.sliceApplied Builtin.Slice.sliceFields
 refine ad (ad (bf hos hds (x:=vl) rfl (ad (bf hos hds (x:=vu) rfl (ad (bf hos hds (x:=.none) rfl (af ?_)))))))
 refine ad (slicePart_none ?_)
 show wpAny _ _ (if ((1:Int) == 0)=true then _ else _) _ _ s
 rw [if_neg (by decide)]
 refine ad (jf pl (ad (jf pu (ad (af ?_)))))
 show wpAny _ _ (match Builtin.Slice.sliceAdjust (lo.map Nat.cast) (hi.map Nat.cast) 1 (n:Int) with | (lo,hi)=>pure (lo,(1:Int),Builtin.Slice.slicePlaces lo hi 1)) _ _ s
 rw [r9 lo hi n]
 show wpAny _ _ (pure (_,(1:Int),Builtin.Slice.slicePlaces _ _ 1)) _ _ s
 rw [rS]
 exact af h
theorem xQ (xs:Array Value) (a c:Nat):((List.range c).filterMap λ(k:Nat)=>xs[((a:Int)+(k:Int) * 1).toNat]?).toArray=((xs.toList.drop a).take c).toArray:=by
 have e:(λ(k:Nat)=>xs[((a:Int)+(k:Int) * 1).toNat]?)=λk=>xs[a+k]?:=by
  funext k
  have:((a:Int)+(k:Int) * 1).toNat=a+k:=by lia
  rw [this]
 rw [e]
 have:=pick_run xs a c
 rw [List.filterMap_map] at this
 have e2:((λx=>xs[x]?)∘λx=>a+x)=λk=>xs[a+k]?:=rfl
 rw [e2] at this
 rw [this]
theorem oE {prog:Program}{w:World}{E:Value->Shared->Prop}{t sl:Addr}{items:Array Value}{vl vu:Value}{lo hi:Option Nat}{l:List Value}{Q:Value->Shared->Prop}(ht:s.heap.IsTuple t items) (hs:s.heap.IsSliceOf sl vl vu .none)
  (pl:IsPart vl (lo.map Nat.cast)) (pu:IsPart vu (hi.map Nat.cast)) (hsz:items.size<=sizeLine) (hl:(items.toList.drop (min (lo.getD 0) items.size)).take (min (hi.getD items.size) items.size - min (lo.getD 0) items.size)=l)
  (h:(l=items.toList->Q (.ref t) s)/\Q (.ref s.heap.objs.size) (ey s (s.heap.push (kM l)))):
  wpAny (model prog w) A (getItem (.ref t) (.ref sl)) Q E s:=by
 subst hl
 generalize hA:min (lo.getD 0) items.size=a at h
 generalize hC:min (hi.getD items.size) items.size - a=c at h
 have hle:((items.toList.drop a).take c).length<=items.size:=by rw [List.length_take,List.length_drop,aM]; omega
 have hdrop:sizeOk (.seq ((items.toList.drop a).take c).toArray):=by
  show ((items.toList.drop a).take c).toArray.size<=sizeLine
  rw [List.size_toArray]; lia
 obtain ⟨os,hos,hcs,hds⟩:=id hs
 have hTs:s.TypeIs (.ref sl) "slice":=⟨os,hos,hcs⟩
 unfold getItem
 try with_reducible refine aH ?_
 first | refine ad (af ?_) | skip
 refine ad (wpAny_sequenceKey ht.typeIs (by decide) ?_)
 refine ad (bc (name:=Str.ofString "__getitem__") ht.typeIs slot_tuple_getitem
  (aL slot_tuple_getitem ht.typeIs entry_tuple_getitem ?_ (args_tuple_getitem _ _)))
 show wpAny _ _ (Builtin.Tuple.tupleItemsOf (.ref t) >>= _) _ _ s
 refine ad (tupleItemsOf_ ht ?_)
 refine ad (wpAny_typeOf hTs ?_)
 rw [if_pos (by decide)]
 refine ad (kK hs pl pu ?_)
 rw [hA,hC]
 show wpAny _ _ (if ((a:Int) == 0 && (1:Int) == 1 && c == items.size)=true then _ else _) _ _ s
 by_cases hz:((a:Int) == 0 && (1:Int) == 1 && c == items.size)=true
 ·rw [if_pos hz]
  have hz':a=0/\c=items.size:=by simpa using hz
  obtain ⟨rfl,rfl⟩:=hz'
  have:=h.1 (by rw [List.drop_zero,List.take_of_length_le (by rw [aM]; exact ak _)])
  refine ad ?_
  unfold Builtin.Tuple.tupleIsExact
  refine ad (wpAny_typeOf ht.typeIs (af ?_))
  rw [if_pos (by decide)]
  exact ad (wpAny_rule (af ⟨_,rfl,af this⟩))
 ·rw [if_neg hz,xQ items a c]
  have:=h.2
  first
   | exact ad (m:=Builtin.Tuple.tupleExact _) (aV (af ⟨_,rfl,af this⟩) hdrop)
   | exact ad (m:=Builtin.Tuple.tupleExact _) (aV (ad (af (af ⟨_,rfl,af this⟩))) hdrop)
   | exact ad (ad (m:=Builtin.Tuple.tupleExact _) (aV (af (af ⟨_,rfl,af this⟩)) hdrop))
   | exact ad (ad (m:=Builtin.Tuple.tupleExact _) (aV (af ⟨_,rfl,af this⟩) hdrop))
end
noncomputable abbrev pn (l u:Value):Obj:={ cls:=.type "slice",data:=.fields #[l,u,.none] }
section
variable {P:Pm}{A:Around}{γ:Gh}{s:Shared}{g:G}
theorem sV {M:Model}{E:Value->Shared->Prop}{env:Env}{value:Expr}{lower upper:Option Expr}{p pos:Pos}{Q:Value->Shared->Prop}
  (h:wpAny M A (eval value env) (λo s₁=>wpAny M A (evalPart lower env) (λl s₂=>wpAny M A (evalPart upper env) (λu s₃=>
   wpAny M A (subscriptTail value (.Slice lower upper none p) o (.ref s₃.heap.objs.size)) Q E (ey s₃ (s₃.heap.push (pn l u)))) E s₂) E s₁) E s):
  wpAny M A (eval (.Subscript value (.Slice lower upper none p) pos) env) Q E s:=
 Subscript_ (wpAny_mono h (λo s₁ h₁=>wpAny_Slice (wpAny_mono h₁ (λl s₂ h₂=>wpAny_mono h₂ (λu s₃ h₃=>by
  rw [evalPart_none]; exact af h₃) λzz zz x=>x) λzz zz x=>x)) λzz zz x=>x)
inductive fP (P:Pm) (γ:Gh) (h:Heap):Option V->Value->Prop
 | none:fP P γ h Option.none Value.none
 | some {v:V}{x:Value}:bM P γ h v x->fP P γ h (Option.some v) x
theorem mI (x:Str):slicePicked x none (some (1,0)) none=List.range (min 1 x.length):=by
 show sliceRange 0 (max 0 (min 1 (x.length:Int))) 1=_
 have e:max 0 (min 1 (x.length:Int))=((min 1 x.length:Nat):Int):=by lia
 rw [e]
 have:=sliceRange_one 0 (min 1 x.length)
 simpa using this
abbrev xI (P:Pm) (A:Around) (γ:Gh) (s:Shared) (g:G) (sub:Sem Value) (s1:Shared) (c:V):Prop:=∀ (Q Ex:Value->Shared->Prop),(∀ x γ' h' tk,Ev γ s.heap γ' h'->bP P γ' h' g->bM P γ' h' c x->Q x (Sh s h' tk))->wpAny (model P.prog P.w) A sub Q Ex s1
theorem tc {value:Expr}{lower upper:Option Expr}{p:Pos}{vl vu x:Value}{xs ys:List V}{lo hi:Option Nat}{f:List Value->List Value}(I:bP P γ s.heap g) (r:bM P γ s.heap (.tup xs) x)
  (pl:IsPart vl (lo.map Nat.cast)) (pu:IsPart vu (hi.map Nat.cast)) (hk:xs.length<=lim) (hl:∀ l:List Value,l.length=xs.length->(l.drop (min (lo.getD 0) xs.length)).take (min (hi.getD xs.length) xs.length - min (lo.getD 0) xs.length)=f l)
  (hf:∀ {γ:Gh}{h:Heap}{xs':List Value},bI P γ h xs xs'->bI P γ h ys (f xs')):xI P A γ s g (subscriptTail value (.Slice lower upper none p) x (.ref s.heap.objs.size)) (ey s (s.heap.push (pn vl vu))) (.tup ys):=by
 intro Q Ex q
 have f1:=Ev.push I (pn vl vu) .other
 have I1:=I.push (pn vl vu) rfl .other (λn t e=>nomatch e)
 clear I
 obtain ⟨i,its,rfl,ri,ti,li⟩:=r.ev f1
 have hlen:its.size=xs.length:=li.length
 have N:=fh I1 (hf li)
 exact eX (s:=(ey s (s.heap.push (pn vl vu)))) ti.typeIs slot_tuple_getitem.lookup ⟨_,rfl⟩ (oE (l:=f its.toList) (s:=(ey s (s.heap.push (pn vl vu)))) ti (Heap.IsSliceOf.new s.heap vl vu .none) pl pu (by rw [hlen]; exact sz _ hk) (by rw [hlen]; exact hl its.toList li.length)
  ⟨λh=>q _ _ _ s.toks f1 I1 ⟨i,its,rfl,ri,ti,h ▸ hf li⟩,q _ _ _ s.toks (f1.trans N.1) N.2.1 N.2.2⟩)
theorem zE {value:Expr}{lower upper:Option Expr}{p:Pos}{x:Value}{xs:List V}{k:Nat}{u:Tok}(I:bP P γ s.heap g) (r:bM P γ s.heap (.lst xs) x) (hk:xs.length<=lim):
  xI P A γ s g (subscriptTail value (.Slice lower upper none p) x (.ref s.heap.objs.size)) (ey s (s.heap.push (pn .none (.int k u)))) (.lst (xs.take k)):=by
 intro Q Ex q
 have f1:=Ev.push I (pn .none (.int k u)) .other
 have I1:=I.push (pn .none (.int k u)) rfl .other (λn t e=>nomatch e)
 clear I
 obtain ⟨i,its,rfl,ri,ti,li⟩:=r.ev f1
 have hlen:its.size=xs.length:=li.length
 have N:=jp I1 (li.take k)
 refine eX (s:=(ey s (s.heap.push (pn .none (.int k u))))) ti.isList.typeIs slot_list_getitem.lookup ⟨_,rfl⟩ (wpAny_getItem_list_slice (s:=(ey s (s.heap.push (pn .none (.int k u))))) ti.isList (Heap.IsSliceOf.new ..) .none (.int k u) .none (λh=>nomatch h) ?_ (by rw [hlen]; exact sz _ hk))
 rw [slicePick_upto' its k]
 exact q _ _ _ s.toks (f1.trans N.1) N.2.1 N.2.2
set_option tactic.hygienic true in
theorem zm {value:Expr}{lower upper:Option Expr}{p:Pos}{t:Str}{u' u:Tok}(I:bP P γ s.heap g):
  xI P A γ s g (subscriptTail value (.Slice lower upper none p) (.str t u') (.ref s.heap.objs.size)) (ey s (s.heap.push (pn .none (.int 1 u)))) (.str ⟨(t.cps.toList.take 1).toArray⟩):=by
 intro Q Ex q
 have dA:∀ y:Value,(∃ tk,y=.str ⟨(t.cps.toList.take 1).toArray⟩ tk)->∀ tk,Q y (Sh s (s.heap.push (pn .none (.int 1 u))) tk):=λy hy tk=>q y _ _ tk (Ev.push I (pn .none (.int 1 u)) .other) (I.push (pn .none (.int 1 u)) rfl .other (λn t e=>nomatch e)) hy
 refine eX (s:=(ey s (s.heap.push (pn .none (.int 1 u))))) (typeIs_str _ t u') PySem.F.slot_str_getitem.lookup ⟨_,rfl⟩ (wpAny_getItem_str_slice (l:=none) (u:=some (1,u)) (st:=none) (s:=(ey s (s.heap.push (pn .none (.int 1 u))))) (Heap.IsSliceOf.new ..) rfl ?_)
 have hp:slicePicked t none (some (1,u)) none=List.range (min 1 t.length):=mI t
 unfold sliceMade
 rw [hp]
 split
 ·rename_i hc
  refine dA _ ⟨u',?_⟩ _
  have h1:t.length<=1:=by simp at hc; lia
  rw [List.take_of_length_le h1]
 ·obtain ⟨⟨l⟩⟩:=t
  clear Ex I hp q
  cases l with
  | nil=>exact ⟨aE rfl,dA _ ⟨_,rfl⟩ _⟩
  | cons d l=>
   have:min 1 (Str.length ⟨⟨d::l⟩⟩)=1:=Nat.min_eq_left (aR (aZ _))
   rw [this]
   exact ⟨aE rfl,dA _ ⟨_,rfl⟩ _⟩
theorem wl {l:List Value}{n k:Nat}(hl:l.length=n):(l.drop (min k n)).take (n - min k n)=l.drop k:=by
 subst hl
 rw [List.take_of_length_le (by rw [List.length_drop]; exact ak _)]
 rcases Nat.le_total k l.length with h | h
 ·rw [Nat.min_eq_left h]
 ·rw [Nat.min_eq_right h,List.drop_length,List.drop_of_length_le h]
theorem Bi {value:Expr}{lower upper:Option Expr}{p:Pos}{a c:V}{lo hi:Option V}{x vl vu:Value}(e:Cc a lo hi=some c) (I:bP P γ s.heap g) (r1:bM P γ s.heap a x) (r2:fP P γ s.heap lo vl) (r3:fP P γ s.heap hi vu):
  ∀ (Q Ex:Value->Shared->Prop),(∀ x γ' h' tk,Ev γ s.heap γ' h'->bP P γ' h' g->bM P γ' h' c x->Q x (Sh s h' tk)) ->
   wpAny (model P.prog P.w) A (subscriptTail value (.Slice lower upper none p) x (.ref s.heap.objs.size)) Q Ex (ey s (s.heap.push (pn vl vu))):=by
 cases lo with
 | some l=>
  refine cu e λk e1 e3=>?_
  clear e
  refine cu e3 λxs e2=>?_
  clear e3
  intro e3
  refine bU e3 λhk e=>?_
  clear e3
  cases hi with
  | some=>exact iU hk.1
  | none=>
  rw [dq e2] at r1
  cases r3
  cases r2 with | some r2=>
  rw [cH e1] at r2
  obtain ⟨u,rfl⟩:=r2
  obtain ⟨k,rfl⟩:=Int.eq_ofNat_of_zero_le hk.2.1
  cases e
  exact tc (lo:=some k) (hi:=none) I r1 (.int k u) .none hk.2.2.2 (λl hl=>by rw [Option.getD_none,Option.getD_some,Nat.min_self]; exact wl hl) λh=>h.drop k
 | none=>
  refine cu e λk e1 e2=>?_
  obtain ⟨l,rfl,e1⟩:=ju e1
  clear e
  cases r2
  cases r3 with | some r3=>
  rw [cH e1] at r3
  clear e1
  obtain ⟨u,rfl⟩:=r3
  clear e1
  cases a with
  | tup xs=>
   refine bU e2 λhk e=>?_
   obtain ⟨k,rfl⟩:=Int.eq_ofNat_of_zero_le hk.1
   cases e
   exact tc (lo:=none) (hi:=some k) I r1 .none (.int k u) hk.2.2 (λl hl=>by rw [Option.getD_none,Option.getD_some,Nat.zero_min,Nat.sub_zero,List.drop_zero,← hl]; exact (List.take_eq_take_min ..).symm) λh=>h.take k
  | lst xs=>
   refine bU e2 λhk e=>?_
   clear l
   cases e
   obtain ⟨k,rfl⟩:=Int.eq_ofNat_of_zero_le hk.1
   exact zE I r1 hk.2.2
  | str t=>
   clear l
   obtain ⟨rfl,e⟩:=gA e2
   cases e
   obtain ⟨u',rfl⟩:=r1
   exact zm I
  | _=>exact no e2
end
theorem qF {t:Bool}:∀ {xs ys:List V},ou xs ys=some t->(∃ p,vT fU xs ys (some p)/\wQ p.2 p.1=some t)\/(vT fU xs ys none/\t=decide (ys.length < xs.length))
 | [],ys,h=>.inr ⟨.nil,by rw [← av h]; exact (bq (aY _)).symm⟩
 | x::xs,[],h=>.inr ⟨.end,by rw [← av h]; exact (be (Nat.succ_pos _)).symm⟩
 | x::xs,y::ys,h=>by
  refine cu h λb e h=>?_
  cases b with
  | true=>exact (qF h).imp (λ⟨p,q,i⟩=>⟨p,.eq e q,i⟩) λ⟨q,i⟩=>⟨.eq e q,by rw [i,aO,aO,decide_eq_decide.mpr Nat.succ_lt_succ_iff]⟩
  | false=>exact .inl ⟨_,.ne e,h⟩
section
variable {prog:Program}{w:World}{A:Around}{E:Value->Shared->Prop}{s:Shared}
theorem fA (hu:A.units+20 < cLine):∀ v u b,fU v u=some b->∀ (x y:Value) (Q:Bool->Shared->Prop),cA s.heap v x->cA s.heap u y->Q b s->wpAny (model prog w) A (eqBool x y) Q E s:=
 λv u b e x y Q r1 r2 q=>oj 20 v u b e A E s x y Q hu r1 r2 q
theorem zI {f:V->V->Option Bool}{vs us:List V}{t:Bool}{a b:Addr}{xs ys:Array Value}{P:Fin->Shared->Prop}(hv:∀ v u b,f v u=some b->∀ (x y:Value) (Q:Bool->Shared->Prop),cA s.heap v x->cA s.heap u y->Q b s->wpAny (model prog w) A (eqBool x y) Q E s)
  (h:fS f vs us=some t) (ha:s.heap.IsTuple a xs) (hb:s.heap.IsTuple b ys) (r1:ce s.heap vs xs.toList) (r2:ce s.heap us ys.toList)
  (q:P (.done (.ret (.bool (!t)))) s):wpAny (model prog w) A (Builtin.«tuple.__ne__» ⟨[.ref a,.ref b],[]⟩) P E s:=by
 have hTb:=hb.typeIs
 obtain ⟨oa,hoa,zz,na,hda⟩:=ha
 obtain ⟨ob,hob,zz,nb,hdb⟩:=hb
 show wpAny _ _ (isInstance (.ref b) (.type "tuple") >>= _) _ _ s
 refine ad (wpAny_isInstance hTb isSubtype_tuple_tuple (ad (wpAny_tupleItemsOf hoa hda (ad (wpAny_tupleItemsOf hob hdb (ad ?_))))))
 rcases lQ h with ⟨p,D,rfl⟩ | ⟨D,rfl⟩
 ·exact d8 (K:=λzz zz=>ret (.bool true)) (λzz zz zz=>rfl) hv D r1 r2 (λe=>nomatch e) λp x y zz zz zz=>af (af q)
 ·refine d8 (K:=λzz zz=>ret (.bool true)) (λzz zz zz=>rfl) hv D r1 r2 (λzz=>af ?_) λp x y e zz zz=>no e
  show P (.done (.ret (.bool (!(xs.size == ys.size))))) s
  rw [rn r1 r2]; exact q
theorem AL {v u:V}{t:Bool}{x y:Value}{Q:Value->Shared->Prop}(e:wQ u v=some t) (r1:cA s.heap v x) (r2:cA s.heap u y) (q:Q (.bool t) s):wpAny (model prog w) A (richCompare .Gt x y) Q E s:=by
 cases u with
 | int i=>
  refine cu e λj e1=>?_
  clear e
  intro e
  rw [cH e1] at r1
  cases e
  obtain ⟨t1,rfl⟩:=r1
  obtain ⟨t2,rfl⟩:=r2
  exact PyProof.Rows.gt_int (prog:=prog) (w:=w) q
 | str i=>
  refine cu e λj e1=>?_
  clear e
  intro e
  rw [j1 e1] at r1
  cases e
  obtain ⟨t1,rfl⟩:=r1
  obtain ⟨t2,rfl⟩:=r2
  exact PySem.P.gt_str (prog:=prog) (w:=w) q
 | _=>exact no e
theorem yL {vs us:List V}{t:Bool}{a b:Addr}{xs ys:Array Value}{P:Fin->Shared->Prop}(hu:A.units+20 < cLine)
  (h:ou vs us=some t) (ha:s.heap.IsTuple a xs) (hb:s.heap.IsTuple b ys) (r1:ce s.heap vs xs.toList) (r2:ce s.heap us ys.toList)
  (q:P (.done (.ret (.bool t))) s):wpAny (model prog w) A (Builtin.«tuple.__gt__» ⟨[.ref a,.ref b],[]⟩) P E s:=by
 have hTb:=hb.typeIs
 obtain ⟨oa,hoa,zz,na,hda⟩:=ha
 obtain ⟨ob,hob,zz,nb,hdb⟩:=hb
 show wpAny _ _ (isInstance (.ref b) (.type "tuple") >>= _) _ _ s
 refine ad (wpAny_isInstance hTb isSubtype_tuple_tuple (ad (wpAny_tupleItemsOf hoa hda (ad (wpAny_tupleItemsOf hob hdb (ad ?_))))))
 rcases qF h with ⟨p,D,hq⟩ | ⟨D,rfl⟩
 ·refine d8 (K:=λx y=>do rule "tuple.compare.by-the-first-pair-that-differs"; let v ← richCompare .Gt x y; ret v) (λzz zz zz=>by simp only [bind_assoc]) (fA hu) D r1 r2 (λe=>nomatch e) λp' x y e rx ry=>?_
  cases e
  exact ad (wpAny_rule (ad (AL hq rx ry (af (af q)))))
 ·refine d8 (K:=λx y=>do rule "tuple.compare.by-the-first-pair-that-differs"; let v ← richCompare .Gt x y; ret v) (λzz zz zz=>by simp only [bind_assoc]) (fA hu) D r1 r2 (λzz=>af ?_) λp x y e zz zz=>no e
  rw [← r1.length,← r2.length] at q
  exact q
end
noncomputable def mF:A9->CmpOp
 | .eq=>.Eq | .ne=>.NotEq | .lt=>.Lt | .le=>.LtE | .gt=>.Gt | .isN=>.Is | .isNN=>.IsNot
section
variable {P:Pm}{A:Around}{γ:Gh}{s:Shared}{g:G}
theorem Dl {α:Type} [BEq α] [DecidableEq α] (h:∀ i j:α,(i == j)=decide (i=j)) {i j:α}:(i != j)=!decide (i=j):=congrArg not (h i j)
theorem C5 {prog:Program}{w:World}{E:Value->Shared->Prop}{a b:V}{t:Bool}{x y:Value}{Q:Value->Shared->Prop}(hu:A.units+40 < cLine) (e:fU a b=some t) (r1:cA s.heap a x) (r2:cA s.heap b y) (q:Q (.bool t) s):
  wpAny (model prog w) A (compareOp .Eq x y) Q E s:=by
 cases i8 e with
 | int=>obtain ⟨zz,rfl⟩:=r1; obtain ⟨zz,rfl⟩:=r2; exact PyProof.Rows.eq_int q
 | str=>obtain ⟨zz,rfl⟩:=r1; obtain ⟨zz,rfl⟩:=r2; exact PyProof.Rows.eq_str q
 | tup hn h=>
  obtain ⟨i,its,rfl,hi,r1⟩:=r1
  obtain ⟨j,jts,rfl,hj,r2⟩:=r2
  exact cmp_ofEq (wpAny_richCompare_same_room (op:=.Eq) hi.typeIs hj.typeIs PySem.F.slot_tuple_eq
   (aL PySem.F.slot_tuple_eq hi.typeIs PySem.F.entry_tuple_eq (uF h hi hj r1 r2 (λv u b hb x y Q a1 a2 a3=>oj _ v u b hb A.in1 _ s x y Q (by show A.units+1+_ < cLine; omega) a1 a2 a3) ⟨_,rfl,(λe=>nomatch e),q⟩) (PySem.F.args_tuple_eq_2 _ _)) (by omega))
theorem wR {prog:Program}{w:World}{E:Value->Shared->Prop}{a b:V}{t:Bool}{x y:Value}{Q:Value->Shared->Prop}(hu:A.units+40 < cLine) (e:fU a b=some t) (r1:cA s.heap a x) (r2:cA s.heap b y) (q:Q (.bool (!t)) s):
  wpAny (model prog w) A (compareOp .NotEq x y) Q E s:=by
 cases i8 e with
 | int=>obtain ⟨zz,rfl⟩:=r1; obtain ⟨zz,rfl⟩:=r2; exact PyProof.Rows.ne_int q
 | str=>obtain ⟨zz,rfl⟩:=r1; obtain ⟨zz,rfl⟩:=r2; exact PyProof.Rows.ne_str q
 | tup hn h=>
  obtain ⟨i,its,rfl,hi,r1⟩:=r1
  obtain ⟨j,jts,rfl,hj,r2⟩:=r2
  exact cmp_ofNotEq (wpAny_richCompare_same_room (op:=.NotEq) hi.typeIs hj.typeIs PySem.F.slot_tuple_ne
   (aL PySem.F.slot_tuple_ne hi.typeIs PySem.F.entry_tuple_ne (zI (λv u b hb x y Q a1 a2 a3=>oj _ v u b hb A.in1 _ s x y Q (by show A.units+1+_ < cLine; omega) a1 a2 a3) h hi hj r1 r2 ⟨_,rfl,(λe=>nomatch e),q⟩) (PySem.F.args_tuple_ne_2 _ _)) (by omega))
theorem jS {v:V}{u:Unit}(h:uj v=some u):v=.lst []:=by
 refine cu h λl e h=>?_
 rw [iE e,(gA h).1]
theorem qZ {α β:Type}{l:List α}{a:Array β}(h:a.toList.length=l.length):l.isEmpty=decide (a.size=0):=by
 have h:a.size=l.length:=h
 rw [h]; cases l <;> rfl
theorem tx {vs:List V}{x y:Value}{Q Ex:Value->Shared->Prop}(hu:A.units+40 < cLine) (r1:bM P γ s.heap (.lst vs) x) (r2:bM P γ s.heap (.lst []) y):
  (Q (.bool vs.isEmpty) s->wpAny (model P.prog P.w) A (compareOp .Eq x y) Q Ex s)/\(Q (.bool (!vs.isEmpty)) s->wpAny (model P.prog P.w) A (compareOp .NotEq x y) Q Ex s):=by
 obtain ⟨i,its,rfl,zz,ti,li⟩:=r1
 obtain ⟨j,jts,rfl,zz,tj,lj⟩:=r2
 have hj:jts.size=0:=lj.length
 rw [qZ li.length]
 by_cases h:its.size=0
 ·rw [be h]
  have no:∀ {k:Nat}{P:Prop},k < its.size->P:=λh1=>absurd h1 (h ▸ aY _)
  refine ⟨λq=>cmp_ofEq (PySem.SeqAt.RcAt.lists (e:=λzz=>true) ti.isList tj.isList (h.trans hj.symm) (by omega) (λk h1 h2=>no h1) _ _ _ _ ?_),λq=>cmp_ofNotEq (PySem.SeqAt.RcNeAt.lists (e:=λzz=>true) ti.isList tj.isList (h.trans hj.symm) (by omega) (λk h1 h2=>no h1) _ _ _ _ ?_)⟩
  ·rw [h]; exact q
  ·rw [h]; exact q
 ·rw [bq h]
  have ne:its.size≠jts.size:=λe=>h (e.trans hj)
  exact ⟨λq=>cmp_ofEq (PySem.SeqAt.RcAt.lists_lengths ti.isList tj.isList (by simp; omega) (by omega) _ _ _ _ q),λq=>cmp_ofNotEq (PySem.SeqAt.RcNeAt.lists_lengths ti.isList tj.isList (by simp; omega) (by omega) _ _ _ _ q)⟩
theorem qO {a b:V}{t:Bool}{x y:Value}{u:Unit}{Q Ex:Value->Shared->Prop}(e:l5 b=some u) (h:Bn a=some t) (r1:bM P γ s.heap a x) (r2:bM P γ s.heap b y):
  (Q (.bool t) s->wpAny (model P.prog P.w) A (compareOp .Is x y) Q Ex s)/\(Q (.bool (!t)) s->wpAny (model P.prog P.w) A (compareOp .IsNot x y) Q Ex s):=by
 rw [mh e] at r2
 cases r2
 have ref:∀ {i:Addr},x=.ref i->t=false->(Q (.bool t) s->wpAny (model P.prog P.w) A (compareOp .Is x .none) Q Ex s)/\(Q (.bool (!t)) s->wpAny (model P.prog P.w) A (compareOp .IsNot x .none) Q Ex s):=λe1 e2=>by
  subst e1; subst e2
  exact ⟨wpAny_is_other rfl (λe=>nomatch e),wpAny_isNot_other rfl (λe=>nomatch e)⟩
 cases a with
 | none=>cases h; cases r1; exact ⟨wpAny_is_self rfl,wpAny_isNot_self rfl⟩
 | tup=>obtain ⟨i,zz,e,zz⟩:=r1; exact ref e (av h).symm
 | lst=>obtain ⟨i,zz,e,zz⟩:=r1; exact ref e (av h).symm
 | dct=>obtain ⟨i,zz,zz,e,zz⟩:=r1; exact ref e (av h).symm
 | obj=>obtain ⟨i,zz,zz,e,zz⟩:=r1; exact ref e (av h).symm
 | _=>exact no h
theorem AM {op:A9}{a b c:V}{x y:Value}(hu:A.units+40 < cLine) (e:l7 op a b=some c) (I:bP P γ s.heap g) (r1:bM P γ s.heap a x) (r2:bM P γ s.heap b y):cb P A (compareOp (mF op) x y) γ s c g:=by
 have eQ:∀ {t:Bool},(∀ (Q Ex:Value->Shared->Prop),Q (.bool t) s->wpAny (model P.prog P.w) A (compareOp (mF op) x y) Q Ex s)->some (V.bool t)=some c->cb P A (compareOp (mF op) x y) γ s c g:=λh e=>
  av e ▸ gC I (.bool _) rfl h
 cases op with
 | eq=>
  have eq:((fU a b).bind λt=>some (V.bool t))=some c->cb P A (compareOp .Eq x y) γ s c g:=λe=>by
   refine cu e λt h=>?_
   clear e
   intro e
   exact eQ (λQ Ex q=>C5 hu h r1.toK r2.toK q) e
  cases a with
  | bool t1=>
   refine cu e λt2 h=>?_
   clear e
   intro e
   rw [lM h] at r2
   cases r1
   cases r2
   exact eQ (λQ Ex q=>PyProof.Rows.eq_bool q) e
  | lst xs=>
   refine cu e λzz h=>?_
   clear e
   intro e
   rw [jS h] at r2
   exact eQ (λQ Ex=>(tx hu r1 r2).1) e
  | _=>exact eq e
 | ne=>
  have ne:((fU a b).bind λt=>some (V.bool (!t)))=some c->cb P A (compareOp .NotEq x y) γ s c g:=λe=>by
   refine cu e λt h=>?_
   clear e
   intro e
   exact eQ (λQ Ex q=>wR hu h r1.toK r2.toK q) e
  cases a with
  | lst xs=>
   refine cu e λzz h=>?_
   clear e
   intro e
   rw [jS h] at r2
   exact eQ (λQ Ex=>(tx hu r1 r2).2) e
  | _=>exact ne e
 | lt=>
  obtain ⟨i,t,j,u,rfl,rfl,e⟩:=g8 e r1 r2
  exact eQ (λQ Ex q=>PyProof.Rows.lt_int q) e
 | le=>
  obtain ⟨i,t,j,u,rfl,rfl,e⟩:=g8 e r1 r2
  exact eQ (λQ Ex q=>PySem.P.le_int q) e
 | gt=>
  cases a with
  | tup vs=>
   refine cu e λus h=>?_
   clear e
   intro e
   refine cu e λt h'=>?_
   clear e
   intro e
   rw [dq h] at r2
   obtain ⟨i,its,rfl,hi,k1⟩:=r1.toK
   obtain ⟨j,jts,rfl,hj,k2⟩:=r2.toK
   exact eQ (λQ Ex q=>cmp_ofGt (wpAny_richCompare_same_room (op:=.Gt) hi.typeIs hj.typeIs PySem.F.slot_tuple_gt
    (aL PySem.F.slot_tuple_gt hi.typeIs PySem.F.entry_tuple_gt (yL (by show A.units+1+20 < cLine; omega) h' hi hj k1 k2 ⟨_,rfl,(λe=>nomatch e),q⟩) (PySem.F.args_tuple_gt_2 _ _)) (by omega))) e
  | int i=>
   refine cu e λj h=>?_
   clear e
   intro e
   rw [cH h] at r2
   obtain ⟨zz,rfl⟩:=r1
   obtain ⟨zz,rfl⟩:=r2
   exact eQ (λQ Ex q=>PyProof.Rows.gt_int q) e
  | _=>exact no e
 | isN=>
  refine cu e λzz h=>?_
  clear e
  intro e
  refine cu e λt h'=>?_
  clear e
  intro e
  exact eQ (λQ Ex=>(qO h h' r1 r2).1) e
 | isNN=>
  refine cu e λzz h=>?_
  clear e
  intro e
  refine cu e λt h'=>?_
  clear e
  intro e
  exact eQ (λQ Ex=>(qO h h' r1 r2).2) e
end
noncomputable def wj (h:Heap) (a:Addr):Option (List Value):=(h.get? a).bind λo=>match o.data with
 | .seq xs _=>some xs.toList
 | _=>none
noncomputable def Ch (x y:Value):Option Bool:=match x with
 | .int i _=>match y with
  | .int j _=>some (decide (i=j))
  | _=>none
 | .str i _=>match y with
  | .str j _=>some (decide (i=j))
  | _=>none
 | _=>none
noncomputable def Dn (h:Heap):Nat->Value->Value->Option Bool
 | 0,x,y=>Ch x y
 | n+1,x,y=>match x with
  | .ref a=>match y with
   | .ref b=>(wj h a).bind λxs=>(wj h b).bind λys=>fS (Dn h n) xs ys
   | _=>none
  | x=>Ch x y
theorem qq {h:Heap}{a:Addr}{its:Array Value}(t:h.IsTuple a its):wj h a=some its.toList:=by
 obtain ⟨o,ho,zz,k,hd⟩:=t
 exact bL ho (by rw [hd])
theorem uh {h:Heap}{f:V->V->Option Bool}{f':Value->Value->Option Bool}(hf:∀ {v u b x y},f v u=some b->cA h v x->cA h u y->f' x y=some b) {t:Bool}:∀ {vs us:List V}{xs ys:List Value},fS f vs us=some t->ce h vs xs->ce h us ys->fS f' xs ys=some t
 | [],us,_,ys,e,r1,r2=>by
  cases r1
  rw [← e]
  cases us with
  | nil=>cases r2; rfl
  | cons=>obtain ⟨zz,zz,rfl,zz⟩:=r2; rfl
 | v::vs,us,_,_,e,r1,r2=>by
  obtain ⟨x,xs,rfl,a,r1⟩:=r1
  cases us with
  | nil=>cases r2; exact e
  | cons u us=>
   obtain ⟨y,ys,rfl,b,r2⟩:=r2
   refine cu e λc e q=>?_
   refine bL (hf e a b) ?_
   clear a b e x y
   cases c with
   | true=>exact uh hf q r1 r2
   | false=>exact q
theorem BD {h:Heap}:∀ (n:Nat) {v u:V}{b:Bool}{x y:Value},mT n v u=some b->cA h v x->cA h u y->Dn h n x y=some b:=by
 refine DP λn ih=>?_
 intro v u b x y e r1 r2
 cases i8 e with
 | int=>obtain ⟨zz,rfl⟩:=r1; obtain ⟨zz,rfl⟩:=r2; cases n <;> rfl
 | str=>obtain ⟨zz,rfl⟩:=r1; obtain ⟨zz,rfl⟩:=r2; cases n <;> rfl
 | tup hn q=>
  clear e
  obtain ⟨i,its,rfl,hi,r1⟩:=r1
  obtain ⟨j,jts,rfl,hj,r2⟩:=r2
  subst hn
  exact bL (qq hi) (bL (qq hj) (uh (ih _ rfl) q r1 r2))
theorem ux {h:Heap}{v:V}{f:Value->Bool}(hf:∀ {u y t},fU u v=some t->cA h u y->f y=t):∀ {vs:List V}{ys:List Value}{b:Bool},sF v vs=some b->ce h vs ys->ys.any f=b/\∀ y∈ys,∃ u t,fU u v=some t/\cA h u y
 | [],_,b,e,r=>by cases r; exact ⟨av e,λy hy=>nomatch hy⟩
 | u::vs,_,b,e,r=>by
  obtain ⟨y,ys,rfl,a,r⟩:=r
  refine cu e λt e1 e=>?_
  refine cu e λc e2 e=>?_
  obtain ⟨i,j⟩:=ux hf e2 r
  refine ⟨by rw [List.any_cons,hf e1 a,i,av e],λz hz=>?_⟩
  clear e e2 hf i r
  rcases az.mp hz with rfl | hz
  ·exact ⟨u,t,e1,a⟩
  ·exact j z hz
theorem pN {A:Around}{s:Shared}{v:V}{vs:List V}{b:Bool}{x:Value}{its:Array Value}(hu:A.units+40 < cLine) (e:sF v vs=some b) (r1:cA s.heap v x) (r2:ce s.heap vs its.toList):
  ∃ f:Value->Bool,(∀ y,y∈its->PySem.SeqAt.EqAt A.in1 s y x (f y))/\its.any f=b:=by
 have hf:∀ {u:V}{y:Value}{t:Bool},fU u v=some t->cA s.heap u y->(Dn s.heap 20 y x == some true)=t:=λe r=>by
  rw [BD 20 e r r1]; exact beq_true _
 obtain ⟨i,j⟩:=ux (f:=λy=>Dn s.heap 20 y x == some true) hf e r2
 refine ⟨_,λy hy=>?_,Array.any_toList.symm.trans i⟩
 obtain ⟨u,t,ht,ru⟩:=j y (Array.mem_toList_iff.mpr hy)
 intro prog w E Q q
 exact oj 20 u v t ht A.in1 E s y x Q (by show A.units+1+20 < cLine; lia) ru r1 (hf ht ru ▸ q)
section
variable {P:Pm}{A:Around}{γ:Gh}{s:Shared}{g:G}
theorem zv {neg:Bool}{v l:V}{vs:List V}{b:Bool}{x y:Value}(hu:A.units+40 < cLine) (hl:gj l=some vs) (e:sF v vs=some b) (I:bP P γ s.heap g) (r1:bM P γ s.heap v x) (r2:bM P γ s.heap l y):
  cb P A (compareOp (if neg then .NotIn else .In) x y) γ s (.bool (b != neg)) g:=by
 refine gC I (.bool (b != neg)) rfl λQ Ex q=>?_
 have eb:∀ {c:Bool},(c != true)=!c:=λ{c}=>by cases c <;> rfl
 have ef:∀ {c:Bool},(c != false)=c:=λ{c}=>by cases c <;> rfl
 clear I
 cases l with
 | tup=>
  refine bU hl λzz hl=>?_
  cases hl
  obtain ⟨a,its,rfl,zz,ta,la⟩:=r2
  obtain ⟨f,hf,hb⟩:=pN hu e r1.toK la.toK
  cases neg with
  | true=>rw [eb] at q; exact PySem.SeqAt.notIn_tupleAt f ta hf (by rw [hb]; exact q)
  | false=>rw [ef] at q; exact PySem.SeqAt.in_tupleAt f ta hf (by rw [hb]; exact q)
 | lst=>
  refine bU hl λzz hl=>?_
  cases hl
  obtain ⟨a,its,rfl,zz,ta,la⟩:=r2
  obtain ⟨f,hf,hb⟩:=pN hu e r1.toK la.toK
  clear e hu la r1
  cases neg with
  | true=>rw [eb] at q; exact PySem.SeqAt.notIn_listAt f ta.isList hf (by rw [hb]; exact q)
  | false=>rw [ef] at q; exact PySem.SeqAt.in_listAt f ta.isList hf (by rw [hb]; exact q)
 | _=>exact no hl
end
structure Fm where
 sc:Scope
 vis:pj
 cd:Value
 qu:Str
structure qp (A:Around) (d u:Nat):Prop where
 hd:A.handled=none
 dep:A.depth+d < 600
 uni:A.units+u < 9000
theorem qp.le {A:Around}{d u d' u':Nat}(R:qp A d u) (h1:d'<=d) (h2:u'<=u):qp A d' u':=⟨R.hd,by have:=R.dep; omega,by have:=R.uni; omega⟩
abbrev cU (A:Around) (n:Nat):Prop:=qp A (4 * n+4) (64 * n+64)
abbrev uz (A:Around) (n:Nat):Prop:=qp A (4 * n+2) (64 * n+40)
theorem qp.line {A:Around}{d u k:Nat}(R:qp A d u) (h:k<=800):A.units+k < cLine:=by have:=R.uni; show _ < 9900; lia
structure bG (P:Pm) (γ:Gh) (h:Heap) (fm:Fm) (env:Env) (ae:En):Prop where
 sc:env.scope=fm.sc
 cd:env.code=fm.cd
 qu:env.qual=fm.qu
 kind:fm.sc.kind=.function
 glo:env.globals=mainGlobals
 bui:env.builtins=builtinsNs
 inj:∀ x y i,fm.vis.lookup x=some i->fm.vis.lookup y=some i->x=y
 nd:∀ x i,fm.vis.lookup x=some i->(x == ("__classdict__":Str))=false/\(x == ("__debug__":Str))=false
 loc:γ.role env.locals=.other/\P.h0.get? env.locals=none/\∃ m,h.Ns env.locals m
 cel:∀ x c,env.cells.lookup x=some c->γ.role c=.other/\P.h0.get? c=none/\∃ v,h.IsCell c v
 apart:∀ x y c,env.cells.lookup x=some c->env.cells.lookup y=some c->x=y
 has:∀ x,fm.sc.names.lookup x=some .cell\/fm.sc.names.lookup x=some .free->(env.cells.lookup x).isSome=true
 get:∀ x i sl,fm.vis.lookup x=some i->ae[i]?=some (some sl)->∃ v,dy env h x v/\bT P γ h (.own i) sl v
structure dw (Pl:Addr->Prop) (γ:Gh) (h:Heap) (γ':Gh) (h':Heap):Prop where
 fro:fo γ h γ' h'
 oth:∀ a o,γ.role a=.other->¬ Pl a->h.get? a=some o->γ'.role a=.other/\h'.get? a=some o
 own:∀ a o i,γ.role a=.own i->h.get? a=some o->γ'.role a=.own i/\h'.get? a=some o
 gn:γ.gn<=γ'.gn
 ga:∀ n,n < γ.gn->γ'.ga n=γ.ga n
structure il (Pl:Addr->Prop) (γ:Gh) (h:Heap) (γ':Gh) (h':Heap):Prop where
 fro:fo γ h γ' h'
 oth:∀ a o,γ.role a=.other->¬ Pl a->h.get? a=some o->γ'.role a=.other/\h'.get? a=some o
 gn:γ.gn<=γ'.gn
 ga:∀ n,n < γ.gn->γ'.ga n=γ.ga n
def cc (env:Env) (a:Addr):Prop:=a=env.locals\/∃ x,env.cells.lookup x=some a
noncomputable abbrev Es (env:Env):=il (cc env)
section
variable {P:Pm}{γ γ' γ₁:Gh}{h h' h₁:Heap}{fm:Fm}{env:Env}{ae:En}{g:G}{Pl Pl':Addr->Prop}
theorem Ev.p (f:Ev γ h γ' h'):dw Pl γ h γ' h':=⟨f.fro,λa o r zz e=>f.oth a o r e,f.own,f.gn,f.ga⟩
theorem dw.refl:dw Pl γ h γ h:=Ev.refl.p
theorem dw.trans (a:dw Pl γ h γ' h') (b:dw Pl γ' h' γ₁ h₁):dw Pl γ h γ₁ h₁:=
 ⟨a.fro.trans b.fro,λx o r n e=>b.oth x o (a.oth x o r n e).1 n (a.oth x o r n e).2,λx o i r e=>b.own x o i (a.own x o i r e).1 (a.own x o i r e).2,
  aj a.gn b.gn,λn hn=>(b.ga n (br hn a.gn)).trans (a.ga n hn)⟩
theorem dw.sub (f:dw Pl γ h γ' h') (k:∀ a,Pl a->Pl' a):dw Pl' γ h γ' h':=⟨f.fro,λa o r n e=>f.oth a o r (λq=>n (k a q)) e,f.own,f.gn,f.ga⟩
theorem dw.ev (f:dw Pl γ h γ' h') (k:∀ a,Pl a->γ.role a=.other->h.get? a=none):Ev γ h γ' h':=⟨f.fro,λa o r e=>f.oth a o r (λq=>by rw [k a q r] at e; cases e) e,f.own,f.gn,f.ga⟩
theorem dw.es (f:dw Pl γ h γ' h'):il Pl γ h γ' h':=⟨f.fro,f.oth,f.gn,f.ga⟩
theorem il.sub (f:il Pl γ h γ' h') (k:∀ a,Pl a->Pl' a\/(γ.role a=.other->h.get? a=none)):il Pl' γ h γ' h':=
 ⟨f.fro,λa o r n e=>f.oth a o r (λq=>(k a q).elim n λq=>by rw [q r] at e; cases e) e,f.gn,f.ga⟩
theorem il.trans (a:il Pl γ h γ' h') (b:il Pl γ' h' γ₁ h₁):il Pl γ h γ₁ h₁:=
 ⟨a.fro.trans b.fro,λx o r n e=>b.oth x o (a.oth x o r n e).1 n (a.oth x o r n e).2,aj a.gn b.gn,λn hn=>(b.ga n (br hn a.gn)).trans (a.ga n hn)⟩
theorem Ev.es (f:Ev γ h γ' h'):il Pl γ h γ' h':=(Ev.p f).es
theorem il.refl:il Pl γ h γ h:=dw.refl.es
theorem bM.es (f:il Pl γ h γ' h') {v:V}{x:Value}(r:bM P γ h v x):bM P γ' h' v x:=r.mono f.fro f.gn f.ga
theorem bI.es (f:il Pl γ h γ' h') {v:List V}{x:List Value}(r:bI P γ h v x):bI P γ' h' v x:=r.mono f.fro f.gn f.ga
theorem bM.evP (f:dw Pl γ h γ' h') {v:V}{x:Value}(r:bM P γ h v x):bM P γ' h' v x:=r.mono f.fro f.gn f.ga
theorem bI.evP (f:dw Pl γ h γ' h') {v:List V}{x:List Value}(r:bI P γ h v x):bI P γ' h' v x:=r.mono f.fro f.gn f.ga
theorem dw.but {d:Addr}(ks:Heap.SameBut d h h') (hd:γ.role d=.other) (hp:Pl d):dw Pl γ h γ h':=
 ⟨λa o ra e=>⟨ra,ks.extBut a o (λq=>by rw [q,hd] at ra; cases ra) e⟩,λa o ra n e=>⟨ra,ks.extBut a o (λq=>n (q ▸ hp)) e⟩,
  λa o i ra e=>⟨ra,ks.extBut a o (λq=>by rw [q,hd] at ra; cases ra) e⟩,ak _,λzz zz=>rfl⟩
theorem bG.ev (f:Ev γ h γ' h') (E:bG P γ h fm env ae):bG P γ' h' fm env ae where
 sc:=E.sc
 cd:=E.cd
 qu:=E.qu
 kind:=E.kind
 glo:=E.glo
 bui:=E.bui
 inj:=E.inj
 nd:=E.nd
 loc:=by obtain ⟨r,n,m,q⟩:=E.loc; exact ⟨(f.ns r q).1,n,m,(f.ns r q).2⟩
 cel:=λx c e=>by obtain ⟨r,n,v,q⟩:=E.cel x c e; exact ⟨(f.cell r q).1,n,v,(f.cell r q).2⟩
 apart:=E.apart
 has:=E.has
 get:=λx i sl a b=>by
  obtain ⟨v,r,q⟩:=E.get x i sl a b
  exact ⟨v,r.ev f E.loc.1 (λx c e=>(E.cel x c e).1),q.ev f⟩
theorem bG.kindOf (E:bG P γ h fm env ae) (x:Str):env.kindOf x=fm.sc.names.lookup x:=by show env.scope.names.lookup x=_; rw [E.sc]
theorem dQ {ae:En}{i j:Nat}{sl:Option bN}(hne:i≠j):(ae.set i sl)[j]?=ae[j]?:=bh hne
theorem gS {ae:En}{i:Nat}{sl sl':Option bN}(e:(ae.set i sl)[i]?=some sl'):sl'=sl:=by
 rw [List.getElem?_set_self'] at e
 cases h:ae[i]? with
 | none=>rw [h] at e; cases e
 | some _=>rw [h] at e; cases e; rfl
theorem bT.but {d:Addr}(ks:Heap.SameBut d h h') (hd:γ.role d=.other) {i:Nat}{sl:bN}{v:Value}(r:bT P γ h (.own i) sl v):bT P γ h' (.own i) sl v:=
 r.glob (λa o ra e=>⟨ra,ks.extBut a o (λq=>by rw [q,hd] at ra; cases ra) e⟩) (ak _) (λzz zz=>rfl)
  λa o ra e=>⟨ra,ks.extBut a o (λq=>by rw [q,hd] at ra; cases ra) e⟩
theorem bP.but {d:Addr}(I:bP P γ h g) (ks:Heap.SameBut d h h') (hd:γ.role d=.other) (h0:P.h0.get? d=none):bP P γ h' g:=by
 have ne:∀ {a:Addr}{r:cQ},γ.role a=r->r≠.other->a≠d:=λra n q=>by rw [q,hd] at ra; exact n ra.symm
 refine I.keep (λa o ra e=>⟨ra,ks.extBut a o (ne ra (λq=>nomatch q)) e⟩) rfl (λzz zz=>rfl) (λa ra=>?_) (λa o n t ra e=>⟨ra,ks.extBut a o (ne ra (λq=>nomatch q)) e⟩)
  (λa o hs ra e=>⟨ra,ks.extBut a o (λq=>by rw [q,h0] at hs; cases hs) e⟩) (λo ra e=>⟨ra,ks.extBut _ o (ne ra (λq=>nomatch q)) e⟩)
 obtain ⟨o,ho⟩:=aq.mp (I.wf a ra)
 rw [ks.extBut a o (ne rfl ra) ho]; rfl
theorem dO {A:Around}{M:Model}{s:Shared}{x:Str}{i:Nat}{sl:bN}{v:Value}{Q:Unit->Shared->Prop}{Ex:Value->Shared->Prop}(E:bG P γ s.heap fm env ae) (I:bP P γ s.heap g)
  (hx:fm.vis.lookup x=some i) (hk:(fm.sc.names.lookup x=some .local/\Pl env.locals)\/(fm.sc.names.lookup x=some .cell/\∀ c,env.cells.lookup x=some c->Pl c)) (r:bT P γ s.heap (.own i) sl v)
  (q:∀ h' tk,dw Pl γ s.heap γ h'->bP P γ h' g->bG P γ h' fm env (ae.set i (some sl))->Q () (Sh s h' tk)):wpAny M A (storeName env x v) Q Ex s:=by
 obtain ⟨rl,nl,m,hm⟩:=E.loc
 rcases hk with ⟨hk,hp⟩ | ⟨hk,hp⟩
 ·refine wpAny_storeName_local (by rw [E.kindOf]; exact hk) hm (λh' hn' ks=>q h' _ (.but ks rl hp) (I.but ks rl nl) ?_) (by rw [E.sc,E.kind]; rfl)
  refine ⟨E.sc,E.cd,E.qu,E.kind,E.glo,E.bui,E.inj,E.nd,⟨rl,nl,_,hn'⟩,λy c hc=>?_,E.apart,E.has,λy j sl' hy hj=>?_⟩
  ·obtain ⟨rc,nc,w,o,ho,hd⟩:=E.cel y c hc
   refine ⟨rc,nc,w,o,ks.extBut c o (λq=>?_) ho,hd⟩
   obtain ⟨o',zz,zz,ho',hd',zz⟩:=hm
   rw [q] at ho
   cases ho.symm.trans ho'
   cases hd.symm.trans hd'
  ·by_cases hxy:y=x
   ·subst hxy
    cases hx.symm.trans hy
    cases gS hj
    exact ⟨v,.inl ⟨by rw [E.kindOf]; exact hk,_,hn',if_pos rfl⟩,r.but ks rl⟩
   ·rw [dQ (λq=>hxy (E.inj y x i (by rw [q]; exact hy) hx))] at hj
    obtain ⟨u,ru,rs⟩:=E.get y j sl' hy hj
    refine ⟨u,?_,rs.but ks rl⟩
    rcases ru with ⟨a,m',b,d⟩ | ⟨a,n,c,b,d⟩
    ·refine .inl ⟨a,_,hn',?_⟩
     have:m y=some u:=by
      obtain ⟨o1,es1,ep1,g1,g2,zz,g3⟩:=hm
      obtain ⟨o2,es2,ep2,k1,k2,zz,k3⟩:=b
      cases g1.symm.trans k1
      clear g1 k1
      cases g2.symm.trans k2
      rw [← g3 y,k3 y]; exact d
     exact (if_neg hxy).trans this
    ·obtain ⟨rc,nc,w,o,ho,hd⟩:=E.cel y c b
     refine .inr ⟨a,n,c,b,IsCell.keep d λo' ho'=>ks.extBut c o' (λq=>?_) ho'⟩
     obtain ⟨o',zz,zz,ho',hd',zz⟩:=hm
     rw [q] at ho
     cases ho.symm.trans ho'
     cases hd.symm.trans hd'
 ·obtain ⟨c,hc⟩:=aq.mp (E.has x (.inl hk))
  obtain ⟨rc,nc,w,hw⟩:=E.cel x c hc
  refine wpAny_storeName_cell (by rw [E.sc]; exact E.kind) (by rw [E.kindOf]; exact hk) hc hw λh' hn' ks=>q h' s.toks (.but ks rc (hp c hc)) (I.but ks rc nc) ?_
  have hlc:env.locals≠c:=λq=>by
   obtain ⟨o,zz,zz,ho,hd,zz⟩:=hm
   obtain ⟨o',ho',hd'⟩:=hw
   rw [q] at ho
   clear I hp
   cases ho.symm.trans ho'
   clear ho'
   cases hd.symm.trans hd'
  refine ⟨E.sc,E.cd,E.qu,E.kind,E.glo,E.bui,E.inj,E.nd,⟨rl,nl,_,Ns.keep hm λo ho=>ks.extBut _ o hlc ho⟩,λy c' hc'=>?_,E.apart,E.has,λy j sl' hy hj=>?_⟩
  ·obtain ⟨rc',nc',w',hw'⟩:=E.cel y c' hc'
   by_cases hcc:c'=c
   ·clear I hc' hm hp hw m nl rl w
    subst hcc; exact ⟨rc,nc,_,hn'⟩
   ·exact ⟨rc',nc',w',IsCell.keep hw' λo ho=>ks.extBut _ o hcc ho⟩
  ·by_cases hxy:y=x
   ·clear I hm hp hw m nc nl rl w
    subst hxy
    cases hx.symm.trans hy
    cases gS hj
    exact ⟨v,.inr ⟨.inl (by rw [E.kindOf]; exact hk),(E.nd y i hx).1,c,hc,hn'⟩,r.but ks rc⟩
   ·rw [dQ (λq=>hxy (E.inj y x i (by rw [q]; exact hy) hx))] at hj
    obtain ⟨u,ru,rs⟩:=E.get y j sl' hy hj
    refine ⟨u,?_,rs.but ks rc⟩
    rcases ru with ⟨a,m',b,d⟩ | ⟨a,n,c',b,d⟩
    ·exact .inl ⟨a,m',Ns.keep b λo ho=>ks.extBut _ o hlc ho,d⟩
    ·exact .inr ⟨a,n,c',b,IsCell.keep d λo ho=>ks.extBut _ o (λq=>hxy (E.apart y x c (q ▸ b) hc)) ho⟩
end
noncomputable abbrev Cf:=Fn->List V->G->Option (V × G)
def cx (P:Pm) (cf:Cf) (n:Nat):Prop:=∀ f A γ s g args v g' xs,uz A n->bP P γ s.heap g->bI P γ s.heap args xs->cf f args g=some (v,g')->∀ R:Result->Shared->Prop,
 (∀ x γ' h' tk,Ev γ s.heap γ' h'->bP P γ' h' g'->bM P γ' h' v x->R (.ok (.ret x)) (Sh s h' tk))->codeAny (model P.prog P.w) A (.call (.ref (P.fa f)) ⟨xs,[]⟩) R s
def bE (P:Pm) (fm:Fm) (pe:Expr) (me:E):Prop:=
 ∀ cf n,cx P cf n->∀ A γ s env ae g v g',cU A n->bP P γ s.heap g->bG P γ s.heap fm env ae->me cf ae g=some (v,g')->cb P A (eval pe env) γ s v g'
def dM (P:Pm) (fm:Fm) (pes:List Expr) (mes:List E):Prop:=
 ∀ cf n,cx P cf n->∀ A γ s env ae g vs g',cU A n->bP P γ s.heap g->bG P γ s.heap fm env ae->jL cf mes ae g=some (vs,g')->∀ (pos:Pos) (Q:List Value->Shared->Prop) (Ex:Value->Shared->Prop),
  (∀ xs γ' h' tk,Ev γ s.heap γ' h'->bP P γ' h' g'->bG P γ' h' fm env ae->bI P γ' h' vs xs->Q xs (Sh s h' tk))->wpAny (model P.prog P.w) A (spliced (backTo pos (starEach pes env))) Q Ex s
def cZ (P:Pm) (fm:Fm) (pe:Expr) (me:E):Prop:=
 ∀ cf n,cx P cf n->∀ A γ s env ae g b g',cU A n->bP P γ s.heap g->bG P γ s.heap fm env ae->me cf ae g=some (.bool b,g')->∀ (Q:Bool->Shared->Prop) (Ex:Value->Shared->Prop),
  (∀ γ' h' tk,Ev γ s.heap γ' h'->bP P γ' h' g'->bG P γ' h' fm env ae->Q b (Sh s h' tk))->wpAny (model P.prog P.w) A (isTrue pe env (eval pe env)) Q Ex s
section
variable {P:Pm}{fm:Fm}{cf:Cf}{n:Nat}{A:Around}{γ:Gh}{s:Shared}{env:Env}{ae:En}{g g':G}{Ex:Value->Shared->Prop}
theorem bE.run {pe:Expr}{me:E}{v:V}{Q:Value->Shared->Prop}(S:bE P fm pe me) (C:cx P cf n) (R:cU A n) (I:bP P γ s.heap g) (Er:bG P γ s.heap fm env ae) (e:me cf ae g=some (v,g'))
  (q:∀ x γ' h' tk,Ev γ s.heap γ' h'->bP P γ' h' g'->bG P γ' h' fm env ae->bM P γ' h' v x->Q x (Sh s h' tk)):wpAny (model P.prog P.w) A (eval pe env) Q Ex s:=
 S cf n C A γ s env ae g v g' R I Er e Q Ex λx γ' h' tk f I r=>q x γ' h' tk f I (Er.ev f) r
theorem cx.run {f:Fn}{args:List V}{v:V}{xs:List Value}{Q:Value->Shared->Prop}(C:cx P cf n) (R:uz A n) (I:bP P γ s.heap g) (r:bI P γ s.heap args xs) (e:cf f args g=some (v,g'))
  (q:∀ x γ' h' tk,Ev γ s.heap γ' h'->bP P γ' h' g'->bM P γ' h' v x->Q x (Sh s h' tk)):wpAny (model P.prog P.w) A (call (.ref (P.fa f)) xs) Q Ex s:=
 wpAny_call (C f A γ s g args v g' xs R I r e _ q)
theorem cU.c (R:cU A n):uz A n:=R.le (by lia) (by lia)
theorem cU.k (R:cU A n):A.units+40 < cLine:=R.line (by decide)
end
section
variable {P:Pm}{fm:Fm}
theorem bE.var {x:Str}{pos:Pos}{i:Nat}(hx:fm.vis.lookup x=some i):bE P fm (.Name x pos) (.var i):=by
 intro cf n C A γ s env ae g v g' R I Er e
 refine cu e λu e1 h=>?_
 refine cu e1 λsl e2 h'=>?_
 intro Q Ex q
 clear C R e e1 n
 cases h
 rw [d5 h'] at e2
 obtain ⟨x',r,rs⟩:=Er.get x i _ hx (cX e2)
 exact wpAny_Name (cS (by rw [Er.sc]; exact Er.kind) r (q x' γ s.heap s.toks .refl I rs)) (Er.nd x i hx).2
theorem bE.int {k:Int}{j:Nat}{pos:Pos}:bE P fm (.Constant (.int k) j pos) (.int k):=by
 intro cf n C A γ s env ae g v g' R I Er e
 clear C Er R n
 cases e
 intro Q Ex q
 exact wpAny_Constant_int (q _ γ s.heap _ .refl I (⟨_,rfl⟩))
theorem bE.str {k:Str}{j:Nat}{pos:Pos}:bE P fm (.Constant (.str k) j pos) (.str k):=by
 intro cf n C A γ s env ae g v g' R I Er e
 clear C Er R n
 cases e
 intro Q Ex q
 exact wpAny_Constant_str (q _ γ s.heap _ .refl I (⟨_,rfl⟩))
theorem bE.bool {b:Bool}{j:Nat}{pos:Pos}:bE P fm (.Constant (.bool b) j pos) (.bool b):=by
 intro cf n C A γ s env ae g v g' R I Er e
 clear C Er R n
 cases e
 intro Q Ex q
 exact wpAny_Constant_bool (q _ γ s.heap s.toks .refl I rfl)
theorem bE.none {j:Nat}{pos:Pos}:bE P fm (.Constant .none j pos) .none:=by
 intro cf n C A γ s env ae g v g' R I Er e
 clear C Er R n
 cases e
 intro Q Ex q
 exact wpAny_Constant_none (q _ γ s.heap s.toks .refl I rfl)
theorem dM.nil:dM P fm [] []:=by
 intro cf n C A γ s env ae g vs g' R I Er e pos Q Ex q
 clear C R n
 cases e
 exact args_nil (q [] γ s.heap s.toks .refl I Er .nil)
theorem dM.cons {pe:Expr}{pes:List Expr}{me:E}{mes:List E}(S:bE P fm pe me) (T:dM P fm pes mes) (he:∀ env,starEach (pe::pes) env=(false,eval pe env)::starEach pes env):dM P fm (pe::pes) (me::mes):=by
 intro cf n C A γ s env ae g vs g' R I Er e
 obtain ⟨v,g1,vs,e1,e2,rfl⟩:=kY e
 intro pos Q Ex q
 exact args_cons (S.run C R I Er e1 λx γ1 h1 t1 f1 I1 E1 r1=>T cf n C A γ1 _ env ae g1 _ _ R I1 E1 e2 pos _ Ex λxs γ2 h2 t2 f2 I2 E2 r2=>q _ γ2 h2 t2 (f1.trans f2) I2 E2 (.cons (r1.ev f2) r2)) (he env)
theorem bE.op1 {f:G->V->Option V}{F:Expr->Value->Sem Value}{l pe:Expr}{a:E}(S:bE P fm l a) (w:∀ {A env s}{Q Ex:Value->Shared->Prop},wpAny (model P.prog P.w) A (eval l env) (λx s1=>wpAny (model P.prog P.w) A (F l x) Q Ex s1) Ex s->wpAny (model P.prog P.w) A (eval pe env) Q Ex s)
  (k:∀ {n A γ s g x v z},cU A n->f g v=some z->bP P γ s.heap g->bM P γ s.heap v x->cb P A (F l x) γ s z g):bE P fm pe (Mine.xR f a):=by
 intro cf n C A γ s env ae g v g' R I Er e
 refine zV e λx e1 e2=>?_
 intro Q Ex q
 exact w (S.run C R I Er e1 λx γ1 h1 t1 f1 I1 E1 r1=>k R e2 I1 r1 _ _ λz γ3 h3 t3 f3 I3 r3=>q z γ3 h3 t3 (f1.trans f3) I3 r3)
theorem bE.op2 {f:G->V->V->Option V}{F:Value->Value->Sem Value}{l r pe:Expr}{a b:E}(S:bE P fm l a) (T:bE P fm r b) (w:∀ {A env s}{Q Ex:Value->Shared->Prop},wpAny (model P.prog P.w) A (eval l env) (λx s1=>wpAny (model P.prog P.w) A (eval r env) (λy s2=>wpAny (model P.prog P.w) A (F x y) Q Ex s2) Ex s1) Ex s->wpAny (model P.prog P.w) A (eval pe env) Q Ex s)
  (k:∀ {n A γ s g x y u v z},cU A n->f g u v=some z->bP P γ s.heap g->bM P γ s.heap u x->bM P γ s.heap v y->cb P A (F x y) γ s z g):bE P fm pe (Mine.By f a b):=by
 intro cf n C A γ s env ae g v g' R I Er e
 refine Db e λx g1 y e1 e2 e3=>?_
 intro Q Ex q
 exact w (S.run C R I Er e1 λx γ1 h1 t1 f1 I1 E1 r1=>T.run C R I1 E1 e2 λy γ2 h2 t2 f2 I2 E2 r2=>k R e3 I2 (r1.ev f2) r2 _ _ λz γ3 h3 t3 f3 I3 r3=>q z γ3 h3 t3 (f1.trans (f2.trans f3)) I3 r3)
theorem bE.tup {pes:List Expr}{mes:List E}{k:Nat}{pos:Pos}(S:dM P fm pes mes):bE P fm (.Tuple pes k pos) (.tup mes):=by
 intro cf n C A γ s env ae g v g' R I Er
 refine CX λvs e1=>c9 λhl=>cb.v' ?_
 intro Q Ex q
 exact wpAny_Tuple (S cf n C A γ s env ae g vs _ R I Er e1 pos _ Ex λxs γ1 h1 t1 f1 I1 E1 r1=>⟨by rw [r1.length]; exact sz _ hl,have N:=fh I1 r1; q _ _ _ t1 (f1.trans N.1) N.2.1 N.2.2⟩)
theorem bE.lst {pes:List Expr}{mes:List E}{pos:Pos}(S:dM P fm pes mes):bE P fm (.List pes pos) (.lst mes):=by
 intro cf n C A γ s env ae g v g' R I Er
 refine CX λvs e1=>c9 λhl=>cb.v' ?_
 intro Q Ex q
 exact wpAny_List (S cf n C A γ s env ae g vs _ R I Er e1 pos _ Ex λxs γ1 h1 t1 f1 I1 E1 r1=>⟨by rw [r1.length]; exact sz _ hl,have N:=jp I1 r1; q _ _ _ t1 (f1.trans N.1) N.2.1 N.2.2⟩)
theorem bE.bin {op:BK}{l r:Expr}{a b:E}{pos:Pos}(S:bE P fm l a) (T:bE P fm r b):bE P fm (.BinOp l (Bu op) r pos) (.bin op a b):=bE.op2 S T wpAny_BinOp λzz=>xT
theorem bE.idx {l r:Expr}{a b:E}{pos:Pos}(S:bE P fm l a) (T:bE P fm r b) (hs:eZ r):bE P fm (.Subscript l r pos) (.idx a b):=bE.op2 (F:=subscriptTail l r) S T Subscript_ λzz e=>yB e hs
theorem bE.cmp {op:A9}{l r:Expr}{a b:E}{pos:Pos}(S:bE P fm l a) (T:bE P fm r b) (hm:behindInMarks (mF op) r=false:=by with_unfolding_all rfl):bE P fm (.Compare l [mF op] [r] pos) (.cmp op a b):=bE.op2 S T (λh=>wpAny_Compare1 h hm) λR=>AM R.k
theorem bE.isIn {neg:Bool}{l r:Expr}{a b:E}{pos:Pos}(S:bE P fm l a) (T:bE P fm r b) (hm:behindInMarks (if neg then .NotIn else .In) r=false:=by with_unfolding_all rfl):bE P fm (.Compare l [if neg then .NotIn else .In] [r] pos) (.isIn neg a b):=
 bE.op2 (F:=compareOp (if neg then .NotIn else .In)) S T (λh=>wpAny_Compare1 h hm) λR e I r1 r2=>by
  refine cu e λys e4 e=>?_
  refine cu e λz e3 e=>?_
  refine cb.v e ?_
  exact zv R.k e4 e3 I r1 r2
theorem bM.bool_inv {γ:Gh}{h:Heap}{b:Bool}{x:Value}(r:bM P γ h (.bool b) x):x=.bool b:=r
theorem bE.runB {cf:Cf}{n:Nat}{A:Around}{γ:Gh}{s:Shared}{env:Env}{ae:En}{g g':G}{Ex:Value->Shared->Prop}{pe:Expr}{me:E}{b:Bool}{Q:Value->Shared->Prop}(S:bE P fm pe me) (C:cx P cf n) (R:cU A n) (I:bP P γ s.heap g) (Er:bG P γ s.heap fm env ae) (e:me cf ae g=some (.bool b,g'))
  (q:∀ γ' h' tk,Ev γ s.heap γ' h'->bP P γ' h' g'->bG P γ' h' fm env ae->Q (.bool b) (Sh s h' tk)):wpAny (model P.prog P.w) A (eval pe env) Q Ex s:=
 S.run C R I Er e λx γ' h' tk f I E r=>by cases r; exact q γ' h' tk f I E
theorem bE.and {l r:Expr}{a b:E}{pos:Pos}(S:bE P fm l a) (T:bE P fm r b):bE P fm (.BoolOp .And [l,r] pos) (.and a b):=by
 intro cf n C A γ s env ae g v g' R I Er
 refine j7 λt g1 e1=>?_
 intro e
 cases t with
 | true=>
  refine gO (o:=b cf ae g1) (k:=λu g=>some (V.bool u,g)) e λu g2 e2 e=>?_
  refine cb.of e ?_
  intro Q Ex q
  exact wpAny_And2 (S.runB C R I Er e1 λγ1 h1 t1 f1 I1 E1=>bl (T.run C R I1 E1 e2 λy γ2 h2 t2 f2 I2 E2 r2=>q y γ2 h2 t2 (f1.trans f2) I2 r2))
 | false=>
  clear T
  cases e
  intro Q Ex q
  exact wpAny_And2 (S.runB C R I Er e1 λγ1 h1 t1 f1 I1 E1=>bl (q _ γ1 h1 t1 f1 I1 rfl))
theorem bE.or {l r:Expr}{a b:E}{pos:Pos}(S:bE P fm l a) (T:bE P fm r b):bE P fm (.BoolOp .Or [l,r] pos) (.or a b):=by
 intro cf n C A γ s env ae g v g' R I Er
 refine j7 λt g1 e1=>?_
 intro e
 cases t with
 | false=>
  refine gO (o:=b cf ae g1) (k:=λu g=>some (V.bool u,g)) e λu g2 e2 e=>?_
  refine cb.of e ?_
  intro Q Ex q
  exact wpAny_Or2 (S.runB C R I Er e1 λγ1 h1 t1 f1 I1 E1=>bl (T.run C R I1 E1 e2 λy γ2 h2 t2 f2 I2 E2 r2=>q y γ2 h2 t2 (f1.trans f2) I2 r2))
 | true=>
  clear T
  cases e
  intro Q Ex q
  exact wpAny_Or2 (S.runB C R I Er e1 λγ1 h1 t1 f1 I1 E1=>bl (q _ γ1 h1 t1 f1 I1 rfl))
theorem bE.not {l:Expr}{a:E}{pos:Pos}(S:bE P fm l a):bE P fm (.UnaryOp .Not l pos) (.not a):=by
 intro cf n C A γ s env ae g v g' R I Er
 refine j7 λt g1 e1=>cb.of' ?_
 intro Q Ex q
 exact wpAny_UnaryOp (S.runB C R I Er e1 λγ1 h1 t1 f1 I1 E1=>not_value (bl (q _ γ1 h1 t1 f1 I1 rfl)))
theorem bE.ite {c l r:Expr}{x a b:E}{pos:Pos}(U:cZ P fm c x) (S:bE P fm l a) (T:bE P fm r b):bE P fm (.IfExp c l r pos) (.ite x a b):=by
 intro cf n C A γ s env ae g v g' R I Er
 refine j7 λt g1 e1=>?_
 intro e
 intro Q Ex q
 refine wpAny_IfExp (U cf n C A γ s env ae g t g1 R I Er e1 _ Ex λγ1 h1 t1 f1 I1 E1=>?_)
 clear Er I U e1 g
 cases t with
 | true=>exact S.run C R I1 E1 e λy γ2 h2 t2 f2 I2 E2 r2=>q y γ2 h2 t2 (f1.trans f2) I2 r2
 | false=>exact T.run C R I1 E1 e λy γ2 h2 t2 f2 I2 E2 r2=>q y γ2 h2 t2 (f1.trans f2) I2 r2
theorem cZ.value {pe:Expr}{me:E}(S:bE P fm pe me) (he:∀ env whole,isTrue pe env whole=(do let v ← whole; standAt pe.pos; holding [v] (truthy v))):cZ P fm pe me:=by
 intro cf n C A γ s env ae g b g' R I Er e Q Ex q
 exact wpAny_isTrue_value (S.runB C R I Er e λγ1 h1 t1 f1 I1 E1=>bl (q γ1 h1 t1 f1 I1 E1)) (he env _)
theorem cZ.comp1 {l r:Expr}{op:CmpOp}{pos:Pos}{me:E}(S:bE P fm (.Compare l [op] [r] pos) me):cZ P fm (.Compare l [op] [r] pos) me:=by
 intro cf n C A γ s env ae g b g' R I Er e Q Ex q
 rw [isTrue_Compare1]
 have h:=S.runB C R I Er e (Ex:=Ex) (Q:=λx s'=>wpAny (model P.prog P.w) A (holding [x] (truthy x)) Q Ex s') λγ1 h1 t1 f1 I1 E1=>aH (bl (q γ1 h1 t1 f1 I1 E1))
 rw [eval_Compare1] at h
 have h:=ad h
 simpa only [bind_assoc] using h
theorem cZ.not {l:Expr}{a:E}{pos:Pos}(S:cZ P fm l a):cZ P fm (.UnaryOp .Not l pos) (.not a):=by
 intro cf n C A γ s env ae g b g' R I Er
 refine j7 λt g1 e1=>?_
 intro e
 cases e
 intro Q Ex q
 exact wpAny_isTrue_Not (S cf n C A γ s env ae g t _ R I Er e1 _ Ex q)
theorem cZ.and {l r:Expr}{a b:E}{pos:Pos}(S:cZ P fm l a) (T:cZ P fm r b):cZ P fm (.BoolOp .And [l,r] pos) (.and a b):=by
 intro cf n C A γ s env ae g t g' R I Er
 refine j7 λt g1 e1=>?_
 intro e
 cases t with
 | true=>
  refine gO (o:=b cf ae g1) (k:=λu g=>some (V.bool u,g)) e λu g2 e2 e=>?_
  cases e
  intro Q Ex q
  refine wpAny_isTrue_BoolOp (wpAny_allTrue_And_cons (S cf n C A γ s env ae g true g1 R I Er e1 _ Ex λγ1 h1 t1 f1 I1 E1=>wpAny_allTrue_And_cons (T cf n C A γ1 _ env ae g1 t g' R I1 E1 e2 _ Ex λγ2 h2 t2 f2 I2 E2=>?_)))
  have z:=q γ2 h2 t2 (f1.trans f2) I2 E2
  clear E2 I2 T e2 f2 γ2
  cases t with
  | true=>exact wpAny_allTrue_And_nil z
  | false=>exact z
 | false=>
  clear T
  cases e
  intro Q Ex q
  exact wpAny_isTrue_BoolOp (wpAny_allTrue_And_cons (S cf n C A γ s env ae g false _ R I Er e1 _ Ex λγ1 h1 t1 f1 I1 E1=>q γ1 h1 t1 f1 I1 E1))
theorem cZ.or {l r:Expr}{a b:E}{pos:Pos}(S:cZ P fm l a) (T:cZ P fm r b):cZ P fm (.BoolOp .Or [l,r] pos) (.or a b):=by
 intro cf n C A γ s env ae g t g' R I Er
 refine j7 λt g1 e1=>?_
 intro e
 cases t with
 | false=>
  refine gO (o:=b cf ae g1) (k:=λu g=>some (V.bool u,g)) e λu g2 e2 e=>?_
  cases e
  intro Q Ex q
  refine wpAny_isTrue_BoolOp (wpAny_allTrue_Or_cons (S cf n C A γ s env ae g false g1 R I Er e1 _ Ex λγ1 h1 t1 f1 I1 E1=>wpAny_allTrue_Or_cons (T cf n C A γ1 _ env ae g1 t g' R I1 E1 e2 _ Ex λγ2 h2 t2 f2 I2 E2=>?_)))
  have z:=q γ2 h2 t2 (f1.trans f2) I2 E2
  clear E2 I2 T e2 f2 γ2
  cases t with
  | true=>exact z
  | false=>exact wpAny_allTrue_Or_nil z
 | true=>
  clear T
  cases e
  intro Q Ex q
  exact wpAny_isTrue_BoolOp (wpAny_allTrue_Or_cons (S cf n C A γ s env ae g true _ R I Er e1 _ Ex λγ1 h1 t1 f1 I1 E1=>q γ1 h1 t1 f1 I1 E1))
end
structure ft (P:Pm) (K:Frag):Prop where
 inn:K.In P.h0
 lim:P.h0.NoLimit
 fn:∀ f,keepIn K (.ref (P.fa f))=true
 kc:∀ c,c < 4->keepIn K (.ref (P.cl c))=true
 ga:∀ c,c < 4->findIn K (.ref (P.cl c)) "__getattribute__"=some (some (.builtin "object.__getattribute__"))
 gk:∀ c,c < 4->findIn K (.ref (P.cl c)) "__getattr__"=some none
 sa:∀ c,c < 4->findIn K (.ref (P.cl c)) "__setattr__"=some (some (.builtin "object.__setattr__"))
 hd:∀ c,c < 4->hasDictIn K (P.cl c)=true
 po:∀ c,c < 4->plainOver K (P.cl c)=true
 mkk:∀ c,c < 4->makesIn K (P.cl c)=true
 at_:∀ c n,n∈bH c->findIn K (.ref (P.cl c)) n=some none
def vA (P:Pm) (K:Frag) (c:Nat) (name:Str) (f:Fn):Prop:=
 c < 4/\findIn K (.ref (P.cl c)) name=some (some (.ref (P.fa f)))/\typeIn K (.ref (P.fa f))=some (.type "function")/\name∉bH c
def jE (P:Pm) (fm:Fm) (x:Str) (v:Value):Prop:=
 fm.sc.names.lookup x=some .globalImplicit/\(x == ("__debug__":Str))=false /\
 ((∃ mg,P.h0.Ns mainGlobals mg/\mg x=some v)\/(∃ mg mb,P.h0.Ns mainGlobals mg/\mg x=none/\P.h0.Ns builtinsNs mb/\mb x=some v))
section
variable {P:Pm}{K:Frag}{fm:Fm}{cf:Cf}{n:Nat}{A:Around}{γ:Gh}{s:Shared}{env:Env}{ae:En}{g g':G}{Ex:Value->Shared->Prop}
theorem bP.kn {h:Heap}(I:bP P γ h g) (Kn:ft P K):K.In h:=λa o e=>(I.base a o (Kn.inn a o e)).2
theorem bP.old {h:Heap}(I:bP P γ h g):∀ b o,P.h0.get? b=some o->h.get? b=some o:=λb o e=>(I.base b o e).2
theorem jE.load {x:Str}{p:Pos}{v:Value}{Q:Value->Shared->Prop}(r:jE P fm x v) (I:bP P γ s.heap g) (Er:bG P γ s.heap fm env ae) (q:Q v s):wpAny (model P.prog P.w) A (eval (.Name x p) env) Q Ex s:=by
 obtain ⟨h1,h2,h3⟩:=r
 refine Name_function_global (by rw [Er.sc]; exact Er.kind) (by rw [Er.kindOf]; exact h1) ?_ h2
 rcases h3 with ⟨mg,hg,hv⟩ | ⟨mg,mb,hg,hm,hb,hv⟩
 ·exact loadGlobal_global (by rw [Er.glo]; exact hg.keeps I.old) hv q
 ·exact loadGlobal_builtin (by rw [Er.glo]; exact hg.keeps I.old) hm (by rw [Er.bui]; exact hb.keeps I.old) hv q
def dD (pes:List Expr):Prop:=∀ (pos:Pos) (env:Env),(backTo pos (starEach pes env)).any (·.1)=false
theorem oH {x:Str}{p pos:Pos}{v:Value}{pe:Expr}{pes:List Expr}{mes:List E}{vs:List V}{Q:Value->Shared->Prop}(r:jE P fm x v) (T:dM P fm (pe::pes) mes)
  (hv:(∃ id,v=.builtin id)\/(∃ t,v=.type t)) (he:∀ env,starEach (pe::pes) env=(false,eval pe env)::starEach pes env) (hp:dD pes)
  (C:cx P cf n) (R:cU A n) (I:bP P γ s.heap g) (Er:bG P γ s.heap fm env ae) (e:jL cf mes ae g=some (vs,g'))
  (q:∀ xs γ' h' tk,Ev γ s.heap γ' h'->bP P γ' h' g'->bG P γ' h' fm env ae->bI P γ' h' vs xs->wpAny (model P.prog P.w) A (call v xs) Q Ex (Sh s h' tk)):
  wpAny (model P.prog P.w) A (eval (.Call (.Name x p) (pe::pes) [] pos) env) Q Ex s:=by
 refine Call_Name rfl (r.load I Er ?_)
 have h:=T cf n C A γ s env ae g vs g' R I Er e pos (λxs s'=>wpAny (model P.prog P.w) A (call v xs) Q Ex s') Ex q
 clear C Er I R T e q r
 rcases hv with ⟨id,rfl⟩ | ⟨t,rfl⟩
 ·exact callWith_builtin1 h (he env) (hp pos env)
 ·exact callWith_type1 h (he env) (hp pos env)
theorem zW {x:Str}{p pos:Pos}{f:Fn}{pe:Expr}{pes:List Expr}{mes:List E}{vs:List V}{Q:Value->Shared->Prop}(Kn:ft P K) (r:jE P fm x (.ref (P.fa f))) (T:dM P fm (pe::pes) mes)
  (he:∀ env,starEach (pe::pes) env=(false,eval pe env)::starEach pes env) (hp:dD pes)
  (C:cx P cf n) (R:cU A n) (I:bP P γ s.heap g) (Er:bG P γ s.heap fm env ae) (e:jL cf mes ae g=some (vs,g'))
  (q:∀ xs γ' h' tk,Ev γ s.heap γ' h'->bP P γ' h' g'->bG P γ' h' fm env ae->bI P γ' h' vs xs->wpAny (model P.prog P.w) A (call (.ref (P.fa f)) xs) Q Ex (Sh s h' tk)):
  wpAny (model P.prog P.w) A (eval (.Call (.Name x p) (pe::pes) [] pos) env) Q Ex s:=by
 refine Call_Name rfl (r.load I Er ?_)
 refine callWith_K Kn.inn (Kn.fn f) (T cf n C A γ s env ae g vs g' R I Er e pos _ Ex λxs γ1 h1 t1 f1 I1 E1 r1=>⟨I1.kn Kn,?_⟩) (he env) (hp pos env)
 exact q xs γ1 h1 t1 f1 I1 E1 r1
theorem bE.call {x:Str}{p pos:Pos}{f:Fn}{pe:Expr}{pes:List Expr}{mes:List E}(Kn:ft P K) (r:jE P fm x (.ref (P.fa f))) (T:dM P fm (pe::pes) mes)
  (he:∀ env,starEach (pe::pes) env=(false,eval pe env)::starEach pes env) (hp:dD pes):
  bE P fm (.Call (.Name x p) (pe::pes) [] pos) (.call f mes):=by
 intro cf n C A γ s env ae g v g' R I Er
 refine cC λvs g1 e1=>?_
 intro e
 intro Q Ex q
 exact zW Kn r T he hp C R I Er e1 λxs γ1 h1 t1 f1 I1 E1 r1=>C.run R.c I1 r1 e λx γ2 h2 t2 f2 I2 r2=>q x γ2 h2 t2 (f1.trans f2) I2 r2
theorem cZ.chain {a b c:Expr}{x y z:E}{pos:Pos}(S:bE P fm a x) (T:bE P fm b y) (U:bE P fm c z) (hm:lastMarks [.LtE,.Lt] [b,c]=false:=by with_unfolding_all rfl):
  cZ P fm (.Compare a [.LtE,.Lt] [b,c] pos) (.chain x y z):=by
 intro cf n C A γ s env ae g t g' R I Er e
 refine ur e λi g1 e1 h=>?_
 clear e
 refine ur h λj g2 e2 h=>?_
 intro Q Ex q
 refine isTrue_chain (S.run C R I Er e1 λx γ1 h1 t1 f1 I1 E1 r1=>test_link (T.run C R I1 E1 e2 λy γ2 h2 t2 f2 I2 E2 r2=>?_)) hm
 clear E1 Er I I1 S T e1 e2 g hm
 obtain ⟨u1,rfl⟩:=r1
 clear x
 obtain ⟨u2,rfl⟩:=r2
 refine PySem.P.le_int (bl ?_)
 by_cases hij:i<=j
 ·rw [be hij]
  refine ur (((if_pos hij).symm.trans h)) λk g3 e3 h=>?_
  clear u1
  cases h
  exact test_last (U.run C R I2 E2 e3 λz γ3 h3 t3 f3 I3 E3 r3=>by
   clear C R U e3 n
   obtain ⟨u3,rfl⟩:=r3
   exact PyProof.Rows.lt_int (bl (q γ3 h3 t3 (f1.trans (f2.trans f3)) I3 E3)))
 ·rw [bq hij]
  clear C R U n u1
  cases (if_neg hij).symm.trans h
  exact q γ2 h2 t2 (f1.trans f2) I2 E2
inductive m5 (P:Pm) (fm:Fm):Option Expr->Option E->Prop
 | none:m5 P fm none none
 | some {pe me}:bE P fm pe me->m5 P fm (some pe) (some me)
theorem m5.run {po:Option Expr}{mo:Option E}{v:Option V}{Q:Value->Shared->Prop}(S:m5 P fm po mo) (C:cx P cf n) (R:cU A n) (I:bP P γ s.heap g) (Er:bG P γ s.heap fm env ae) (e:DT cf mo ae g=Option.some (v,g'))
  (q:∀ x γ' h' tk,Ev γ s.heap γ' h'->bP P γ' h' g'->bG P γ' h' fm env ae->fP P γ' h' v x->Q x (Sh s h' tk)):wpAny (model P.prog P.w) A (evalPart po env) Q Ex s:=by
 cases S with
 | none=>
  cases e
  exact wpAny_evalPart_none (q _ γ s.heap s.toks .refl I Er .none)
 | some S=>
  refine dC e λv g1 e1 h=>?_
  clear e
  cases h
  exact wpAny_evalPart_some (S.run C R I Er e1 λx γ1 h1 t1 f1 I1 E1 r1=>q x γ1 h1 t1 f1 I1 E1 (.some r1))
theorem fP.ev {γ γ':Gh}{h h':Heap}(f:Ev γ h γ' h') {v:Option V}{x:Value}(r:fP P γ h v x):fP P γ' h' v x:=by
 cases r with
 | none=>exact .none
 | some r=>exact .some (r.ev f)
theorem bE.slc {value:Expr}{lower upper:Option Expr}{a:E}{lo hi:Option E}{p pos:Pos}(S:bE P fm value a) (T:m5 P fm lower lo) (U:m5 P fm upper hi):bE P fm (.Subscript value (.Slice lower upper Option.none p) pos) (.slc a lo hi):=by
 intro cf n C A γ s env ae g v g' R I Er
 refine cC λx g1 e1=>cC λy g2 e2=>cC λz g3 e3=>gZ λc e4=>cb.of' ?_
 intro Q Ex q
 exact sV (S.run C R I Er e1 λx γ1 h1 t1 f1 I1 E1 r1=>T.run C R I1 E1 e2 λy γ2 h2 t2 f2 I2 E2 r2=>U.run C R I2 E2 e3 λz γ3 h3 t3 f3 I3 E3 r3=>
  Bi (s:=(Sh s h3 t3)) e4 I3 (r1.ev (f2.trans f3)) (r2.ev f3) r3 Q Ex λw γ4 h4 t4 f4 I4 r4=>q w γ4 h4 t4 (f1.trans (f2.trans (f3.trans f4))) I4 r4)
end
theorem qg {p:List Str->Prop}(h0:p (bH 0)) (h1:p (bH 1)) (h2:p (bH 2)) (h3:p (bH 3)) (h4:p []):∀ c,p (bH c)
 | 0=>h0
 | 1=>h1
 | 2=>h2
 | 3=>h3
 | _+4=>h4
theorem i4 (c:Nat):(bH c).Nodup:=qg (p:=List.Nodup) (by decide) (by decide) (by decide) (by decide) .nil c
theorem tu {c:Nat}{n:Str}(h:n∈bH c):c < 4:=by
 match c,h with
 | 0,_=>exact Nat.succ_pos _
 | 1,_=>exact Nat.succ_lt_succ (Nat.succ_pos _)
 | 2,_=>exact Nat.succ_lt_succ (Nat.succ_lt_succ (Nat.succ_pos _))
 | 3,_=>exact Nat.lt_succ_self _
theorem fy.key {es:List DictEntry}{ns:List Str}{vs:List Value}(E:fy es ns vs):es.any (·.refKey)=false:=by
 induction E with
 | nil=>rfl
 | cons _ ih=>rw [List.any_cons,ih]; rfl
theorem fy.miss {es:List DictEntry}{ns:List Str}{vs:List Value}{nm:Str}(E:fy es ns vs) (h:nm∉ns):es.find? (·.key.isStr nm)=none:=by
 induction E with
 | nil=>rfl
 | @cons es ns vs hs t n v E ih=>
  rw [List.find?_cons]
  have:(Value.str n t).isStr nm=false:=by
   show (n == nm)=false
   simp only [beq_eq_false_iff_ne,ne_eq]
   exact λq=>h (q ▸ aa)
  rw [this]
  exact ih λq=>h (ai _ q)
theorem fy.getL_miss {es:List DictEntry}{ns:List Str}{vs:List Value}{nm:Str}(E:fy es ns vs) (h:nm∉ns):getL nm es=some none:=by
 unfold getL
 rw [E.miss h,E.key]; rfl
theorem fy.getL_hit {es:List DictEntry}{ns:List Str}{vs:List Value}(E:fy es ns vs):∀ {k:Nat}{nm:Str}{v:Value},ns.Nodup->ns[k]?=some nm->vs[k]?=some v->getL nm es=some (some v):=by
 induction E with
 | nil=>intro k nm v _ h _; simp at h
 | @cons es ns vs hs t n u E ih=>
  intro k nm v nd h1 h2
  unfold getL
  rw [List.find?_cons]
  clear E
  cases k with
  | zero=>
   simp only [List.getElem?_cons_zero,Option.some.injEq] at h1 h2
   subst h1 h2
   rw [show (Value.str n t).isStr n=true from beq_self_eq_true n]
  | succ k=>
   simp only [List.getElem?_cons_succ] at h1 h2
   have hne:(Value.str n t).isStr nm=false:=by
    show (n == nm)=false
    simp only [beq_eq_false_iff_ne,ne_eq]
    intro q
    exact (aT.mp nd).1 (q ▸ aW h1)
   rw [hne]
   have:=ih (aT.mp nd).2 h1 h2
   unfold getL at this
   rw [List.any_cons,show (DictEntry.refKey ⟨hs,.str n t,u⟩)=false from rfl,Bool.false_or]
   exact this
section
variable {P:Pm}{K:Frag}{fm:Fm}{cf:Cf}{n:Nat}{A:Around}{γ:Gh}{s:Shared}{env:Env}{ae:En}{g g':G}{Ex:Value->Shared->Prop}
theorem eI.instAt {h:Heap}{a d:Addr}{c:Nat}{ns:List Str}{vx:List Value}(X:eI P h a d c ns vx):∃ es m,InstAt h a (instObj (P.cl c) d) (P.cl c) (some (dictOf es m))/\fy es ns vx/\h.get? d=some (dictOf es m):=by
 obtain ⟨ha,es,m,hd,E⟩:=X
 exact ⟨es,m,⟨ha,rfl,rfl,hd⟩,E,hd⟩
theorem bM.handed {h:Heap}{v:V}{x:Value}(r:bM P γ h v x):handedIn x=true:=by
 cases v with
 | none=>cases r; rfl
 | bool=>cases r; rfl
 | int=>obtain ⟨zz,rfl⟩:=r; rfl
 | str=>obtain ⟨zz,rfl⟩:=r; rfl
 | tup=>obtain ⟨zz,zz,rfl,zz⟩:=r; rfl
 | lst=>obtain ⟨zz,zz,rfl,zz⟩:=r; rfl
 | dct=>obtain ⟨zz,zz,zz,rfl,zz⟩:=r; rfl
 | obj=>obtain ⟨zz,zz,zz,rfl,zz⟩:=r; rfl
 | gl=>cases r.1; rfl
theorem lm {a d:Addr}{c m k:Nat}{vx:List Value}{nm:Str}{x:Value}{b:Bool}{Q:Value->Shared->Prop}(Kn:ft P K) (I:bP P γ s.heap g) (X:eI P s.heap a d c ((bH c).take m) vx) (hk:((bH c).take m)[k]?=some nm) (hv:vx[k]?=some x) (hx:handedIn x=true)
  (q:Q x { s with toks:=s.toks+1 }):wpAny (model P.prog P.w) A (getAttr (.ref a) nm b) Q Ex s:=by
 obtain ⟨es,e,IA,E,zz⟩:=X.instAt
 have hm:nm∈bH c:=List.mem_of_mem_take (aW hk)
 have hc:=tu hm
 exact get_value (I.kn Kn) IA (Kn.ga c hc) (findObj_own (Kn.hd c hc) (Kn.at_ c nm hm) rfl (E.getL_hit (List.Sublist.nodup (List.take_sublist _ _) (i4 c)) hk hv)) hx q
theorem bP.instAt (I:bP P γ s.heap g) {n c:Nat}{slots:List bN}(e:dZ g n=some (c,slots)):gK P γ s.heap n (.inst c slots):=by
 refine cu e λo e q=>?_
 cases o with
 | lst=>exact no q
 | inst=>cases q; exact I.objs n _ e
theorem jU {g:G}{c k:Nat}{v:V}{sl:bN}(e:gU g c k v=some sl):(∃ vs u,v=.obj c vs/\vs[k]?=some u/\sl=.val u)\/∃ n slots,v=.gl n/\dZ g n=some (c,slots)/\slots[k]?=some sl:=by
 cases v with
 | obj c' vs=>
  refine bU e λhc e=>?_
  refine cu e λu hu e=>?_
  exact .inl ⟨vs,u,by rw [hc],hu,(av e).symm⟩
 | gl n=>
  refine dC e λc' slots hg e=>?_
  refine bU e λhc e=>?_
  exact .inr ⟨n,slots,rfl,by rw [hg,← show c'=c from hc],e⟩
 | _=>exact no e
theorem ly {c k:Nat}{v:V}{x:Value}{sl:bN}{nm:Str}{b:Bool}{Q:Value->Shared->Prop}(Kn:ft P K) (I:bP P γ s.heap g) (r:bM P γ s.heap v x) (e:gU g c k v=some sl) (hn:(bH c)[k]?=some nm)
  (q:∀ y ro,bT P γ s.heap ro sl y->(ro=.frozen\/∃ n t,ro=.glob n t)->Q y { s with toks:=s.toks+1 }):wpAny (model P.prog P.w) A (getAttr x nm b) Q Ex s:=by
 rcases jU e with ⟨vs,u,hv,hu,hs⟩ | ⟨n,slots,hv,hg,hs⟩
 ·rw [hv] at r
  clear e
  obtain ⟨a,d,vx,rfl,zz,zz,X,R⟩:=r
  obtain ⟨y,hy,ry⟩:=R.get hu
  exact lm (k:=k) Kn I X (by rw [List.getElem?_take,if_pos (aA.mp hu).1]; exact hn) hy ry.handed (q y .frozen (hs ▸ ry) (.inl rfl))
 ·rw [hv] at r
  clear e hv
  obtain ⟨rfl,zz⟩:=r
  obtain ⟨d,vx,zz,zz,hl,X,hlen,h⟩:=I.instAt hg
  have hk:=(aA.mp hs).1
  obtain ⟨y,hy⟩:∃ y,vx[k]?=some y:=⟨_,aN (hlen ▸ hk)⟩
  have rs:=h k sl y hs hy
  refine lm (k:=k) Kn I X (by rw [List.getElem?_take,if_pos hk]; exact hn) hy ?_ (q y _ rs (.inr ⟨_,k+2,rfl⟩))
  clear I Kn X h hg hk hl hlen hn hs hy q slots vx
  cases sl with
  | val v=>exact bM.handed rs
  | ol xs=>obtain ⟨zz,zz,rfl,zz⟩:=rs; rfl
  | od ks vs=>obtain ⟨zz,zz,zz,rfl,zz⟩:=rs; rfl
theorem bE.attr {value:Expr}{a:E}{c k:Nat}{nm:Str}{pos:Pos}(Kn:ft P K) (S:bE P fm value a) (hn:(bH c)[k]?=some nm)
  (he:∀ env,eval (.Attribute value nm pos) env=(do
   let o ← eval value env
   standAt pos.atName
   let r ← holding [o] (getAttr o nm true)
   letTemporaryGo value o r
   pure r):=by intro _; with_unfolding_all rfl):bE P fm (.Attribute value nm pos) (.attr c k a):=by
 exact bE.op1 (F:=λzz x=>getAttr x nm true) S (λh=>Attribute_any_ h (he _)) λR e I r=>by
  refine cu e λsl e2 e=>?_
  rw [d5 e] at e2
  exact λQ Ex q=>ly Kn I r e2 hn λy ro rs zz=>q y _ _ _ .refl I rs
theorem sC {g:G}{c:Nat}{v:V}(e:jV g c v=true):(∃ vs,v=.obj c vs)\/∃ n slots,v=.gl n/\dZ g n=some (c,slots):=by
 have e:CJ g v=some c:=bg e
 cases v with
 | obj=>cases e; exact .inl ⟨_,rfl⟩
 | gl n=>refine dC e λc' slots hg e=>?_; cases e; exact .inr ⟨n,slots,rfl,hg⟩
 | _=>exact no e
theorem uN {c:Nat}{v:V}{x:Value}(I:bP P γ s.heap g) (r:bM P γ s.heap v x) (e:jV g c v=true):∃ a d m vx,x=.ref a/\eI P s.heap a d c ((bH c).take m) vx:=by
 rcases sC e with ⟨vs,hv⟩ | ⟨n,slots,hv,hg⟩
 ·rw [hv] at r; obtain ⟨a,d,vx,e,zz,zz,X,R⟩:=r; exact ⟨a,d,_,vx,e,X⟩
 ·rw [hv] at r
  obtain ⟨d,vx,zz,zz,hl,X,hlen,hs⟩:=I.instAt hg
  exact ⟨_,d,_,vx,r.1,X⟩
theorem qi {c:Nat}{nm:Str}{f:Fn}{v:V}{x:Value}{pl:Sem Bool}{Q:Value × List Value->Shared->Prop}(Kn:ft P K) (hm:vA P K c nm f) (I:bP P γ s.heap g) (r:bM P γ s.heap v x) (hi:jV g c v=true)
  (q:Q (.ref (P.fa f),[x]) s):wpAny (model P.prog P.w) A (getMethod x nm pl) Q Ex s:=by
 obtain ⟨hc,hf,ht,hn⟩:=hm
 obtain ⟨b,d,m,vx,rfl,X⟩:=uN I r hi
 obtain ⟨es,k,IA,E,zz⟩:=X.instAt
 refine method_fn (I.kn Kn) IA (Kn.ga c hc) (Kn.gk c hc) hf ht ?_ q
 show (lookIn nm (dictOf es k)).map (·.isSome)=some false
 rw [lookIn_dict,E.getL_miss λq=>hn (List.mem_of_mem_take q)]; rfl
def cq (o:Expr) (nm:Str) (apos pos:Pos) (pes:List Expr) (pl:Env->Sem Bool):Prop:=∀ env,eval (.Call (.Attribute o nm apos) pes [] pos) env=(do
   let ov ← eval o env
   standAt apos.atName
   let (f,first) ← holding [ov] (getMethod ov nm (pl env))
   callWith pos f first (backTo pos (starEach pes env)) (backToKw pos (keywordEach [] env)))
theorem bE.meth {o:Expr}{nm:Str}{apos pos:Pos}{f:Fn}{c:Nat}{a:E}{pe:Expr}{pes:List Expr}{mes:List E}(Kn:ft P K) (hm:vA P K c nm f) (S:bE P fm o a) (T:dM P fm (pe::pes) mes)
  {pl:Env->Sem Bool}(he:cq o nm apos pos (pe::pes) pl) (h1:∀ env,starEach (pe::pes) env=(false,eval pe env)::starEach pes env) (h2:dD pes):
  bE P fm (.Call (.Attribute o nm apos) (pe::pes) [] pos) (.meth c f a mes):=by
 intro cf n C A γ s env ae g v g' R I Er
 refine cC λx g1 e1=>c9 λhi=>cC λvs g2 e2=>?_
 intro e
 intro Q Ex q
 exact methodCall_KW (S.run C R I Er e1 λx γ1 h1' t1 f1 I1 E1 r1=>qi Kn hm I1 r1 hi (callWith_K Kn.inn (Kn.fn f) (T cf n C A γ1 _ env ae g1 vs g2 R I1 E1 e2 pos _ Ex λws γ2 h2 t2 f2 I2 E2 r2=>
  ⟨I2.kn Kn,C.run R.c I2 (.cons (r1.ev f2) r2) e λx γ3 h3 t3 f3 I3 r3=>q x γ3 h3 t3 (f1.trans (f2.trans f3)) I3 r3⟩) (h1 env) (h2 pos env))) (he env)
theorem bE.meth0 {o:Expr}{nm:Str}{apos pos:Pos}{f:Fn}{c:Nat}{a:E}(Kn:ft P K) (hm:vA P K c nm f) (S:bE P fm o a)
  {pl:Env->Sem Bool}(he:cq o nm apos pos [] pl):bE P fm (.Call (.Attribute o nm apos) [] [] pos) (.meth c f a []):=by
 intro cf n C A γ s env ae g v g' R I Er
 refine cC λx g1 e1=>c9 λhi=>?_
 intro e
 intro Q Ex q
 exact methodCall_KW (S.run C R I Er e1 λx γ1 h1' t1 f1 I1 E1 r1=>qi Kn hm I1 r1 hi (callWith_K0 (I1.kn Kn) (Kn.fn f) (C.run R.c I1 (.cons r1 .nil) e λx γ3 h3 t3 f3 I3 r3=>q x γ3 h3 t3 (f1.trans f3) I3 r3))) (he env)
end
noncomputable def Gh.addG (γ:Gh) (a:Addr):Gh:={ γ with ga:=λn=>if n=γ.gn then a else γ.ga n,gn:=γ.gn+1 }
section
variable {P:Pm}{K:Frag}{fm:Fm}{cf:Cf}{n:Nat}{A:Around}{γ:Gh}{s:Shared}{env:Env}{ae:En}{h:Heap}{g g':G}{Ex:Value->Shared->Prop}
theorem tX {a:Addr}{k:Nat}(hk:k < γ.gn):(γ.addG a).ga k=γ.ga k:=if_neg (Nat.ne_of_lt hk)
theorem wy (I:bP P γ h g) {vs:List V}{xs:List Value}(r:bI P γ h vs xs):
  Ev γ h ((γ.put h.objs.size (.glob γ.gn 0)).addG h.objs.size) (h.push (gI xs))/\bP P ((γ.put h.objs.size (.glob γ.gn 0)).addG h.objs.size) (h.push (gI xs)) (g++[.lst vs]) /\
   bM P ((γ.put h.objs.size (.glob γ.gn 0)).addG h.objs.size) (h.push (gI xs)) (.gl g.length) (.ref h.objs.size):=by
 have hro:∀ {b:Addr},b≠h.objs.size->((γ.put h.objs.size (.glob γ.gn 0)).addG h.objs.size).role b=γ.role b:=λhb=>bK hb
 have f:Ev γ h ((γ.put h.objs.size (.glob γ.gn 0)).addG h.objs.size) (h.push (gI xs)):=by
  refine ⟨λa x hr e=>?_,λa x hr e=>?_,λa x i hr e=>?_,Nat.le_succ _,λk hk=>tX hk⟩ <;>
   exact ⟨by rw [hro (cT e)]; exact hr,ag _ e⟩
 refine ⟨f,⟨?_,λa ha=>?_,λk ob e=>?_,λa o e=>?_,?_,?_⟩,?_⟩
 ·show γ.gn+1=_; rw [I.gn]; simp
 ·by_cases hs:a=h.objs.size
  ·rw [hs,ah h rfl]; rfl
  ·rw [hro hs] at ha
   obtain ⟨x,hx⟩:=aq.mp (I.wf a ha)
   rw [ag _ hx]; rfl
 ·rcases Nat.lt_or_ge k g.length with hk | hk
  ·rw [bC hk] at e
   exact (I.objs k ob e).keep f.fro f.gn f.ga (by rw [I.gn]; exact hk) λa o t hr e=>⟨by rw [hro (cT e)]; exact hr,ag _ e⟩
  ·have hk':k=g.length:=by have:=(aA.mp e).1; simp at this; omega
   clear hk
   subst hk'
   simp at e
   subst e
   have hga:((γ.put h.objs.size (.glob γ.gn 0)).addG h.objs.size).ga g.length=h.objs.size:=if_pos I.gn.symm
   refine ⟨xs.toArray,?_,?_,r.ev f⟩
   ·rw [hga]
    show (if h.objs.size=h.objs.size then cQ.glob γ.gn 0 else _)=_
    rw [if_pos rfl,I.gn]
   ·rw [hga]; exact ⟨_,ah _ rfl,rfl,0,rfl⟩
 ·obtain ⟨r,q⟩:=I.base a o e
  exact ⟨by rw [hro (cT q)]; exact r,ag _ q⟩
 ·exact I.tab.keep f.fro λo hr e=>⟨by rw [hro (cT e)]; exact hr,ag _ e⟩
 ·obtain ⟨r,i⟩:=I.sys
  obtain ⟨o,ho⟩:=aq.mp i
  exact ⟨(f.oth _ o r (I.base _ o ho).2).1,i⟩
 ·exact ⟨by rw [show ((γ.put h.objs.size (.glob γ.gn 0)).addG h.objs.size).ga g.length=h.objs.size from if_pos I.gn.symm],by show _ < γ.gn+1; rw [I.gn]; exact Nat.lt_succ_self _⟩
theorem bE.lstG {pes:List Expr}{mes:List E}{pos:Pos}(S:dM P fm pes mes):bE P fm (.List pes pos) (.lstG mes):=by
 intro cf n C A γ s env ae g v g' R I Er
 refine cC λvs g1 e1=>c9 λhl=>cb.of' ?_
 intro Q Ex q
 exact wpAny_List (S cf n C A γ s env ae g vs _ R I Er e1 pos _ Ex λxs γ1 h1 t1 f1 I1 E1 r1=>⟨by rw [r1.length]; exact sz _ hl,have N:=wy I1 r1; q _ _ _ t1 (f1.trans N.1) N.2.1 N.2.2⟩)
noncomputable def Gh.inst (γ:Gh) (h:Heap):Gh:=((γ.put h.objs.size (.glob γ.gn 1)).put (h.objs.size+1) (.glob γ.gn 0)).addG (h.objs.size+1)
noncomputable abbrev jd (h:Heap) (C:Addr):Heap:=(h.push emptyDict).push (instObj C h.objs.size)
theorem ny {b:Addr}(h1:b≠h.objs.size) (h2:b≠h.objs.size+1):(γ.inst h).role b=γ.role b:=(bK h2).trans (bK h1)
theorem gq {C b:Addr}{o:Obj}(e:h.get? b=some o):(jd h C).get? b=some o:=ag _ (ag _ e)
theorem iv {b:Addr}{o:Obj}(e:h.get? b=some o):(γ.inst h).role b=γ.role b:=ny (cT e) (Nat.ne_of_lt (Nat.lt_succ_of_lt (Heap.lt_size e)))
theorem wH {c:Nat}(I:bP P γ h g):Ev γ h (γ.inst h) (jd h (P.cl c))/\bP P (γ.inst h) (jd h (P.cl c)) (g++[.inst c []])/\bM P (γ.inst h) (jd h (P.cl c)) (.gl g.length) (.ref (h.objs.size+1)):=by
 have f:Ev γ h (γ.inst h) (jd h (P.cl c)):=by
  refine ⟨λa x hr e=>?_,λa x hr e=>?_,λa x i hr e=>?_,Nat.le_succ _,λk hk=>tX hk⟩ <;>
   exact ⟨by rw [iv e]; exact hr,gq e⟩
 have hga:(γ.inst h).ga g.length=h.objs.size+1:=if_pos I.gn.symm
 have gN:(jd h (P.cl c)).get? h.objs.size=some emptyDict:=ag _ (ah _ rfl)
 have gM:(jd h (P.cl c)).get? (h.objs.size+1)=some (instObj (P.cl c) h.objs.size):=by
  have:=ah (h.push emptyDict) (o:=instObj (P.cl c) h.objs.size) rfl
  rwa [Heap.size_push] at this
 refine ⟨f,⟨?_,λa ha=>?_,λk ob e=>?_,λa o e=>?_,?_,?_⟩,?_⟩
 ·show γ.gn+1=_; rw [I.gn]; simp
 ·by_cases h1:a=h.objs.size
  ·rw [h1,gN]; rfl
  ·by_cases h2:a=h.objs.size+1
   ·rw [h2,gM]; rfl
   ·rw [ny h1 h2] at ha
    obtain ⟨x,hx⟩:=aq.mp (I.wf a ha)
    rw [gq hx]; rfl
 ·rcases Nat.lt_or_ge k g.length with hk | hk
  ·rw [bC hk] at e
   exact (I.objs k ob e).keep f.fro f.gn f.ga (by rw [I.gn]; exact hk) λa o t hr e=>⟨by rw [iv e]; exact hr,gq e⟩
  ·have hk':k=g.length:=by have:=(aA.mp e).1; simp at this; omega
   clear hk
   subst hk'
   simp at e
   subst e
   refine ⟨h.objs.size,[],?_,?_,aZ _,⟨?_,[],0,gN,by simp only [List.length_nil,List.take_zero]; exact .nil⟩,rfl,λk sl x e zz=>by simp at e⟩
   ·rw [hga]
    show (if h.objs.size+1=h.objs.size+1 then cQ.glob γ.gn 0 else _)=_
    rw [if_pos rfl,I.gn]
   ·show (if h.objs.size=h.objs.size+1 then _ else if h.objs.size=h.objs.size then cQ.glob γ.gn 1 else _)=_
    rw [if_neg (by lia),if_pos rfl,I.gn]
   ·rw [hga]; exact gM
 ·obtain ⟨r,q⟩:=I.base a o e
  exact ⟨by rw [iv q]; exact r,gq q⟩
 ·exact I.tab.keep f.fro λo hr e=>⟨by rw [iv e]; exact hr,gq e⟩
 ·obtain ⟨r,i⟩:=I.sys
  obtain ⟨o,ho⟩:=aq.mp i
  exact ⟨(f.oth _ o r (I.base _ o ho).2).1,i⟩
 ·exact ⟨by rw [hga],by show _ < γ.gn+1; rw [I.gn]; exact Nat.lt_succ_self _⟩
theorem lw:∀ {slots:List bN}{vs:List V},mN slots=some vs->slots=vs.map .val
 | [],vs,e=>by rw [← av e]; rfl
 | sl::r,vs,e=>by
  refine cu e λv e1=>?_
  clear e
  intro e
  refine cu e λus e2=>?_
  clear e
  intro e
  rw [d5 e1,lw e2,← av e]; rfl
theorem bI.of_get {γ:Gh}{h:Heap}:∀ {vs:List V}{xs:List Value},xs.length=vs.length->(∀ (k:Nat) (v:V) (x:Value),vs[k]?=some v->xs[k]?=some x->bM P γ h v x)->bI P γ h vs xs
 | [],xs,hl,_=>by cases ba.mp hl; exact .nil
 | v::vs,[],hl,_=>by simp at hl
 | v::vs,x::xs,hl,q=>.cons (q 0 v x rfl rfl) (bI.of_get (by simpa using hl) λk u y h1 h2=>q (k+1) u y (by simpa using h1) (by simpa using h2))
noncomputable def Gh.ice (γ:Gh) (a d:Addr) (m:Nat):Gh:={ γ with role:=λb=>if b=a\/b=d then .frozen else γ.role b,gn:=m }
theorem bT.monoN {m:Nat}{γ γ':Gh}{h h':Heap}{r:cQ}(f:fo γ h γ' h') (hg:m<=γ'.gn) (hga:∀ n,n < m->γ'.ga n=γ.ga n) (k:∀ a o,γ.role a=r->h.get? a=some o->γ'.role a=r/\h'.get? a=some o)
  {sl:bN}{x:Value}(hl:iY m sl=true) (q:bT P γ h r sl x):bT P γ' h' r sl x:=by
 cases sl with
 | val v=>exact bM.monoN f hg hga hl q
 | ol xs=>
  obtain ⟨a,its,q1,ro,⟨n,e⟩,q⟩:=q
  have e:=k a _ ro e
  exact ⟨a,its,q1,e.1,⟨n,e.2⟩,q.monoN f hg hga hl⟩
 | od ks vs=>
  have hl:=aC.mp hl
  obtain ⟨a,kx,vx,e,ro,X,r1,r2⟩:=q
  have r1:=r1.monoN f hg hga hl.1
  have X:=X.to (λo=>k a o ro) r1.toK
  exact ⟨a,kx,vx,e,X.1,X.2,r1,r2.monoN f hg hga hl.2⟩
theorem gK.keepN {m:Nat}{γ γ':Gh}{h h':Heap}{n:Nat}{ob:mR}(f:fo γ h γ' h') (hg:m<=γ'.gn) (hga:∀ n,n < m->γ'.ga n=γ.ga n) (hn:n < m)
  (k:∀ a o t,γ.role a=.glob n t->h.get? a=some o->γ'.role a=.glob n t/\h'.get? a=some o) (hl:gV m ob=true) (q:gK P γ h n ob):gK P γ' h' n ob:=by
 cases ob with
 | lst xs=>
  obtain ⟨its,ro,⟨m,e,e'⟩,q⟩:=q
  have e:=k _ _ _ ro e
  exact ⟨its,(hga n hn).symm ▸ e.1,(hga n hn).symm ▸ ⟨m,e.2,e'⟩,q.monoN f hg hga hl⟩
 | inst c slots=>
  obtain ⟨d,vx,ro,rd,hl',⟨e1,es,m,e2,en⟩,⟨hs,q⟩⟩:=q
  have e1:=k _ _ _ ro e1
  have e2:=k _ _ _ rd e2
  exact ⟨d,vx,(hga n hn).symm ▸ e1.1,e2.1,hl',⟨(hga n hn).symm ▸ e1.2,es,m,e2.2,en⟩,hs,λi sl x h1 h2=>(q i sl x h1 h2).monoN f hg hga (λa o=>k a o _) (aG.mp hl sl (aW h1))⟩
set_option tactic.hygienic true in
theorem A0 {γ₀:Gh}{h₀:Heap}{g₀:G}{c:Nat}{slots:List bN}{vs:List V}{g2:G}(I0:bP P γ₀ h₀ g₀) (f:Ev (γ₀.inst h₀) (jd h₀ (P.cl c)) γ h) (f0:Ev γ₀ h₀ γ h) (I:bP P γ h g2) (hlen:g2.length=g₀.length+1) (hall:(g2.take g₀.length).all (gV g₀.length)=true)
  (e:dZ g2 g₀.length=some (c,slots)) (hv:mN slots=some vs) (hl:dH 0 vs=true):
  ∃ γ',Ev γ₀ h₀ γ' h/\bP P γ' h (g2.take g₀.length)/\bM P γ' h (.obj c vs) (.ref (h₀.objs.size+1)):=by
 obtain ⟨d,vx,ro,rd,hle,X,hsl,hs⟩:=I.instAt (s:=⟨h,#[],{},1,{}⟩) e
 have hga:γ.ga g₀.length=h₀.objs.size+1:=by
  rw [f.ga _ (by show _ < γ₀.gn+1; rw [I0.gn]; exact Nat.lt_succ_self _)]
  exact if_pos I0.gn.symm
 rw [hga] at ro X
 have rr:∀ {b:Addr},b≠h₀.objs.size+1->b≠d->(γ.ice (h₀.objs.size+1) d g₀.length).role b=γ.role b:=λh1 h2=>if_neg (λq=>q.elim h1 h2)
 have ra:(γ.ice (h₀.objs.size+1) d g₀.length).role (h₀.objs.size+1)=.frozen:=if_pos (.inl rfl)
 have rd':(γ.ice (h₀.objs.size+1) d g₀.length).role d=.frozen:=if_pos (.inr rfl)
 have ne:∀ {b:Addr}{r:cQ},γ.role b=r->(∀ t,r≠.glob g₀.length t)->b≠h₀.objs.size+1/\b≠d:=λhb hr=>⟨λq=>hr 0 (by rw [← hb,q,ro]),λq=>hr 1 (by rw [← hb,q,rd])⟩
 have fr:fo γ h (γ.ice (h₀.objs.size+1) d g₀.length) h:=λa o hr e=>⟨by
  obtain ⟨h1,h2⟩:=ne hr (λt q=>nomatch q)
  rw [rr h1 h2]; exact hr,e⟩
 rw [lw hv] at X hsl hs
 rw [aw] at X hsl
 refine ⟨γ.ice (h₀.objs.size+1) d g₀.length,⟨λa o hr e=>fr a o (f0.fro a o hr e).1 (f0.fro a o hr e).2,λa o hr e=>?_,λa o i hr e=>?_,Nat.le_of_eq I0.gn,λk hk=>f0.ga k hk⟩,⟨?_,λa ha=>?_,λk ob e=>?_,λa o e=>?_,?_,?_⟩,?_⟩
 ·obtain ⟨h1,h2⟩:=f0.oth a o hr e
  obtain ⟨h3,h4⟩:=ne h1 (λt q=>nomatch q)
  exact ⟨by rw [rr h3 h4]; exact h1,h2⟩
 ·obtain ⟨h1,h2⟩:=f0.own a o i hr e
  obtain ⟨h3,h4⟩:=ne h1 (λt q=>nomatch q)
  exact ⟨by rw [rr h3 h4]; exact h1,h2⟩
 ·show g₀.length=_; rw [List.length_take]; lia
 ·by_cases h1:a=h₀.objs.size+1
  ·rw [h1]; exact I.wf _ (by rw [ro]; exact λq=>nomatch q)
  ·by_cases h2:a=d
   ·rw [h2]; exact I.wf _ (by rw [rd]; exact λq=>nomatch q)
   ·rw [rr h1 h2] at ha; exact I.wf a ha
 ·rw [List.getElem?_take] at e
  split at e
  ·rename_i hk
   refine (I.objs k ob e).keepN (m:=g₀.length) fr (ak _) (λzz zz=>rfl) hk (λa o t hr e=>⟨?_,e⟩) ?_
   ·obtain ⟨h1,h2⟩:=ne hr (λt q=>by injection q with q1 q2; lia)
    rw [rr h1 h2]; exact hr
   ·exact aG.mp hall ob (aW (i:=k) (by rw [List.getElem?_take,if_pos hk]; exact e))
  ·clear I0 f f0 hall hga hle hlen hv rd ro
   cases e
 ·obtain ⟨r,q⟩:=I.base a o e
  rcases r with r | r
  ·obtain ⟨h1,h2⟩:=ne r (λt q=>nomatch q)
   exact ⟨.inl (by rw [rr h1 h2]; exact r),q⟩
  ·exact ⟨.inr (fr a o r q).1,q⟩
 ·exact I.tab.keep fr λo hr e=>⟨by
   obtain ⟨h1,h2⟩:=ne hr (λt q=>nomatch q)
   rw [rr h1 h2]; exact hr,e⟩
 ·obtain ⟨r,i⟩:=I.sys
  obtain ⟨h1,h2⟩:=ne r (λt q=>nomatch q)
  exact ⟨by rw [rr h1 h2]; exact r,i⟩
 ·refine ⟨h₀.objs.size+1,d,vx,rfl,ra,rd',X,bI.monoN (m:=0) fr (aZ _) (λk hk=>absurd hk (aY _)) hl ?_⟩
  exact .of_get hsl λk v x h1 h2=>hs k (.val v) x (by rw [List.getElem?_map,h1]; rfl) h2
theorem bE.new {x:Str}{p pos:Pos}{f:Fn}{c:Nat}{pe:Expr}{pes:List Expr}{mes:List E}(Kn:ft P K) (r:jE P fm x (.ref (P.cl c))) (hm:vA P K c "__init__" f) (T:dM P fm (pe::pes) mes)
  (he:∀ env,starEach (pe::pes) env=(false,eval pe env)::starEach pes env) (hp:dD pes):
  bE P fm (.Call (.Name x p) (pe::pes) [] pos) (.new c f mes):=by
 intro cf n C A γ s env ae g v g' R I Er e
 refine dC e λvs g1 e1=>?_
 clear e
 intro e
 refine dC e λy g2 e2=>?_
 clear e
 intro e
 refine cu e λzz e3=>?_
 clear e
 intro e
 have e2:=e2.trans (congrArg (λv=>some (v,g2)) (mh e3))
 intro Q Ex q
 refine Call_Name rfl (r.load I Er (callWith_K Kn.inn (Kn.kc c hm.1) (T cf n C A γ s env ae g vs _ R I Er e1 pos _ Ex λxs γ1 h1 t1 f1 I1 E1 r1=>⟨I1.kn Kn,?_⟩) (he env) (hp pos env)))
 have N:=wH (c:=c) I1
 refine wpAny_call (make_core (makes_of (I1.kn Kn) (Kn.mkk c hm.1)) (looks_findIn (I1.kn Kn) hm.2.1) (λself=>bind_fn (I1.kn Kn) self hm.2.2.1) (.inl rfl) ?_)
 have RC:uz (A.under (.builtin "type.__call__" ⟨.ref (P.cl c)::xs,[]⟩)) n:=by
  have hd:=R.hd
  have:=R.dep
  have:=R.uni
  exact ⟨hd,by show A.depth+1+_ < 600; lia,by show A.units+1+_ < 9000; lia⟩
 refine C f _ _ (Sh s (jd h1 (P.cl c)) t1) _ _ _ _ (_::xs) RC N.2.1 (.cons N.2.2 (r1.ev N.1)) e2 _ λy γ3 h3 t3 f3 I3 r3=>⟨r3,?_⟩
 by_cases h:iw c=true
 ·refine bU (((if_pos h).symm.trans e)) λh4 e=>?_
  refine dC e λc' slots h5=>?_
  clear e
  intro e
  refine cu e λus h6=>?_
  clear e
  intro e
  refine bU e λh7=>?_
  clear e
  intro e
  clear C E1 Er I Kn R RC T e1 e2 e3 env g he hm hp n r r1 r3 xs y
  cases e
  obtain ⟨γ4,f4,I4,r4⟩:=A0 (c:=c) I1 f3 (N.1.trans f3) I3 h4.1 h4.2 (h7.1 ▸ h5) h6 h7.2
  exact q _ γ4 h3 t3 (f1.trans f4) I4 r4
 ·clear C E1 Er I I1 Kn R RC T e1 e2 e3 env g he hm hp n r r1 r3 xs y
  cases (if_neg h).symm.trans e
  exact q _ γ3 h3 t3 (f1.trans (N.1.trans f3)) I3 (N.2.2.ev f3)
end
theorem iz {v:V}(h:skey v=true):∃ z,v=.str z:=iS h
theorem g7 {ks:List V}{v:V}(h:de ks v=true):(gc v=true/\∀ k∈ks,gc k=true)\/(iF v=true/\∀ k∈ks,iF k=true)\/(skey v=true/\∀ k∈ks,skey k=true):=by
 rcases Bool.or_eq_true_iff.mp h with h | h
 ·rcases Bool.or_eq_true_iff.mp h with h | h
  ·exact .inl ⟨(aC.mp h).1,aG.mp (aC.mp h).2⟩
  ·exact .inr (.inl ⟨(aC.mp h).1,aG.mp (aC.mp h).2⟩)
 ·exact .inr (.inr ⟨(aC.mp h).1,aG.mp (aC.mp h).2⟩)
def kL (v:V) (ks:List V):Prop:=∀ x∈ks,fv (fU x v) (x=v)
theorem kL.tl {v x:V}{ks:List V}(h:kL v (x::ks)):kL v ks:=λy hy=>h y (ai _ hy)
theorem kL.no {v x:V}{ks:List V}(h:kL v (x::ks)) (ne:x≠v):¬ fU x v=some true:=by
 obtain ⟨t,h1,h2⟩:=h x aa
 exact λq=>ne (h2.mp (av (h1.symm.trans q)))
theorem kL.yes {v:V}{ks:List V}(h:kL v (v::ks)):fU v v=some true:=by
 obtain ⟨t,h1,h2⟩:=h v aa
 rw [h1,h2.mpr rfl]
theorem eO {ks:List V}{v:V}(h:de ks v=true):kL v ks:=by
 intro x hx
 rcases g7 h with ⟨h1,h2⟩ | ⟨h1,h2⟩ | ⟨h1,h2⟩
 ·exact oL (h2 x hx) h1
 ·exact ji (h2 x hx) h1
 ·clear h
  obtain ⟨z,rfl⟩:=iz h1
  clear h1
  obtain ⟨z',rfl⟩:=iz (h2 x hx)
  exact qP
theorem fC {v:V}:∀ {ks vs:List V}{r:Option V},kL v ks->vs.length=ks.length->ed v ks vs=some r ->
  (r=none/\∀ j:Nat,ks[j]?≠some v)\/∃ (j:Nat) (y:V),r=some y/\ks[j]?=some v/\vs[j]?=some y
 | [],vs,r,_,_,e=>.inl ⟨(av e).symm,λj q=>nomatch q⟩
 | x::xs,vs,r,he,hl,e=>by
  cases vs with
  | nil=>cases hl
  | cons y ys=>
  refine cu e λt h=>?_
  clear e
  intro e
  cases t with
  | true=>
   by_cases hx:x=v
   ·exact .inr ⟨0,y,(av e).symm,congrArg some hx,rfl⟩
   ·exact absurd h (he.no hx)
  | false=>
   have ne:x≠v:=λhx=>by subst hx; rw [he.yes] at h; cases h
   rcases fC he.tl (Nat.succ.inj hl) e with ⟨q1,q2⟩ | ⟨j,y',q⟩
   ·refine .inl ⟨q1,λj=>?_⟩
    clear e h he hl q1 r y ys
    cases j with
    | zero=>exact λq=>ne (av q)
    | succ j=>exact q2 j
   ·exact .inr ⟨j+1,y',q⟩
theorem k9 {v y:V}:∀ {ks vs:List V}{j:Nat},kL v ks->ks.Nodup->vs.length=ks.length->ks[j]?=some v->db v y ks vs=(ks,vs.set j y)
 | [],vs,j,_,_,_,e=>nomatch e
 | x::xs,vs,j,he,hn,hl,e=>by
  cases vs with
  | nil=>cases hl
  | cons u us=>cases j with
   | zero=>cases e; exact if_pos he.yes
   | succ j=>
    have ih:=k9 (y:=y) he.tl (aT.mp hn).2 (Nat.succ.inj hl) e
    exact (if_neg (he.no λq=>(aT.mp hn).1 (q ▸ aW e))).trans (by rw [show (u::us).tail=us from rfl,ih]; rfl)
theorem jI {v y:V}:∀ {ks vs:List V},kL v ks->vs.length=ks.length->(∀ j:Nat,ks[j]?≠some v)->db v y ks vs=(ks++[v],vs++[y])
 | [],vs,_,hl,_=>by cases ba.mp hl; rfl
 | x::xs,vs,he,hl,e=>by
  cases vs with
  | nil=>cases hl
  | cons u us=>
   have ih:=jI (y:=y) he.tl (Nat.succ.inj hl) λj=>e (j+1)
   exact (if_neg (he.no λq=>e 0 (congrArg some q))).trans (by rw [show (u::us).tail=us from rfl,ih]; rfl)
theorem q8 {v:V}:∀ {ks vs:List V}{j:Nat},kL v ks->ks.Nodup->vs.length=ks.length->ks[j]?=some v->qd v ks vs=(ks.eraseIdx j,vs.eraseIdx j)
 | [],vs,j,_,_,_,e=>nomatch e
 | x::xs,vs,j,he,hn,hl,e=>by
  cases vs with
  | nil=>cases hl
  | cons u us=>cases j with
   | zero=>cases e; exact if_pos he.yes
   | succ j=>
    have ih:=q8 he.tl (aT.mp hn).2 (Nat.succ.inj hl) e
    exact (if_neg (he.no λq=>(aT.mp hn).1 (q ▸ aW e))).trans (by rw [show (u::us).tail=us from rfl,ih]; rfl)
section
variable {w:World}
theorem dI.len {es:List DictEntry}{ks:List V}{kx vx:List Value}(E:dI w es ks kx vx):es.length=ks.length/\kx.length=ks.length/\vx.length=ks.length:=by
 induction E with
 | nil=>exact ⟨rfl,rfl,rfl⟩
 | cons _ ih=>simp [ih.1,ih.2.1,ih.2.2]
theorem dI.at_ {es:List DictEntry}{ks:List V}{kx vx:List Value}(E:dI w es ks kx vx):∀ {j:Nat}{e:DictEntry},es[j]?=some e->∃ k,ks[j]?=some k/\e.hash=eA w k/\kx[j]?=some e.key/\vx[j]?=some e.val:=by
 induction E with
 | nil=>intro j e h; simp at h
 | cons _ ih=>
  intro j e h
  cases j with
  | zero=>simp at h; subst h; exact ⟨_,rfl,rfl,rfl,rfl⟩
  | succ j=>simpa using ih (by simpa using h)
theorem dI.modify {es:List DictEntry}{ks:List V}{kx vx:List Value}{y:Value}(E:dI w es ks kx vx):∀ (j:Nat),dI w (es.modify j λe=>{ e with val:=y }) ks kx (vx.set j y):=by
 induction E with
 | nil=>intro j; simp; exact .nil
 | cons E ih=>
  intro j
  cases j with
  | zero=>exact .cons E
  | succ j=>exact .cons (ih j)
theorem dI.snoc {es:List DictEntry}{ks:List V}{kx vx:List Value}{k:V}{x y:Value}(E:dI w es ks kx vx):dI w (es++[⟨eA w k,x,y⟩]) (ks++[k]) (kx++[x]) (vx++[y]):=by
 induction E with
 | nil=>exact .cons .nil
 | cons E ih=>exact .cons ih
theorem dI.erase {es:List DictEntry}{ks:List V}{kx vx:List Value}(E:dI w es ks kx vx):∀ (j:Nat),dI w (es.eraseIdx j) (ks.eraseIdx j) (kx.eraseIdx j) (vx.eraseIdx j):=by
 induction E with
 | nil=>intro j; simp; exact .nil
 | cons E ih=>
  intro j
  cases j with
  | zero=>exact E
  | succ j=>exact .cons (ih j)
end
section
variable {prog:Program}{w:World}{A:Around}{E:Value->Shared->Prop}{s:Shared}
theorem jo {ks:List V}{v:V}{x:Value}{Q:Int->Shared->Prop}(hu:A.units+40 < cLine) (hk:de ks v=true) (r:cA s.heap v x) (q:Q (eA w v) { s with toks:=s.toks+cM v }):wpAny (model prog w) A (pyHash x) Q E s:=by
 rcases g7 hk with ⟨h1,zz⟩ | ⟨h1,zz⟩ | ⟨h1,zz⟩
 ·exact kZ 8 v (dr h1) A E s x Q (by omega) r q
 ·obtain ⟨a,b,rfl,h2,h3⟩:=fz h1
  exact lR (n:=8) (by omega) (λv hv x s Q r q=>kZ 7 v (iR h2 h3 v hv) _ _ s x Q (by show A.units+1+7 < cLine; omega) r q) r q
 ·obtain ⟨z,rfl⟩:=iz h1
  obtain ⟨t,rfl⟩:=r
  exact wpAny_pyHash_str q
open Classical in
theorem u5 {knd:HeapKind prog w V}{ok:V->Bool}(hh:∀ k,knd.hash k=eA w k) (hi:∀ h k a,ok k=true->cA h k (.ref a)->knd.is h k a) (hr:∀ h k x,ok k=true->cA h k x->∃ a,x=.ref a) {h:Heap}:
  ∀ {es:List DictEntry}{ks:List V}{kx vx:List Value},dI w es ks kx vx->ce h ks kx->(∀ k∈ks,ok k=true)->∃ xs:List (V × Addr × Value),es=xs.map (entryOfKey knd)/\(∀ x∈xs,knd.is h x.1 x.2.1)/\xs.map (·.1)=ks:=by
 intro es ks kx vx E
 induction E with
 | nil=>intro _ _; exact ⟨[],rfl,(λzz h=>nomatch h),rfl⟩
 | @cons es ks kx vx k x v E ih=>
  intro r hk
  obtain ⟨x',kx',e,ra,rb⟩:=r
  clear E vx
  cases e
  clear vx
  obtain ⟨a,rfl⟩:=hr h k x (hk k aa) ra
  clear hr
  obtain ⟨xs,rfl,h1,rfl⟩:=ih rb λk hk'=>hk k (ai _ hk')
  refine ⟨(k,a,v)::xs,?_,λy hy=>?_,rfl⟩
  ·rw [List.map_cons]
   congr 1
   show (⟨eA w k,.ref a,v⟩:DictEntry)=⟨knd.hash k,.ref a,v⟩
   rw [hh]
  ·clear es hh ih ks rb
   rcases az.mp hy with rfl | hy
   ·exact hi h k a (hk k aa) ra
   ·exact h1 y hy
theorem vY {h:Heap}:∀ {es:List DictEntry}{ks:List V}{kx vx:List Value},dI w es ks kx vx->ce h ks kx->(∀ k∈ks,skey k=true) ->
  (∀ e∈es,∃ k,(strKind prog w).is k e.key=true/\e.hash=(strKind prog w).hash k)/\∀ z:Str,(∀ j:Nat,ks[j]?≠some (.str z))->es.findIdx? (λe=>(strKind prog w).is z e.key)=none:=by
 intro es ks kx vx E
 induction E with
 | nil=>intro _ _; exact ⟨(λzz h=>nomatch h),λzz zz=>rfl⟩
 | @cons es ks kx vx k x v E ih=>
  intro r hk
  obtain ⟨x',kx',e,ra,rb⟩:=r
  clear E vx
  cases e
  clear vx
  obtain ⟨z,rfl⟩:=iz (hk k aa)
  obtain ⟨t,rfl⟩:=ra
  obtain ⟨i1,i2⟩:=ih rb λk hk'=>hk k (ai _ hk')
  refine ⟨λe he=>?_,λy hy=>?_⟩
  ·clear hk ih rb
   rcases az.mp he with rfl | he
   ·exact ⟨z,beq_self_eq_true z,rfl⟩
   ·exact i1 e he
  ·rw [List.findIdx?_cons,show (strKind prog w).is y (Value.str z t)=false from beq_eq_false_iff_ne.mpr λq=>hy 0 (q ▸ rfl),i2 y λj=>hy (j+1)]
   rfl
theorem pd {h:Heap}{z:Str}:∀ {es:List DictEntry}{ks:List V}{kx vx:List Value},dI w es ks kx vx->ce h ks kx->(∀ k∈ks,skey k=true)->ks.Nodup->∀ j:Nat,ks[j]?=some (.str z)->es.findIdx? (λe=>(strKind prog w).is z e.key)=some j:=by
 intro es ks kx vx E
 induction E with
 | nil=>intro _ _ _ j h; simp at h
 | @cons es ks kx vx k x v E ih=>
  intro r hk hn j hj
  obtain ⟨x',kx',e,ra,rb⟩:=r
  clear E vx
  cases e
  clear vx
  obtain ⟨y,rfl⟩:=iz (hk k aa)
  obtain ⟨t,rfl⟩:=ra
  rw [List.findIdx?_cons]
  cases j with
  | zero=>
   cases hj
   rw [show (strKind prog w).is z (Value.str z t)=true from beq_self_eq_true z]
   rfl
  | succ j=>
   rw [show (strKind prog w).is z (Value.str y t)=false from beq_eq_false_iff_ne.mpr λq=>(aT.mp hn).1 (q ▸ aW hj),ih rb (λk hk'=>hk k (ai _ hk')) (aT.mp hn).2 j hj]
   rfl
open Classical in
theorem jm {d:Addr}{o:Obj}{es:Array DictEntry}{ep:Nat}{ks:List V}{kx vx:List Value}{v:V}{x:Value}{Q:Option Nat->Shared->Prop}(hu:A.units+40 < cLine) (hk:de ks v=true) (r:cA s.heap v x)
  (ho:s.heap.get? d=some o) (hd:o.data=.dict es ep) (he:dI w es.toList ks kx vx) (hr:ce s.heap ks kx) (hn:ks.Nodup)
  (q0:(∀ j:Nat,ks[j]?≠some v)->Q none s) (q1:∀ j:Nat,ks[j]?=some v->Q (some j) s):wpAny (model prog w) A (dictFind d x (eA w v)) Q E s:=by
 have dA:∀ (knd:HeapKind prog w V) (ok:V->Bool) (hh:∀ k,knd.hash k=eA w k) (hi:∀ h k a,ok k=true->cA h k (.ref a)->knd.is h k a) (hrr:∀ h k x,ok k=true->cA h k x->∃ a,x=.ref a) (hro:knd.room A),
   ok v=true->(∀ k∈ks,ok k=true)->wpAny (model prog w) A (dictFind d x (eA w v)) Q E s:=by
  intro knd ok hh hi hrr hro h1 h2
  obtain ⟨xs,e1,e2,e3⟩:=u5 hh hi hrr he hr h2
  obtain ⟨a,rfl⟩:=hrr s.heap v x h1 r
  rw [← hh v]
  refine wpAny_dictFind_heap hro (hi _ _ _ h1 r) ho hd e1 e2 (by rw [e3]; exact hn) (λhno=>q0 λj hj=>?_) (λj p hj=>q1 j ?_)
  ·rw [← e3,List.getElem?_map,Option.map_eq_some_iff] at hj
   clear e1 e2 hh hi hro hrr
   obtain ⟨⟨k,p⟩,hj,rfl⟩:=hj
   exact hno j p hj
  ·rw [← e3,List.getElem?_map,hj]; rfl
 have tr:∀ (h:Heap) (k:V) (x:Value),(gc k=true\/iF k=true)->cA h k x->∃ a,x=.ref a:=by
  intro h k x hk r
  have:∃ l,k=.tup l:=by
   rcases hk with k | k
   ·obtain ⟨zz,zz,zz,zz,e,zz⟩:=gp k; exact ⟨_,e⟩
   ·obtain ⟨zz,zz,e,zz⟩:=fz k; exact ⟨_,e⟩
  obtain ⟨l,rfl⟩:=this
  obtain ⟨a,zz,rfl,zz⟩:=r
  exact ⟨a,rfl⟩
 rcases g7 hk with ⟨h1,h2⟩ | ⟨h1,h2⟩ | ⟨h1,h2⟩
 ·exact dA (Cs prog w) gc (λzz=>rfl) (λzz zz zz a b=>⟨a,b⟩) (λh k x a b=>tr h k x (.inl a) b) hu h1 h2
 ·exact dA (Ct prog w) iF (λzz=>rfl) (λzz zz zz a b=>⟨a,b⟩) (λh k x a b=>tr h k x (.inr a) b) hu h1 h2
 ·clear hk hu tr
  obtain ⟨z,rfl⟩:=iz h1
  clear h1
  obtain ⟨t,rfl⟩:=r
  obtain ⟨c1,c2⟩:=vY (prog:=prog) he hr h2
  refine wpAny_dictFind_of (knd:=strKind prog w) (k:=z) (beq_self_eq_true z) ho hd (λe h=>c1 e (Array.mem_toList_iff.mpr h)) ?_
  rw [show es.findIdx? (λe=>(strKind prog w).is z e.key)=es.toList.findIdx? (λe=>(strKind prog w).is z e.key) by obtain ⟨l⟩:=es; simp]
  by_cases h:∃ j:Nat,ks[j]?=some (.str z)
  ·obtain ⟨j,hj⟩:=h
   rw [pd he hr h2 hn j hj]
   exact q1 j hj
  ·have h':∀ j:Nat,ks[j]?≠some (.str z):=λj hj=>h ⟨j,hj⟩
   rw [c2 z h']
   exact q0 h'
end
section
variable {P:Pm}{A:Around}{E:Value->Shared->Prop}{γ:Gh}{s:Shared}{g:G}{d:Addr}{ks vs:List V}{kx vx:List Value}{v:V}{x:Value}
theorem bJ.typeIs (X:bJ P s.heap d ks kx vx):s.TypeIs (.ref d) "dict":=let ⟨o,_,_,ho,he,_,_,_,_⟩:=X; ⟨o,ho,he.1⟩
theorem bJ.len {h:Heap}(X:bJ P h d ks kx vx):kx.length=ks.length/\vx.length=ks.length:=let ⟨_,_,_,_,_,_,e,_,_⟩:=X; ⟨e.len.2.1,e.len.2.2⟩
theorem bJ.vlen {h:Heap}(X:bJ P h d ks kx vx) (r:bI P γ h vs vx):vs.length=ks.length:=r.length.symm.trans X.len.2
theorem iX {res:Option V}{Q:Option Value->Shared->Prop}(hu:A.units+40 < cLine) (X:bJ P s.heap d ks kx vx) (rv:bI P γ s.heap vs vx) (hk:de ks v=true) (r:cA s.heap v x) (e:ed v ks vs=some res)
  (q0:res=none->Q none { s with toks:=s.toks+cM v }) (q1:∀ y y',res=some y->bM P γ s.heap y y'->Q (some y') { s with toks:=s.toks+cM v }):wpAny (model P.prog P.w) A (dictGet d x) Q E s:=by
 have hl:=X.vlen rv
 obtain ⟨o,es,ep,ho,zz,hd,he,hn,hr⟩:=X
 unfold dictGet
 try with_reducible refine aH ?_
 refine ad (jo hu hk r (ad (jm (s:={ s with toks:=s.toks+cM v }) hu hk r ho hd he hr hn ?_ ?_)))
 ·intro hno
  rcases fC (eO hk) hl e with ⟨h1,zz⟩ | ⟨j,y,zz,h2,zz⟩
  ·exact af (q0 h1)
  ·exact absurd h2 (hno j)
 ·intro j hj
  rcases fC (eO hk) hl e with ⟨zz,h2⟩ | ⟨i,y,h1,h2,h3⟩
  ·exact absurd hj (h2 j)
  ·have hij:i=j:=(List.getElem?_inj (aA.mp h2).1 hn).mp (h2.trans hj.symm)
   clear e hj hk hl hn hr hu q0 r
   subst hij
   refine ad (wpAny_dictEntries (s:={ s with toks:=s.toks+cM v }) ho hd ?_)
   have hlt:i < es.toList.length:=by rw [he.len.1]; exact (aA.mp h2).1
   obtain ⟨k,zz,zz,zz,h7⟩:=he.at_ (aN hlt)
   obtain ⟨y',h8,ry⟩:=rv.get h3
   have:(es[i]?).map (·.val)=some y':=by
    rw [← aK,aN hlt,Option.map_some,← h7,h8]
   rw [this]
   exact af (q1 y y' h1 ry)
theorem oS {y:V}{Q:Value->Shared->Prop}(hu:A.units+41 < cLine) (X:bJ P s.heap d ks kx vx) (rv:bI P γ s.heap vs vx) (hk:de ks v=true) (r:cA s.heap v x) (e:ed v ks vs=some (some y))
  (q:∀ y',bM P γ s.heap y y'->Q y' { s with toks:=s.toks+cM v }):wpAny (model P.prog P.w) A (getItem (.ref d) x) Q E s:=by
 unfold getItem
 try with_reducible refine aH ?_
 refine ad (wpAny_sequenceKey X.typeIs (by decide) ?_)
 refine ad (bc (name:=Str.ofString "__getitem__") X.typeIs slot_dict_getitem
  (aL slot_dict_getitem X.typeIs entry_dict_getitem ?_ (args_dict_getitem _ _)))
 show wpAny _ _ (dictGet d x >>= _) _ _ s
 refine ad (iX (A:=A.in1) hu X rv hk r e (λh=>nomatch h) λz z' hz rz=>?_)
 clear X e hk hu r rv
 cases hz
 exact af ⟨z',rfl,af (q z' rz)⟩
theorem Ba {res:Option V}{neg:Bool}{Q:Value->Shared->Prop}(hu:A.units+41 < cLine) (hs:(d == sysModules)=false) (X:bJ P s.heap d ks kx vx) (rv:bI P γ s.heap vs vx) (hk:de ks v=true) (r:cA s.heap v x) (e:ed v ks vs=some res)
  (q:Q (.bool (res.isSome != neg)) { s with toks:=s.toks+cM v }):wpAny (model P.prog P.w) A (compareOp (if neg then .NotIn else .In) x (.ref d)) Q E s:=by
 have go:∀ Q':Bool->Shared->Prop,Q' res.isSome { s with toks:=s.toks+cM v }->wpAny (model P.prog P.w) A (contains (.ref d) x) Q' E s:=by
  intro Q' q'
  unfold contains
  try with_reducible refine aH ?_
  refine ad (wpAny_specialOf X.typeIs slot_dict_contains.lookup ?_)
  show wpAny _ _ (if (some (Value.builtin "dict.__contains__") == some Value.none)=true then _ else _) _ E s
  rw [if_neg (by rw [beq_builtin_none]; exact aF)]
  refine ad (wpAny_callSpecialUnlessNone?_slot (name:=Str.ofString "__contains__") X.typeIs slot_dict_contains
   (aL slot_dict_contains X.typeIs entry_dict_contains ?_ (args_dict_contains _ _)))
  show wpAny _ _ (dictGet d x >>= _) _ _ s
  refine ad (iX (A:=A.in1) hu X rv hk r e (λh=>?_) λz z' hz rz=>?_)
  ·rw [h] at q'
   show wpAny _ _ (Builtin.Dict.pendingKey? d x >>= _) _ _ _
   exact ad (wpAny_pendingKey_other hs (af ⟨_,rfl,bl q'⟩))
  ·rw [hz] at q'
   show wpAny _ _ (ret (.bool true)) _ _ _
   exact af ⟨_,rfl,bl q'⟩
 clear X e hk hs hu r rv
 cases neg with
 | true=>
  show wpAny _ _ (do return .bool (!(← contains (.ref d) x))) Q E s
  exact ad (go _ (af (by simpa using q)))
 | false=>
  show wpAny _ _ (do return .bool (← contains (.ref d) x)) Q E s
  exact ad (go _ (af (by simpa using q)))
theorem wA {res:Option V}{dv:V}{dx:Value}{Q:Value->Shared->Prop}(hu:A.units+41 < cLine) (hs:(d == sysModules)=false) (X:bJ P s.heap d ks kx vx) (rv:bI P γ s.heap vs vx) (hk:de ks v=true) (r:cA s.heap v x) (e:ed v ks vs=some res) (rd:bM P γ s.heap dv dx)
  (q:∀ y',bM P γ s.heap (res.getD dv) y'->Q y' { s with toks:=s.toks+cM v }):wpAny (model P.prog P.w) A (call (.builtin "dict.get") [.ref d,x,dx]) Q E s:=by
 refine aL PySem.F.slot_dict_get X.typeIs PySem.F.entry_dict_get ?_ (PySem.F.args_dict_get_3 _ _ _)
 show wpAny _ _ (dictGet d x >>= _) _ _ s
 refine ad (iX (A:=A.in1) hu X rv hk r e (λh=>?_) λz z' hz rz=>?_)
 ·clear X e hk hu r rv
  subst h
  show wpAny _ _ (Builtin.Dict.missed d x >>= _) _ _ _
  exact ad (wpAny_missed_other hs (af ⟨dx,rfl,q dx rd⟩))
 ·clear X e hk hs hu r rd rv
  subst hz
  exact af ⟨z',rfl,q z' rz⟩
theorem bJ.put {h':Heap}{j:Nat}{y:Value}(X:bJ P s.heap d ks kx vx) (hs:h'=s.heap.update d (Obj.mapDict (·.modify j λe=>{ e with val:=y }))):bJ P h' d ks kx (vx.set j y)/\Heap.SameBut d s.heap h':=by
 subst hs
 obtain ⟨o,es,ep,ho,hc,hd,he,hn,hr⟩:=X
 have hsb:Heap.SameBut d s.heap (s.heap.update d (Obj.mapDict (·.modify j λe=>{ e with val:=y }))):=bb ..
 refine ⟨⟨_,_,ep,aX _ ho (Obj.isFreed_of_dict (Obj.data_mapDict hd _)),hc.mapDict _,Obj.data_mapDict hd _,?_,hn,hr.keep (dg ho hd hsb)⟩,hsb⟩
 have:=he.modify (y:=y) j
 obtain ⟨l⟩:=es
 simpa using this
theorem bJ.snoc {h':Heap}{y:Value}(X:bJ P s.heap d ks kx vx) (hk:v∉ks) (r:cA s.heap v x) (hs:h'=s.heap.update d (Obj.mapDictKeys (·.push ⟨eA P.w v,x,y⟩))):bJ P h' d (ks++[v]) (kx++[x]) (vx++[y])/\Heap.SameBut d s.heap h':=by
 subst hs
 obtain ⟨o,es,ep,ho,hc,hd,he,hn,hr⟩:=X
 have hsb:Heap.SameBut d s.heap (s.heap.update d (Obj.mapDictKeys (·.push ⟨eA P.w v,x,y⟩))):=bb ..
 have sk:=dg ho hd hsb
 refine ⟨⟨_,_,ep+1,aX _ ho (Obj.isFreed_of_dict (Obj.data_mapDictKeys hd _)),hc.mapDictKeys _,Obj.data_mapDictKeys hd _,?_,?_,?_⟩,hsb⟩
 ·simpa using he.snoc (k:=v) (x:=x) (y:=y)
 ·rw [List.nodup_append]
  exact ⟨hn,by simp,λa ha b hb=>by simp at hb; subst hb; exact λq=>hk (q ▸ ha)⟩
 ·have:∀ {us:List V}{xs:List Value},ce s.heap us xs->ce s.heap (us++[v]) (xs++[x]):=by
   intro us
   induction us with
   | nil=>intro xs e; subst e; exact ⟨x,[],rfl,r,rfl⟩
   | cons u us ih=>
    intro xs e
    clear hc hd he hk hn ho hsb o r
    obtain ⟨y,ys,rfl,a,b⟩:=e
    exact ⟨y,_,rfl,a,ih b⟩
  exact (this hr).keep sk
theorem bJ.erase {h':Heap}{j:Nat}(X:bJ P s.heap d ks kx vx) (hs:h'=s.heap.update d (Obj.mapDictKeys (·.eraseIdxIfInBounds j))):bJ P h' d (ks.eraseIdx j) (kx.eraseIdx j) (vx.eraseIdx j)/\Heap.SameBut d s.heap h':=by
 subst hs
 obtain ⟨o,es,ep,ho,hc,hd,he,hn,hr⟩:=X
 have hsb:Heap.SameBut d s.heap (s.heap.update d (Obj.mapDictKeys (·.eraseIdxIfInBounds j))):=bb ..
 have sk:=dg ho hd hsb
 refine ⟨⟨_,_,ep+1,aX _ ho (Obj.isFreed_of_dict (Obj.data_mapDictKeys hd _)),hc.mapDictKeys _,Obj.data_mapDictKeys hd _,?_,hn.sublist (List.eraseIdx_sublist _ _),?_⟩,hsb⟩
 ·have:=he.erase j
  obtain ⟨l⟩:=es
  simpa using this
 ·have:∀ {us:List V}{xs:List Value}(j:Nat),ce s.heap us xs->ce s.heap (us.eraseIdx j) (xs.eraseIdx j):=by
   intro us
   induction us with
   | nil=>intro xs j e; subst e; rfl
   | cons u us ih=>
    intro xs j e
    clear hc hd he hn ho hsb o
    obtain ⟨y,ys,rfl,a,b⟩:=e
    clear ep es
    cases j with
    | zero=>exact b
    | succ j=>exact ⟨y,_,rfl,a,ih j b⟩
  exact (this j hr).keep sk
inductive kU (P:Pm) (γ:Gh) (s:Shared) (d:Addr) (ks vs:List V) (h':Heap):Prop
 | mk (kx vx:List Value) (X:bJ P h' d ks kx vx) (ks':Heap.SameBut d s.heap h') (rk:bI P γ s.heap ks kx) (rv:bI P γ s.heap vs vx)
theorem mC {l:List V}{v:V}(h:∀ j:Nat,l[j]?≠some v):v∉l:=λq=>by
 obtain ⟨j,hj⟩:=List.mem_iff_getElem?.mp q
 exact h j hj
theorem Cw {n:Nat}(h:n < lim):n<=sizeLine:=sz n (Nat.le_of_lt h)
theorem ml {d:Addr}{ks vs:List V}{kx vx:List Value}{v y:V}{x y':Value}{E:Value->Shared->Prop}{Q:Unit->Shared->Prop}(hu:A.units+40 < cLine) (X:bJ P s.heap d ks kx vx) (rk:bI P γ s.heap ks kx) (rv:bI P γ s.heap vs vx) (hk:de ks v=true) (hz:ks.length < lim) (r:bM P γ s.heap v x) (ry:bM P γ s.heap y y')
  (q:∀ h' tk,kU P γ s d (db v y ks vs).1 (db v y ks vs).2 h'->Q () (Sh s h' tk)):wpAny (model P.prog P.w) A (dictSet d x y') Q E s:=by
 have hl:=X.vlen rv
 have X':=X
 obtain ⟨o,es,ep,ho,hc,hd,he,hn,hr⟩:=X'
 unfold dictSet
 try with_reducible refine aH ?_
 refine ad (jo hu hk r.toK ?_)
 unfold dictSetHashed
 try with_reducible refine aH ?_
 refine ad (jm (s:={ s with toks:=s.toks+cM v }) hu hk r.toK ho hd he hr hn (λhno=>?_) λj hj=>?_)
 ·refine ad (wpAny_rule (wpAny_updateDictKeys (hz:=by have:=he.len.1; rw [aM] at this; rw [this]; exact Cw hz) (s:={ s with toks:=s.toks+cM v }) ho hd ?_))
  obtain ⟨Y,sb⟩:=X.snoc (mC hno) r.toK (y:=y') rfl
  rw [jI (eO hk) hl hno] at q
  exact q _ _ ⟨_,_,Y,sb,rk.append (.cons r .nil),rv.append (.cons ry .nil)⟩
 ·refine ad (wpAny_rule (ad (wpAny_updateDict (s:={ s with toks:=s.toks+cM v }) ho hd (wpAny_point ?_))))
  obtain ⟨Y,sb⟩:=X.put (j:=j) (y:=y') rfl
  rw [k9 (eO hk) hn hl hj] at q
  exact q _ _ ⟨_,_,Y,sb,rk,rv.set j ry⟩
theorem td {y:V}{y':Value}{Q:Unit->Shared->Prop}(hu:A.units+41 < cLine) (X:bJ P s.heap d ks kx vx) (rk:bI P γ s.heap ks kx) (rv:bI P γ s.heap vs vx) (hk:de ks v=true) (hz:ks.length < lim) (r:bM P γ s.heap v x) (ry:bM P γ s.heap y y')
  (q:∀ h' tk,kU P γ s d (db v y ks vs).1 (db v y ks vs).2 h'->Q () (Sh s h' tk)):wpAny (model P.prog P.w) A (setItem (.ref d) x y') Q E s:=by
 unfold setItem
 try with_reducible refine aH ?_
 refine ad (wpAny_sequenceKey X.typeIs (by decide) ?_)
 refine ad (bc (name:=Str.ofString "__setitem__") X.typeIs slot_dict_setitem
  (aL slot_dict_setitem X.typeIs entry_dict_setitem ?_ (args_dict_setitem _ _ _)))
 show wpAny _ _ (Builtin.Dict.notOrdered "__setitem__" ⟨[.ref d,x,y'],[]⟩ >>= _) _ _ s
 refine ad (wpAny_notOrdered_dict X.typeIs ?_)
 show wpAny _ _ (dictSet d x y' >>= _) _ _ s
 exact ad (ml (A:=A.in1) hu X rk rv hk hz r ry λh' tk ch=>af ⟨.none,rfl,af (q h' tk ch)⟩)
theorem su {y z:V}{y':Value}{ks' vs':List V}{Q:Value->Shared->Prop}(hu:A.units+41 < cLine) (hs:(d == sysModules)=false) (X:bJ P s.heap d ks kx vx) (rk:bI P γ s.heap ks kx) (rv:bI P γ s.heap vs vx) (r:bM P γ s.heap v x) (ry:bM P γ s.heap y y')
  (e:fT v y ks vs=some (z,(ks',vs')))
  (q:∀ z' h' tk,bM P γ s.heap z z'->kU P γ s d ks' vs' h'->Q z' (Sh s h' tk)):wpAny (model P.prog P.w) A (call (.builtin "dict.setdefault") [.ref d,x,y']) Q E s:=by
 have hl:=X.vlen rv
 refine cu e λres e1=>?_
 clear e
 intro e
 refine bU e1 λhk h1=>?_
 refine aL PySem.F.slot_dict_setdefault X.typeIs PySem.F.entry_dict_setdefault ?_ (PySem.F.args_dict_setdefault_3 _ _ _)
 unfold Builtin.«dict.setdefault»
 refine ad ?_
 unfold Builtin.Dict.keyAndDefault
 refine ad (wpAny_notOrdered_dict X.typeIs (af ?_))
 show wpAny _ _ (if (d == sysModules)=true then _ else (dictSetDefault d x y' >>= _)) _ _ s
 rw [if_neg (by rw [hs]; exact aF)]
 refine ad ?_
 have X':=X
 obtain ⟨o,es,ep,ho,hc,hd,he,hn,hr⟩:=X'
 unfold dictSetDefault
 refine aH ?_
 refine ad (jo (A:=A.in1) hu hk r.toK ?_)
 refine ad (jm (A:=A.in1) (s:={ s with toks:=s.toks+cM v }) hu hk r.toK ho hd he hr hn (λhno=>?_) λj hj=>?_)
 ·clear e1 hc hr hs hu
  rcases fC (eO hk) hl h1 with ⟨rfl,zz⟩ | ⟨j,zz,zz,h2,zz⟩
  ·refine bU e λhz=>?_
   clear e
   intro e
   cases e
   refine ad (wpAny_rule (ad (wpAny_updateDictKeys (hz:=by have:=he.len.1; rw [aM] at this; rw [this]; exact Cw hz) (s:={ s with toks:=s.toks+cM v }) ho hd (af (af ⟨y',rfl,?_⟩)))))
   obtain ⟨Y,sb⟩:=X.snoc (mC hno) r.toK (y:=y') rfl
   exact q _ _ _ ry ⟨_,_,Y,sb,rk.append (.cons r .nil),rv.append (.cons ry .nil)⟩
  ·exact absurd h2 (hno j)
 ·clear e1 hc hr hs hu r ry
  rcases fC (eO hk) hl h1 with ⟨zz,h2⟩ | ⟨i,y1,rfl,h2,h4⟩
  ·exact absurd hj (h2 j)
  ·clear h1 hk hl
   cases e
   refine ad (wpAny_dictEntries (s:={ s with toks:=s.toks+cM v }) ho hd ?_)
   have hij:i=j:=(List.getElem?_inj (aA.mp h2).1 hn).mp (h2.trans hj.symm)
   clear hd hj hn ho o
   subst hij
   have hlt:i < es.toList.length:=by rw [he.len.1]; exact (aA.mp h2).1
   obtain ⟨k,zz,zz,zz,h7⟩:=he.at_ (aN hlt)
   obtain ⟨z',h8,rz⟩:=rv.get h4
   rw [← aK,aN hlt]
   rw [← av (h7.symm.trans h8)] at rz
   exact ad (wpAny_rule (af (af ⟨_,rfl,q _ s.heap _ rz ⟨kx,vx,X,Heap.SameBut.refl ..,rk,rv⟩⟩)))
end
section
variable {P:Pm}{A:Around}{E:Value->Shared->Prop}{γ:Gh}{s:Shared}{g:G}{d:Addr}{ks vs:List V}{kx vx:List Value}{v:V}{x:Value}
theorem bI.erase {h:Heap}:∀ {vs:List V}{xs:List Value}(n:Nat),bI P γ h vs xs->bI P γ h (vs.eraseIdx n) (xs.eraseIdx n)
 | [],xs,n,e=>by cases e.inv_nil; simp [bI.nil]
 | v::vs,xs,0,e=>by
  obtain ⟨x,r,rfl,a,b⟩:=e.inv
  exact b
 | v::vs,xs,n+1,e=>by
  obtain ⟨x,r,rfl,a,b⟩:=e.inv
  exact .cons a (b.erase n)
theorem zr {y:V}{Q:Value->Shared->Prop}(hu:A.units+41 < cLine) (hs:(d == sysModules)=false) (X:bJ P s.heap d ks kx vx) (rk:bI P γ s.heap ks kx) (rv:bI P γ s.heap vs vx) (hk:de ks v=true) (hz:ks.length < lim) (r:bM P γ s.heap v x) (hx:∃ a,x=.ref a)
  (e:ed v ks vs=some (some y))
  (q:∀ z' h' tk,kU P γ s d (qd v ks vs).1 (qd v ks vs).2 h'->Q z' (Sh s h' tk)):wpAny (model P.prog P.w) A (call (.builtin "dict.pop") [.ref d,x]) Q E s:=by
 have hl:=X.vlen rv
 rcases fC (eO hk) hl e with ⟨h2,zz⟩ | ⟨i,y1,h3,h2,h4⟩
 ·clear e hs
  cases h2
 clear e h4 hs
 cases h3
 refine aL PySem.F.slot_dict_pop X.typeIs PySem.F.entry_dict_pop ?_ (PySem.F.args_dict_pop_2 _ _)
 unfold Builtin.«dict.pop»
 refine ad ?_
 unfold Builtin.Dict.keyAndDefault
 refine ad (wpAny_notOrdered_dict X.typeIs ?_)
 show wpAny _ _ (pure (d,x,none)) _ _ s
 refine af ?_
 obtain ⟨a,rfl⟩:=hx
 have X':=X
 obtain ⟨o,es,ep,ho,hc,hd,he,hn,hr⟩:=X'
 have hlt:i < es.toList.length:=by rw [he.len.1]; exact (aA.mp h2).1
 have hne:es.isEmpty=false:=by
  clear hc
  cases h:es.isEmpty with
  | false=>rfl
  | true=>rw [Array.isEmpty_iff_size_eq_zero,← aM] at h; lia
 show wpAny _ _ (dictEntries d >>= λes=>pure es.isEmpty >>= _) _ _ s
 refine ad (wpAny_dictEntries ho hd (ad (af ?_)))
 rw [hne]
 show wpAny _ _ (Builtin.Dict.takeOut d (.ref a) >>= _) _ _ s
 refine ad ?_
 unfold Builtin.Dict.takeOut
 try with_reducible refine aH ?_
 refine ad (jo (A:=A.in1) hu hk r.toK ?_)
 refine ad (jm (A:=A.in1) (s:={ s with toks:=s.toks+cM v }) hu hk r.toK ho hd he hr hn (λhno=>absurd h2 (hno i)) λj hj=>?_)
 have hij:i=j:=(List.getElem?_inj (aA.mp h2).1 hn).mp (h2.trans hj.symm)
 clear hc hj hne hr hu r
 subst hij
 refine ad (wpAny_dictEntries (s:={ s with toks:=s.toks+cM v }) ho hd ?_)
 rw [← aK,aN hlt]
 refine ad (wpAny_updateDictKeys (hz:=by have:=he.len.1; rw [aM] at this; rw [this]; exact Cw hz) (hf:=by simp only [Array.eraseIdxIfInBounds]; split <;> simp <;> lia) (s:={ s with toks:=s.toks+cM v }) ho hd (af ?_))
 show wpAny _ _ (letGo _ _ >>= λzz=>ret _) _ _ _
 refine ad (wpAny_letGo (af ⟨_,rfl,?_⟩))
 obtain ⟨Y,sb⟩:=X.erase (j:=i) rfl
 rw [q8 (eO hk) hn hl h2] at q
 exact q _ _ _ ⟨_,_,Y,sb,rk.erase i,rv.erase i⟩
theorem vI {b:Addr}{Q:Value->Shared->Prop}(hu:A.units+41 < cLine) (hs:(d == sysModules)=false) (hb:(b == sysModules)=false) (X:bJ P s.heap d ks kx vx) (hob:s.heap.get? b=some emptyDict)
  (q:Q (.bool ks.isEmpty) s):wpAny (model P.prog P.w) A (compareOp .Eq (.ref d) (.ref b)) Q E s:=by
 have hTb:s.TypeIs (.ref b) "dict":=⟨_,hob,rfl⟩
 have hT:=X.typeIs
 obtain ⟨o,es,ep,ho,hc,hd,he,hn,hr⟩:=X
 have hl:=he.len.1
 rw [aM] at hl
 refine cmp_ofEq (wpAny_richCompare_same_room (op:=.Eq) hT hTb PySem.F.slot_dict_eq (aL PySem.F.slot_dict_eq hT PySem.F.entry_dict_eq ?_ (PySem.F.args_dict_eq_2 _ _)) (by lia))
 show wpAny _ _ (Builtin.Dict.dictSlotArgs "__eq__" ⟨[.ref d,.ref b],[]⟩ >>= _) _ _ s
 refine ad ?_
 unfold Builtin.Dict.dictSlotArgs
 refine ad (wpAny_notOrdered_dict hT ?_)
 refine ad (af ?_)
 refine af ?_
 refine ad (wpAny_isInstance hTb isSubtype_dict_dict ?_)
 simp only [Bool.not_true,Bool.false_eq_true,if_false]
 refine ad (af (ad (af (ad ?_))))
 unfold Builtin.Dict.samePairs Builtin.Dict.showsAll
 rw [if_neg (show ¬ (d == sysModules)=true by rw [hs]; exact aF),if_neg (show ¬ (b == sysModules)=true by rw [hb]; exact aF)]
 refine ad (af (ad (af ?_)))
 refine ad (wpAny_dictEntries ho hd ?_)
 dsimp only
 refine ad (wpAny_dictEntries hob rfl ?_)
 by_cases hsz:es.size=0
 ·have hks:ks=[]:=ba.mp (by lia)
  clear hT hTb hb hc he hn hob hr hs hu
  subst hks
  rw [if_neg (by rw [hsz]; decide)]
  refine ad (wpAny_dictEpoch ho hd ?_)
  rw [hsz]
  refine ad ?_
  rw [Std.Legacy.Range.forIn_eq_forIn_range']
  exact af (af (af ⟨_,rfl,(λe=>nomatch e),q⟩))
 ·have hks:ks.isEmpty=false:=by cases ks with | nil=>exact absurd hl hsz | cons=>rfl
  rw [hks] at q
  rw [if_pos (by simpa using hsz)]
  exact ad (wpAny_rule (af (af ⟨_,rfl,(λe=>nomatch e),q⟩)))
end
def gz (P:Pm) (fm:Fm) (pe:Expr) (ms:D) (st:Bool):Prop:=
 ∀ cf n,cx P cf n->∀ A γ s env ae g ks vs g',cU A n->bP P γ s.heap g->bG P γ s.heap fm env ae->ms cf ae g=some ((ks,vs),g')->∀ (Q:Value->Shared->Prop) (Ex:Value->Shared->Prop),
  (∀ a kx vx γ' h' tk,Ev γ s.heap γ' h'->bP P γ' h' g'->bG P γ' h' fm env ae->(st=true->γ'.role a=.frozen\/∃ i,γ'.role a=.own i)->bJ P h' a ks kx vx->bI P γ' h' ks kx->bI P γ' h' vs vx->(a == sysModules)=false ->
   Q (.ref a) (Sh s h' tk))->wpAny (model P.prog P.w) A (eval pe env) Q Ex s
section
variable {P:Pm}{K:Frag}{fm:Fm}{γ:Gh}{s:Shared}{env:Env}{ae:En}{g g':G}{h h':Heap}
theorem bP.notSys (I:bP P γ h g) {a:Addr}(hr:γ.role a≠.other):(a == sysModules)=false:=beq_eq_false_iff_ne.mpr λq=>hr (q ▸ I.sys.1)
theorem bN.dict {ro:cQ}{sl:bN}{x:Value}{ks vs:List V}(r:bT P γ h ro sl x) (e:w6 sl=some (ks,vs)):
  ∃ a kx vx,x=.ref a/\(γ.role a=ro\/γ.role a=.frozen)/\bJ P h a ks kx vx/\bI P γ h ks kx/\bI P γ h vs vx:=by
 have eQ:∀ {r':cQ}{ks' vs':List V},(∃ a kx vx,x=.ref a/\γ.role a=r'/\bJ P h a ks' kx vx/\bI P γ h ks' kx/\bI P γ h vs' vx)->some (ks',vs')=some (ks,vs)->(∀ {a},γ.role a=r'->γ.role a=ro\/γ.role a=.frozen) ->
   ∃ a kx vx,x=.ref a/\(γ.role a=ro\/γ.role a=.frozen)/\bJ P h a ks kx vx/\bI P γ h ks kx/\bI P γ h vs vx:=λr e k=>by
  cases e
  obtain ⟨a,kx,vx,e,ro,q⟩:=r
  exact ⟨a,kx,vx,e,k ro,q⟩
 cases sl with
 | val v=>cases v with
  | dct=>exact eQ r e .inr
  | _=>exact no e
 | ol xs=>exact no e
 | od ks' vs'=>exact eQ r e .inl
theorem oc {γ:Gh}{a:Addr}{ro:cQ}(h:γ.role a=ro\/γ.role a=.frozen) (hn:ro≠.other):γ.role a≠.other:=by
 rcases h with h | h <;> rw [h]
 ·exact hn
 ·exact λq=>nomatch q
theorem gz.var {x:Str}{pos:Pos}{i:Nat}(hx:fm.vis.lookup x=some i):gz P fm (.Name x pos) (.var i) true:=by
 intro cf n C A γ s env ae g ks vs g' R I Er e
 refine cu e λd e1 e2=>?_
 refine cu e1 λsl e4 e3=>?_
 clear C R e e1 n
 cases e2
 intro Q Ex q
 obtain ⟨y,r,rs⟩:=Er.get x i _ hx (cX e4)
 clear cf e4
 obtain ⟨a,kx,vx,rfl,hro,X,r1,r2⟩:=bN.dict rs e3
 exact wpAny_Name (cS (by rw [Er.sc]; exact Er.kind) r (q a kx vx γ s.heap s.toks .refl I Er (λzz=>hro.symm.imp id λh=>⟨i,h⟩) X r1 r2 (I.notSys (oc hro λq=>nomatch q)))) (Er.nd x i hx).2
theorem gz.attr {value:Expr}{a:E}{c k:Nat}{nm:Str}{pos:Pos}(Kn:ft P K) (S:bE P fm value a) (hn:(bH c)[k]?=some nm)
  (he:∀ env,eval (.Attribute value nm pos) env=(do
   let o ← eval value env
   standAt pos.atName
   let r ← holding [o] (getAttr o nm true)
   letTemporaryGo value o r
   pure r):=by intro _; with_unfolding_all rfl):gz P fm (.Attribute value nm pos) (.attr c k a) false:=by
 intro cf n C A γ s env ae g ks vs g' R I Er
 refine cC λx g1 e1=>gZ λd e2=>?_
 intro e
 refine cu e2 λsl e4 e3=>?_
 clear e2
 cases e
 intro Q Ex q
 refine Attribute_any_ (S.run C R I Er e1 λx γ1 h1 t1 f1 I1 E1 r1=>ly Kn I1 r1 e4 hn λy ro rs hro=>?_) (he env)
 clear C Er Ex I Kn R S e1 e4 g he hn n
 obtain ⟨b,kx,vx,rfl,hr,X,r1,r2⟩:=bN.dict rs e3
 exact q b kx vx γ1 h1 _ f1 I1 E1 (λq=>nomatch q) X r1 r2 (I1.notSys (oc hr (by rcases hro with rfl | ⟨_,_,rfl⟩ <;> exact λq=>nomatch q)))
theorem bJ.steady {a:Addr}{ks:List V}{kx vx:List Value}{γ':Gh}(X:bJ P h a ks kx vx) (hr:γ.role a=.frozen\/∃ i,γ.role a=.own i) (f:Ev γ h γ' h') (r:bI P γ' h' ks kx):bJ P h' a ks kx vx:=by
 obtain ⟨o,es,ep,ho,hc,hd,he,hn,zz⟩:=X
 refine ⟨o,es,ep,?_,hc,hd,he,hn,r.toK⟩
 rcases hr with hr | ⟨i,hr⟩
 ·exact (f.fro a o hr ho).2
 ·exact (f.own a o i hr ho).2
theorem bJ.keep' {a:Addr}{ks:List V}{kx vx:List Value}{γ':Gh}(X:bJ P h a ks kx vx) (k:∀ b o,h.get? b=some o->h'.get? b=some o) (r:bI P γ' h' ks kx):bJ P h' a ks kx vx:=by
 obtain ⟨o,es,ep,ho,hc,hd,he,hn,zz⟩:=X
 exact ⟨o,es,ep,k a o ho,hc,hd,he,hn,r.toK⟩
theorem yD {ks vs:List V}{x v:V}(h:(sf (ks,vs) x).bind id=some v):de ks x=true/\ed x ks vs=some (some v):=by
 refine cu h λo e h=>?_
 refine bU e λhk=>?_
 clear e
 intro e
 exact ⟨hk,e.trans (congrArg some h)⟩
theorem E.dget_inv {a:D}{b:E}{cf:Cf}{v:V}(e:(E.dget a b) cf ae g=some (v,g')):∃ ks vs g1 x,a cf ae g=some ((ks,vs),g1)/\b cf ae g1=some (x,g')/\de ks x=true/\ed x ks vs=some (some v):=by
 obtain ⟨⟨⟨ks,vs⟩,g1⟩,e1,e⟩:=ju e
 refine dC e λx g2 e2=>?_
 clear e
 intro e
 refine cu e λy e3=>?_
 clear e
 intro e
 cases e
 exact ⟨ks,vs,g1,x,e1,e2,yD e3⟩
theorem bE.dget {l r:Expr}{a:D}{b:E}{pos:Pos}(S:gz P fm l a true) (T:bE P fm r b) (hs:eZ r):bE P fm (.Subscript l r pos) (.dget a b):=by
 intro cf n C A γ s env ae g v g' R I Er e
 obtain ⟨ks,vs,g1,x,e1,e2,hk,e3⟩:=E.dget_inv e
 intro Q Ex q
 refine Subscript_ (S cf n C A γ s env ae g ks vs g1 R I Er e1 _ Ex λd kx vx γ1 h1 t1 f1 I1 E1 hst X rk rv zz=>T.run C R I1 E1 e2 λz γ2 h2 t2 f2 I2 E2 r2=>?_)
 have X2:=X.steady (hst rfl) f2 (rk.ev f2)
 exact eX (bJ.typeIs (s:=(Sh s h2 t2)) X2) slot_dict_getitem.lookup ⟨_,hs _ _⟩ (oS (R.line (by decide)) X2 (rv.ev f2) hk r2.toK e3 λy' ry=>q y' γ2 h2 _ (f1.trans f2) I2 ry)
def AN (P:Pm) (fm:Fm) (pe:Expr) (me:E):Prop:=
 ∀ cf A γ s env ae g v g',bP P γ s.heap g->bG P γ s.heap fm env ae->me cf ae g=some (v,g')->∀ (Q:Value->Shared->Prop) (Ex:Value->Shared->Prop),
  (∀ x γ' h' tk,Ev γ s.heap γ' h'->bP P γ' h' g'->(∀ b o,s.heap.get? b=some o->h'.get? b=some o)->bM P γ' h' v x->Q x (Sh s h' tk))->wpAny (model P.prog P.w) A (eval pe env) Q Ex s
theorem AN.pair {x y:Str}{p1 p2 pos:Pos}{m:Nat}{i j:Nat}(hx:fm.vis.lookup x=some i) (hy:fm.vis.lookup y=some j):AN P fm (.Tuple [.Name x p1,.Name y p2] m pos) (.tup [.var i,.var j]):=by
 intro cf A γ s env ae g v g' I Er e
 have var:∀ {k:Nat}{u:V}{g g1:G},(E.var k) cf ae g=some (u,g1)->ae[k]?=some (some (.val u))/\g1=g:=λe=>by
  refine cu e λu e1 e2=>?_
  refine cu e1 λsl e4 e3=>?_
  clear A
  cases e2
  rw [d5 e3] at e4
  exact ⟨cX e4,rfl⟩
 refine Cx e λvs e1 e5=>?_
 clear e
 obtain ⟨u,g1,us,e2,e3,h3⟩:=kY e1
 obtain ⟨z,g2,ws,e4,e6,h4⟩:=kY e3
 clear e1 e3
 cases e6
 subst h4
 subst h3
 cases e5
 obtain ⟨h1,rfl⟩:=var e2
 clear e2
 obtain ⟨h2,rfl⟩:=var e4
 intro Q Ex q
 obtain ⟨xa,ra,rsa⟩:=Er.get x i _ hx h1
 obtain ⟨xb,rb,rsb⟩:=Er.get y j _ hy h2
 have hk:env.scope.kind=.function:=by rw [Er.sc]; exact Er.kind
 have N:=fh I (vs:=[u,z]) (xs:=[xa,xb]) (.cons rsa (.cons rsb .nil))
 exact wpAny_Tuple (args_cons (wpAny_Name (cS hk ra (args_cons (wpAny_Name (cS hk rb (args_nil ⟨by show 2<=sizeLine; exact sz 2 (by decide),q _ _ _ s.toks N.1 N.2.1 (λb o e=>ag _ e) N.2.2⟩)) (Er.nd y j hy).2) rfl)) (Er.nd x i hx).2) rfl)
theorem bE.dgetG {l r:Expr}{a:D}{b:E}{pos:Pos}(S:gz P fm l a false) (T:AN P fm r b) (hs:eZ r):bE P fm (.Subscript l r pos) (.dget a b):=by
 intro cf n C A γ s env ae g v g' R I Er e
 obtain ⟨ks,vs,g1,x,e1,e2,hk,e3⟩:=E.dget_inv e
 intro Q Ex q
 refine Subscript_ (S cf n C A γ s env ae g ks vs g1 R I Er e1 _ Ex λd kx vx γ1 h1 t1 f1 I1 E1 hst X rk rv zz=>T cf A γ1 _ env ae g1 x _ I1 E1 e2 _ Ex λz γ2 h2 t2 f2 I2 k2 r2=>?_)
 have X2:=X.keep' k2 (rk.ev f2)
 exact eX (bJ.typeIs (s:=(Sh s h2 t2)) X2) slot_dict_getitem.lookup ⟨_,hs _ _⟩ (oS (R.line (by decide)) X2 (rv.ev f2) hk r2.toK e3 λy' ry=>q y' γ2 h2 _ (f1.trans f2) I2 ry)
theorem bE.dhas {neg st:Bool}{l r:Expr}{a:D}{b:E}{pos:Pos}(S:gz P fm r a st) (T:bE P fm l b) (hm:behindInMarks (if neg then .NotIn else .In) r=false:=by with_unfolding_all rfl):bE P fm (.Compare l [if neg then .NotIn else .In] [r] pos) (.dhas neg a b):=by
 intro cf n C A γ s env ae g v g' R I Er
 refine cC λx g1 e1=>?_
 intro e
 obtain ⟨⟨⟨ks,vs⟩,g2⟩,e2,e⟩:=ju e
 refine cu e λres e3=>?_
 clear e
 intro e
 refine bU e3 λhk=>?_
 clear e3
 intro e3
 cases e
 intro Q Ex q
 exact wpAny_Compare1 (T.run C R I Er e1 λz γ1 h1 t1 f1 I1 E1 r1=>S cf n C A γ1 _ env ae g1 ks vs _ R I1 E1 e2 _ Ex λd kx vx γ2 h2 t2 f2 I2 E2 hst X rk rv hsy=>
  Ba (s:=(Sh s h2 t2)) (R.line (by decide)) hsy X rv hk (r1.ev f2).toK e3 (q _ γ2 h2 _ (f1.trans f2) I2 rfl)) hm
theorem tK (I:bP P γ h g):Ev γ h (γ.put h.objs.size .frozen) (h.push emptyDict)/\bP P (γ.put h.objs.size .frozen) (h.push emptyDict) g/\bM P (γ.put h.objs.size .frozen) (h.push emptyDict) (.dct [] []) (.ref h.objs.size):=by
 refine ⟨Ev.push I _ _,I.push _ rfl _ (λn t e=>nomatch e),?_⟩
 exact ⟨_,[],[],rfl,cz,⟨_,#[],0,ah _ rfl,⟨rfl,rfl,rfl⟩,rfl,.nil,List.nodup_nil,rfl⟩,.nil,.nil⟩
theorem bE.dct0 {pos:Pos}:bE P fm (.Dict [] [] pos) .dct0:=by
 intro cf n C A γ s env ae g v g' R I Er e
 clear C Er R n
 cases e
 intro Q Ex q
 obtain ⟨f,J,r⟩:=tK I
 rw [eval_Dict_empty]
 exact ad (bp (aV (q _ _ _ s.toks f J r)))
theorem bE.dempty {st:Bool}{l:Expr}{a:D}{pos p:Pos}(S:gz P fm l a st):bE P fm (.Compare l [.Eq] [.Dict [] [] p] pos) (.dempty a):=by
 intro cf n C A γ s env ae g v g' R I Er e
 obtain ⟨⟨⟨ks,vs⟩,g1⟩,e1,e⟩:=ju e
 cases e
 intro Q Ex q
 refine wpAny_Compare1 (S cf n C A γ s env ae g ks vs _ R I Er e1 _ Ex λd kx vx γ1 h1 t1 f1 I1 E1 hst X rk rv hsy=>?_) (by with_unfolding_all rfl)
 obtain ⟨f,J,r⟩:=tK I1
 rw [eval_Dict_empty]
 exact ad (bp (aV (vI (s:=(Sh s (h1.push emptyDict) t1)) (R.line (by decide)) hsy (J.notSys (by rw [cz]; exact λq=>nomatch q)) (X.keep' (λb o e=>ag _ e) (rk.ev f)) (ah _ rfl) (q _ _ _ t1 (f1.trans f) J rfl))))
end
section
variable {P:Pm}{K:Frag}{fm:Fm}{cf:Cf}{n:Nat}{A:Around}{γ:Gh}{s:Shared}{env:Env}{ae:En}{g g':G}{h h':Heap}{Ex:Value->Shared->Prop}
theorem Ev.grow (k:∀ b o,h.get? b=some o->h'.get? b=some o):Ev γ h γ h':=⟨λa o r e=>⟨r,k a o e⟩,λa o r e=>⟨r,k a o e⟩,λa o i r e=>⟨r,k a o e⟩,ak _,λzz zz=>rfl⟩
theorem bP.grow (I:bP P γ h g) (k:∀ b o,h.get? b=some o->h'.get? b=some o):bP P γ h' g:=
 I.keep (Ev.grow k).fro rfl (λzz zz=>rfl) (λa ha=>by
  obtain ⟨o,ho⟩:=aq.mp (I.wf a ha)
  rw [k a o ho]; rfl) (λa o n t r e=>⟨r,k a o e⟩) (λa o zz r e=>⟨r,k a o e⟩) (λo r e=>⟨r,k _ o e⟩)
theorem k7 {o:Expr}{nm:Str}{apos pos:Pos}{pe:Expr}{pes:List Expr}{T id:String}{Q:Value->Shared->Prop}{pl:Env->Sem Bool}(pa:PlainAttrs T) (slot:PySem.Slot T nm id) (hty:typeOf (.builtin id)=pure (.type "method_descriptor"))
  (he:cq o nm apos pos (pe::pes) pl) (h1:∀ env,starEach (pe::pes) env=(false,eval pe env)::starEach pes env) (h2:dD pes)
  (h:wpAny (model P.prog P.w) A (eval o env) (λov s₁=>s₁.TypeIs ov T/\(∀ a,ov=.ref a->∃ ob,s₁.heap.get? a=some ob/\ob.dict=none) /\
   wpAny (model P.prog P.w) A (spliced (backTo pos (starEach (pe::pes) env))) (λvs s₂=>wpAny (model P.prog P.w) A (call (.builtin id) (ov::vs)) Q Ex s₂) Ex s₁) Ex s):
  wpAny (model P.prog P.w) A (eval (.Call (.Attribute o nm apos) (pe::pes) [] pos) env) Q Ex s:=by
 refine methodCall_KW (wpAny_mono h (λov s₁ h₁=>?_) λzz zz e=>e) (he env)
 obtain ⟨hT,hd,hc⟩:=h₁
 refine getMethod_builtin hT pa slot hty hd ?_
 show wpAny _ _ (callWith pos (.builtin id) [ov] (backTo pos (starEach (pe::pes) env)) []) _ _ _
 rw [h1 env] at hc ⊢
 exact callWith_builtin (by show (false || (backTo pos (starEach pes env)).any (·.1))=false; rw [h2 pos env]; rfl) (evalArgs_plain hc)
theorem bE.dgetD {st:Bool}{x:Str}{p apos pos:Pos}{k d:Expr}{i:Nat}{b c:E}(hx:fm.vis.lookup x=some i) (T:dM P fm [k,d] [b,c])
  {pl:Env->Sem Bool}(he:cq (.Name x p) "get" apos pos [k,d] pl) (h1:∀ env,starEach [k,d] env=(false,eval k env)::starEach [d] env) (h2:dD [d]):
  bE P fm (.Call (.Attribute (.Name x p) "get" apos) [k,d] [] pos) (.dgetD (.var i) b c):=by
 intro cf n C A γ s env ae g v g' R I Er e
 obtain ⟨⟨⟨ks,vs⟩,g1⟩,e1,e⟩:=ju e
 refine dC e λu g2 e2=>?_
 clear e
 intro e
 refine dC e λz g3 e3=>?_
 clear e
 intro e
 refine cu e λres e4=>?_
 clear e
 intro e
 refine bU e4 λhk=>?_
 clear e4
 intro e4
 cases e
 intro Q Ex q
 refine k7 PySem.F.plainAttrs_dict PySem.F.slot_dict_get PySem.F.type_dict_get he h1 h2 ?_
 refine gz.var hx cf n C A γ s env ae g ks vs g1 R I Er e1 _ Ex λa kx vx γ1 h1' t1 f1 I1 E1 hst X rk rv hsy=>⟨bJ.typeIs (s:=(Sh s h1' t1)) X,λb hb=>?_,?_⟩
 ·clear Er I e e1 g h1 h2 he hx
  cases hb
  obtain ⟨o,es,ep,ho,hc,zz⟩:=X
  exact ⟨o,ho,hc.2.1⟩
 ·refine T cf n C A γ1 _ env ae g1 [u,z] g3 R I1 E1 (bL e2 (bL (bL e3 rfl) rfl)) pos _ Ex λxs γ2 h2' t2 f2 I2 E2 r2=>?_
  clear C E1 E2 Er I I1 T e e1 e2 e3 env g h1 h2 he hx
  obtain ⟨x1,r,rfl,ru,x2,r,rfl,rz,rfl⟩:=r2
  exact wA (s:=(Sh s h2' t2)) (R.line (by decide)) hsy (X.steady (hst rfl) f2 (rk.ev f2)) (rv.ev f2) hk ru.toK e4 rz λy ry=>q y γ2 h2' _ (f1.trans f2) I2 ry
theorem gv {x:Str}{p pos:Pos}{pe:Expr}{me:E}{w:Value}{u:V}{Q:Value->Shared->Prop}(r:jE P fm x w) (hv:(∃ id,w=.builtin id)\/(∃ t,w=.type t)) (S:bE P fm pe me) (he:∀ env,starEach [pe] env=(false,eval pe env)::starEach [] env)
  (C:cx P cf n) (R:cU A n) (I:bP P γ s.heap g) (Er:bG P γ s.heap fm env ae) (e:me cf ae g=some (u,g'))
  (q:∀ y γ' h' tk,Ev γ s.heap γ' h'->bP P γ' h' g'->bG P γ' h' fm env ae->bM P γ' h' u y->wpAny (model P.prog P.w) A (PySem.call w [y]) Q Ex (Sh s h' tk)):wpAny (model P.prog P.w) A (eval (.Call (.Name x p) [pe] [] pos) env) Q Ex s:=by
 refine oH (g':=g') (mes:=[me]) (vs:=[u]) r (.cons S .nil he) hv he (λzz zz=>rfl) C R I Er (bL e rfl) λxs γ1 h1 t1 f1 I1 E1 r1=>?_
 clear C Er I R S e he hv
 obtain ⟨y,r,rfl,ry,rfl⟩:=r1
 exact q y γ1 h1 t1 f1 I1 E1 ry
theorem bE.nm1 {x:Str}{p pos:Pos}{pe:Expr}{me:E}{w:Value}{f:G->V->Option V}(r:jE P fm x w) (hv:(∃ id,w=.builtin id)\/(∃ t,w=.type t)) (S:bE P fm pe me) (he:∀ env,starEach [pe] env=(false,eval pe env)::starEach [] env)
  (k:∀ {A γ s g y u z},f g u=some z->bP P γ s.heap g->bM P γ s.heap u y->cb P A (PySem.call w [y]) γ s z g):bE P fm (.Call (.Name x p) [pe] [] pos) (Mine.xR f me):=by
 intro cf n C A γ s env ae g v g' R I Er e
 refine zV e λu e1 e2=>?_
 intro Q Ex q
 exact gv r hv S he C R I Er e1 λy γ1 h1 t1 f1 I1 E1 ry=>k e2 I1 ry Q Ex λz γ2 h2 t2 f2 I2 r2=>q z γ2 h2 t2 (f1.trans f2) I2 r2
theorem gb {v:V}{xs:List V}(h:gj v=some xs):(v=.tup xs\/v=.lst xs)/\xs.length<=lim:=by
 cases v with
 | tup=>refine bU h λl h=>?_; cases h; exact ⟨.inl rfl,l⟩
 | lst=>refine bU h λl h=>?_; cases h; exact ⟨.inr rfl,l⟩
 | _=>exact no h
theorem bE.len {x:Str}{p pos:Pos}{pe:Expr}{me:E}(r:jE P fm x (.builtin "len")) (S:bE P fm pe me) (he:∀ env,starEach [pe] env=(false,eval pe env)::starEach [] env):
  bE P fm (.Call (.Name x p) [pe] [] pos) (.len me):=
 bE.nm1 r (.inl ⟨_,rfl⟩) S he λe I ry=>by
  refine cu e λxs e1 e2=>?_
  refine cb.v e2 ?_
  obtain ⟨h,hl⟩:=gb e1
  clear e e1
  clear S e2 he r
  rcases h with rfl | rfl
  ·obtain ⟨a,its,rfl,zz,ti,li⟩:=ry
   have hsz:its.size=_:=li.length
   exact λQ Ex q=>PyProof.Rows.len_tuple ti (by rw [hsz]; simp only [lim] at hl; omega) (q _ _ _ _ .refl I ⟨_,by rw [hsz]⟩)
  ·obtain ⟨a,its,rfl,zz,ti,li⟩:=ry
   have hsz:its.size=_:=li.length
   exact λQ Ex q=>call_len_list ti.isList (by rw [hsz]; simp only [lim] at hl; omega) (q _ _ _ _ .refl I ⟨_,by rw [hsz]⟩)
theorem bE.lenOwn {x y:Str}{p p2 pos:Pos}{i:Nat}(r:jE P fm x (.builtin "len")) (hy:fm.vis.lookup y=some i):bE P fm (.Call (.Name x p) [.Name y p2] [] pos) (.lenOwn i):=by
 intro cf n C A γ s env ae g v g' R I Er
 refine gZ λxs h1=>c9 λhl=>cb.of' ?_
 intro Q Ex q
 obtain ⟨u,ru,rs⟩:=Er.get y i _ hy (fY h1)
 clear C R cf g' h1 n v
 obtain ⟨a,its,rfl,zz,ti,li⟩:=rs
 have hsz:its.size=_:=li.length
 exact Call_Name rfl (r.load I Er (callWith_builtin1 (args_cons (wpAny_Name (cS (by rw [Er.sc]; exact Er.kind) ru (args_nil (call_len_list ti.isList (by rw [hsz]; simp only [lim] at hl; omega) (q _ γ s.heap _ .refl I ⟨_,by rw [hsz]⟩)))) (Er.nd y i hy).2) rfl) rfl rfl))
theorem bE.tupleOf {x:Str}{p pos:Pos}{pe:Expr}{me:E}(r:jE P fm x (.type "tuple")) (S:bE P fm pe me) (he:∀ env,starEach [pe] env=(false,eval pe env)::starEach [] env):
  bE P fm (.Call (.Name x p) [pe] [] pos) (.tupleOf me):=
 bE.nm1 r (.inr ⟨_,rfl⟩) S he λe I ry=>by
  refine cu e λxs e1 e2=>?_
  refine cb.v e2 ?_
  obtain ⟨h,hl⟩:=gb e1
  clear e e1
  clear S e2 he r
  rcases h with rfl | rfl
  ·obtain ⟨a,its,rfl,ro,ti,li⟩:=ry
   exact λQ Ex q=>call_tuple_same ti (q _ _ _ _ .refl I ⟨a,its,rfl,ro,ti,li⟩)
  ·obtain ⟨a,its,rfl,zz,ti,li⟩:=ry
   have hsz:its.size=_:=li.length
   refine λQ Ex q=>call_tuple_list ti.isList (λh2 k=>?_) (by rw [hsz]; exact sz _ hl)
   have N:=fh (I.grow k) (li.ev (Ev.grow k))
   exact q _ _ _ _ ((Ev.grow k).trans N.1) N.2.1 N.2.2
theorem vh {h2:Heap}{o:Obj}(I:bP P γ h g) (k:∀ b o,h.get? b=some o->h2.get? b=some o) (hn:h2.get? h.objs.size=some o):Ev γ h (γ.put h.objs.size .frozen) h2/\bP P (γ.put h.objs.size .frozen) h2 g:=by
 have pk:∀ {a:Addr}{o:Obj}{r:cQ},γ.role a=r->h.get? a=some o->(γ.put h.objs.size .frozen).role a=r/\h2.get? a=some o:=λhr e=>⟨(bK (cT e)).trans hr,k _ _ e⟩
 have f2:Ev γ h (γ.put h.objs.size .frozen) h2:=⟨λzz zz=>pk,λzz zz=>pk,λzz zz zz=>pk,ak _,λzz zz=>rfl⟩
 refine ⟨f2,I.keep f2.fro rfl (λzz zz=>rfl) (λa ha=>?_) (λzz zz zz zz=>pk) (λzz zz zz=>pk) λzz=>pk⟩
 by_cases hs:a=h.objs.size
 ·rw [hs,hn]; rfl
 ·rw [bK hs] at ha
  obtain ⟨x,hx⟩:=aq.mp (I.wf a ha)
  rw [k _ _ hx]; rfl
theorem bE.listOf {x:Str}{p pos:Pos}{pe:Expr}{me:E}(r:jE P fm x (.type "list")) (S:bE P fm pe me) (he:∀ env,starEach [pe] env=(false,eval pe env)::starEach [] env):
  bE P fm (.Call (.Name x p) [pe] [] pos) (.listOf me):=
 bE.nm1 r (.inr ⟨_,rfl⟩) S he λ{A γ s g y u v} e I ry=>by
  refine cu e λz e1=>?_
  clear e
  intro e
  have dA:∃ (a:Addr) (o:Obj) (its:Array Value) (T:String) (k:Nat),y=.ref a/\(T="list"\/T="tuple")/\s.heap.get? a=some o/\o.cls=.type T/\o.data=.seq its k/\bI P γ s.heap z its.toList:=by
   clear S he r
   obtain ⟨rfl | rfl,hl⟩:=gb e1
   ·obtain ⟨a,its,e,zz,⟨o,ho,hc,k,hd⟩,li⟩:=ry
    exact ⟨a,o,its,"tuple",k,e,.inr rfl,ho,hc,hd,li⟩
   ·obtain ⟨a,its,e,zz,⟨k,ho⟩,li⟩:=ry
    exact ⟨a,_,its,"list",k,e,.inl rfl,ho,rfl,rfl,li⟩
  clear S he r ry
  obtain ⟨a,o,its,T,k,rfl,hT,ho,hc,hd,li⟩:=dA
  have hsz:its.size=_:=li.length
  cases e
  refine λQ Ex q=>call_list_seq a hT ho hc hd (λh2 c k hn=>?_) (by rw [hsz]; exact sz _ (gb e1).2)
  have N:=vh I k hn
  exact q _ _ h2 _ N.1 N.2 ⟨_,its,rfl,cz,⟨c,hn⟩,li.ev N.1⟩
theorem bE.intOf {x:Str}{p pos:Pos}{pe:Expr}{me:E}(r:jE P fm x (.type "int")) (S:bE P fm pe me) (he:∀ env,starEach [pe] env=(false,eval pe env)::starEach [] env):
  bE P fm (.Call (.Name x p) [pe] [] pos) (.intOf me):=
 bE.nm1 r (.inr ⟨_,rfl⟩) S he λ{A γ s g y u v} e I ry=>by
  clear S he r
  cases u with
  | int=>cases e; obtain ⟨t,rfl⟩:=ry; exact λQ Ex q=>PySem.call_int_int (q _ _ _ _ .refl I ⟨t,rfl⟩)
  | bool=>cases e; cases ry; exact λQ Ex q=>PySem.call_int_bool (q _ _ _ _ .refl I ⟨_,rfl⟩)
  | _=>exact no e
end
section
variable {P:Pm}{K:Frag}{γ γ':Gh}{h h':Heap}{fm:Fm}{env:Env}{ae:En}{g:G}{Pl Pl':Addr->Prop}
theorem dw.ext {d:Addr}(ks:Heap.ExtBut d h h') (hd:γ.role d=.other) (hp:Pl d):dw Pl γ h γ h':=
 ⟨λa o ra e=>⟨ra,ks a o (λq=>by rw [q,hd] at ra; cases ra) e⟩,λa o ra n e=>⟨ra,ks a o (λq=>n (q ▸ hp)) e⟩,
  λa o i ra e=>⟨ra,ks a o (λq=>by rw [q,hd] at ra; cases ra) e⟩,ak _,λzz zz=>rfl⟩
theorem bP.ext {d:Addr}(I:bP P γ h g) (ks:Heap.ExtBut d h h') (hd:γ.role d=.other) (h0:P.h0.get? d=none):bP P γ h' g:=by
 have ne:∀ {a:Addr}{r:cQ},γ.role a=r->r≠.other->a≠d:=λra n q=>by rw [q,hd] at ra; exact n ra.symm
 refine I.keep (λa o ra e=>⟨ra,ks a o (ne ra (λq=>nomatch q)) e⟩) rfl (λzz zz=>rfl) (λa ra=>?_) (λa o n t ra e=>⟨ra,ks a o (ne ra (λq=>nomatch q)) e⟩)
  (λa o hs ra e=>⟨ra,ks a o (λq=>by rw [q,h0] at hs; cases hs) e⟩) (λo ra e=>⟨ra,ks _ o (ne ra (λq=>nomatch q)) e⟩)
 obtain ⟨o,ho⟩:=aq.mp (I.wf a ra)
 rw [ks a o (ne rfl ra) ho]; rfl
theorem bG.p (f:dw Pl γ h γ' h') (hn:∀ a,cc env a->¬ Pl a) (E:bG P γ h fm env ae):bG P γ' h' fm env ae:=by
 have hl:∀ {a:Addr}{m:Str->Option Value},cc env a->γ.role a=.other->h.Ns a m->γ'.role a=.other/\h'.Ns a m:=λhp r x=>by
  obtain ⟨o,es,ep,ho,q⟩:=x
  exact ⟨(f.oth _ o r (hn _ hp) ho).1,o,es,ep,(f.oth _ o r (hn _ hp) ho).2,q⟩
 have hc:∀ {a:Addr}{v:Option Value},cc env a->γ.role a=.other->h.IsCell a v->γ'.role a=.other/\h'.IsCell a v:=λhp r x=>by
  obtain ⟨o,ho,q⟩:=x
  exact ⟨(f.oth _ o r (hn _ hp) ho).1,o,(f.oth _ o r (hn _ hp) ho).2,q⟩
 refine ⟨E.sc,E.cd,E.qu,E.kind,E.glo,E.bui,E.inj,E.nd,?_,λx c e=>?_,E.apart,E.has,λx i sl a b=>?_⟩
 ·obtain ⟨r,n,m,q⟩:=E.loc
  exact ⟨(hl (.inl rfl) r q).1,n,m,(hl (.inl rfl) r q).2⟩
 ·obtain ⟨r,n,v,q⟩:=E.cel x c e
  exact ⟨(hc (.inr ⟨x,e⟩) r q).1,n,v,(hc (.inr ⟨x,e⟩) r q).2⟩
 ·obtain ⟨v,r,q⟩:=E.get x i sl a b
  refine ⟨v,?_,q.glob f.fro f.gn f.ga λa o r e=>f.own a o i r e⟩
  rcases r with ⟨k,m,b,d⟩ | ⟨k,n,c,b,d⟩
  ·exact .inl ⟨k,m,(hl (.inl rfl) E.loc.1 b).2,d⟩
  ·exact .inr ⟨k,n,c,b,(hc (.inr ⟨x,b⟩) (E.cel x c b).1 d).2⟩
def Wr (Pl:Addr->Prop) (fm:Fm) (env:Env) (x:Str):Prop:=(fm.sc.names.lookup x=some .local/\Pl env.locals)\/(fm.sc.names.lookup x=some .cell/\∀ c,env.cells.lookup x=some c->Pl c)
inductive vQ (fm:Fm) (lo:Bool):List Expr->List Nat->Prop
 | nil:vQ fm lo [] []
 | cons {x:Str}{p:Pos}{i:Nat}{es:List Expr}{is:List Nat}:fm.vis.lookup x=some i->(fm.sc.names.lookup x=some .local\/(lo=false/\fm.sc.names.lookup x=some .cell))->vQ fm lo es is->vQ fm lo (.Name x p::es) (i::is)
def qc (Pl:Addr->Prop) (fm:Fm) (env:Env) (lo:Bool):Prop:=∀ x,(fm.sc.names.lookup x=some .local\/(lo=false/\fm.sc.names.lookup x=some .cell))->Wr Pl fm env x
theorem vQ.len {es:List Expr}{is:List Nat}{lo:Bool}(t:vQ fm lo es is):es.length=is.length:=by
 induction t with
 | nil=>rfl
 | cons _ _ _ ih=>simp [ih]
theorem vQ.each {es:List Expr}{is:List Nat}{lo:Bool}(t:vQ fm lo es is) (env:Env):(assignEach es env).length=es.length/\(assignEach es env).findIdx? (·.1)=none:=by
 induction t with
 | nil=>exact ⟨rfl,rfl⟩
 | @cons x p i es is _ _ _ ih=>
  have e:assignEach (.Name x p::es) env=(false,assign (.Name x p) env)::assignEach es env:=rfl
  rw [e]
  refine ⟨by simp [ih.1],?_⟩
  rw [List.findIdx?_cons]
  simp [ih.2]
theorem vQ.stores {M:Model}{A:Around}{es:List Expr}{is:List Nat}{lo:Bool}(t:vQ fm lo es is):∀ {γ:Gh}{s:Shared}{ae:En}{vs:List V}{xs:List Value}{Q:Unit->Shared->Prop}{Ex:Value->Shared->Prop},
  bG P γ s.heap fm env ae->bP P γ s.heap g->qc Pl fm env lo->bI P γ s.heap vs xs->vs.length=is.length ->
  (∀ h' tk,dw Pl γ s.heap γ h'->bP P γ h' g->bG P γ h' fm env (bZ ae is vs)->Q () (Sh s h' tk)) ->
  wpAny M A (assignInOrder ((assignEach es env).map (·.2)) xs) Q Ex s:=by
 induction t with
 | nil=>
  intro γ s ae vs xs Q Ex E I W r hl q
  have:vs=[]:=ba.mp hl
  subst this
  cases r.inv_nil
  exact wpAny_assignInOrder_none (q s.heap s.toks .refl I E)
 | @cons x p i es is hx hk t ih=>
  intro γ s ae vs xs Q Ex E I W r hl q
  cases vs with
  | nil=>simp at hl
  | cons v vs=>
  obtain ⟨y,ys,rfl,r1,r2⟩:=r.inv
  refine wpAny_assignInOrder_more (t:=assign (.Name x p) env) (wpAny_assign_Name (dO (sl:=.val v) E I hx (W x hk) r1 λh1 t1 f1 I1 E1=>?_))
  exact ih E1 I1 W (r2.evP f1) (by simpa using hl) λh2 t2 f2 I2 E2=>q h2 t2 (f1.trans f2) I2 E2
inductive pi (fm:Fm) (lo:Bool):Expr->List Nat->Prop
 | one {x:Str}{p:Pos}{i:Nat}:fm.vis.lookup x=some i->(fm.sc.names.lookup x=some .local\/(lo=false/\fm.sc.names.lookup x=some .cell))->pi fm lo (.Name x p) [i]
 | many {es:List Expr}{is:List Nat}{c:Nat}{p:Pos}:vQ fm lo es is->is.length≠1->pi fm lo (.Tuple es c p) is
inductive fj (P:Pm) (γ:Gh) (h:Heap) (I:Addr):List V->Prop
 | list {l:Addr}{its:Array Value}{i:Nat}{vs:List V}:γ.role l=.frozen->h.IsListIter I l i->h.PlainList l its->bI P γ h vs its.toList->fj P γ h I (vs.drop i)
 | tup {l:Addr}{its:Array Value}{i:Nat}{vs:List V}:γ.role l=.frozen->h.IsTupleIter I l i->h.IsTuple l its->bI P γ h vs its.toList->fj P γ h I (vs.drop i)
 | range {x:Int}{n:Nat}:IsRangeIter h I x n 1->fj P γ h I ((List.range n).map λ(k:Nat)=>.int (x+k))
 | rev {l:Addr}{its:Array Value}{i:Nat}{vs:List V}:γ.role l=.frozen->h.IsRevIter I l ((i:Int) - 1)->h.PlainList l its->bI P γ h vs its.toList->i<=vs.length->fj P γ h I (vs.take i).reverse
theorem fj.keep {I:Addr}{xs:List V}(b:fj P γ h I xs) (k:∀ o,h.get? I=some o->h'.get? I=some o) (f:fo γ h γ' h') (hg:γ.gn<=γ'.gn) (hga:∀ n,n < γ.gn->γ'.ga n=γ.ga n):fj P γ' h' I xs:=by
 cases b with
 | list a b c d=>exact .list (f.list a c).1 (let ⟨o,ho,q⟩:=b; ⟨o,k o ho,q⟩) (f.list a c).2 (d.mono f hg hga)
 | tup a b c d=>exact .tup (f.tuple a c).1 (let ⟨o,ho,q⟩:=b; ⟨o,k o ho,q⟩) (f.tuple a c).2 (d.mono f hg hga)
 | range a=>exact .range (k _ a)
 | rev a b c d e=>exact .rev (f.list a c).1 (let ⟨o,ho,q⟩:=b; ⟨o,k o ho,q⟩) (f.list a c).2 (d.mono f hg hga) e
section
variable {A:Around}{s:Shared}{Ex:Value->Shared->Prop}{I:Addr}
theorem oX {d:Addr}(ks:Heap.ExtBut d h h') (hd:γ.role d=.other):fo γ h γ h':=λa o ra e=>⟨ra,ks a o (λq=>by rw [q,hd] at ra; cases ra) e⟩
theorem fj.next {x:V}{r:List V}{Q:Option Value->Shared->Prop}(hd:γ.role I=.other) (b:fj P γ s.heap I (x::r))
  (q:∀ v h' tk,bM P γ s.heap x v->Heap.SameBut I s.heap h'->fj P γ h' I r->Q (some v) (Sh s h' tk)):wpAny (model P.prog P.w) A (pyNext (.ref I)) Q Ex s:=by
 generalize hxs:x::r=xs at b
 cases b with
 | @list l its i vs ro hit hl rl=>
  have hx:vs[i]?=some x:=by rw [← List.head?_drop,← hxs]; rfl
  obtain ⟨v,hv,rv⟩:=rl.get hx
  refine wpAny_pyNext_list_item hit hl.isList (x:=v) (by rw [← aK]; exact hv) λh' hit' ks=>q v h' s.toks rv ks ?_
  have fr:=oX (γ:=γ) ks.extBut hd
  have hr:r=vs.drop (i+1):=by rw [← List.tail_drop,← hxs]; rfl
  rw [hr]
  exact .list ro hit' (fr.list ro hl).2 (rl.mono fr (ak _) λzz zz=>rfl)
 | @tup l its i vs ro hit hl rl=>
  have hx:vs[i]?=some x:=by rw [← List.head?_drop,← hxs]; rfl
  obtain ⟨v,hv,rv⟩:=rl.get hx
  refine wpAny_pyNext_tuple_item hit hl (x:=v) (by rw [← aK]; exact hv) λh' hit' ks=>q v h' s.toks rv ks ?_
  have fr:=oX (γ:=γ) ks.extBut hd
  have hr:r=vs.drop (i+1):=by rw [← List.tail_drop,← hxs]; rfl
  rw [hr]
  exact .tup ro hit' (fr.tuple ro hl).2 (rl.mono fr (ak _) λzz zz=>rfl)
 | @range y n hit=>
  cases n with
  | zero=>cases hxs
  | succ n=>
   rw [List.range_succ_eq_map] at hxs
   simp only [List.map_cons,List.map_map,List.cons.injEq] at hxs
   obtain ⟨rfl,rfl⟩:=hxs
   refine wpAny_pyNext_range_item hit (by omega) λh' hit' ks=>?_
   have e:(List.map ((λ(k:Nat)=>V.int (y+k))∘Nat.succ) (List.range n))=(List.range n).map λ(k:Nat)=>.int ((y+1)+k):=by
    apply List.map_congr_left
    intro k _
    simp only [Function.comp]
    congr 1
    lia
   rw [e] at q
   have hit2:IsRangeIter h' I (y+1) n 1:=by
    have:((n:Nat)+1:Nat) - 1=(n:Int):=by omega
    have e2:(((n+1:Nat):Int) - 1)=(n:Int):=by omega
    rw [e2] at hit'
    exact hit'
   exact q _ h' _ (⟨s.toks,by congr 1; lia⟩) ks (.range hit2)
 | @rev l its i vs ro hit hl rl hi=>
  cases i with
  | zero=>simp at hxs
  | succ i=>
   have hlt:i < vs.length:=by omega
   have e:(vs.take (i+1)).reverse=vs[i]::(vs.take i).reverse:=by
    rw [List.take_succ_eq_append_getElem hlt,List.reverse_append]; rfl
   rw [e] at hxs
   obtain ⟨rfl,rfl⟩:=List.cons.inj hxs
   obtain ⟨v,hv,rv⟩:=rl.get (aN hlt)
   have e2:(((i+1:Nat):Int) - 1)=(i:Int):=by omega
   rw [e2] at hit
   refine wpAny_pyNext_rev_item hit hl.isList (x:=v) (by rw [← aK]; exact hv) λh' hit' ks=>q v h' s.toks rv ks ?_
   have fr:=oX (γ:=γ) ks.extBut hd
   exact .rev ro hit' (fr.list ro hl).2 (rl.mono fr (ak _) λzz zz=>rfl) (by omega)
theorem fj.done {Q:Option Value->Shared->Prop}(hh:A.handled=none) (b:fj P γ s.heap I []) (q:∀ h' tk,Heap.ExtBut I s.heap h'->Q none (Sh s h' tk)):wpAny (model P.prog P.w) A (pyNext (.ref I)) Q Ex s:=by
 generalize hxs:([]:List V)=xs at b
 cases b with
 | @list l its i vs ro hit hl rl=>
  have hlen:=rl.length
  have:vs.length<=i:=by have:=congrArg List.length hxs; simp at this; omega
  exact wpAny_pyNext_list_end hh hit hl.isList (by rw [← aK]; exact List.getElem?_eq_none (by omega)) λh' ks=>q h' s.toks ks
 | @tup l its i vs ro hit hl rl=>
  have hlen:=rl.length
  have:vs.length<=i:=by have:=congrArg List.length hxs; simp at this; omega
  exact wpAny_pyNext_tuple_end hh hit hl (by rw [← aK]; exact List.getElem?_eq_none (by omega)) λh' ks=>q h' s.toks ks
 | @range y n hit=>
  have:n=0:=by have:=congrArg List.length hxs; simp at this; lia
  subst this
  exact wpAny_pyNext_range_end hh hit (by omega) λh' ks=>q h' s.toks ks
 | @rev l its i vs ro hit hl rl hi=>
  have:i=0:=by have:=congrArg List.length hxs; simp at this; lia
  subst this
  exact wpAny_pyNext_rev_end hh hit λh' ks=>q h' s.toks ks
theorem fj.self {xs:List V}{Q:Value->Shared->Prop}(b:fj P γ s.heap I xs) (q:Q (.ref I) s):wpAny (model P.prog P.w) A (pyIter (.ref I)) Q Ex s:=by
 cases b with
 | list _ b _ _=>exact wpAny_pyIter_listiter b q
 | tup _ b _ _=>exact wpAny_pyIter_tupleiter b q
 | range b=>exact wpAny_pyIter_rangeiter b q
 | rev _ b _ _ _=>exact wpAny_pyIter_revIter b q
theorem fj.own {xs:List V}{es:List Expr}{c:Nat}{p:Pos}{v:Value}{Q:Unit->Shared->Prop}(b:fj P γ s.heap I xs) (q:Q () s):wpAny (model P.prog P.w) A (letOwnedTupleGo (.Tuple es c p) (.ref I) v) Q Ex s:=by
 unfold letOwnedTupleGo
 have dA:∀ {T:String}{o:Obj},s.heap.get? I=some o->o.cls=.type T->["enumerate","zip","dict_itemiterator","dict_reverseitemiterator","odict_iterator","itertools.zip_longest","itertools.pairwise"].contains T=false ->
   ∀ a,wpAny (model P.prog P.w) A (do
    let o ← load I
    match o.cls,o.data with
    | .type n,.fields vs=>
     if ["enumerate","zip","dict_itemiterator","dict_reverseitemiterator","odict_iterator","itertools.zip_longest","itertools.pairwise"].contains n && vs[0]? == some (rawInt a) then
      rule "for.unpacks-the-owned-tuple"
      updateField I 0 .none
    | _,_=>pure ()) Q Ex s:=by
  intro T o ho hc hn a
  refine ad (wpAny_load ho ?_)
  rw [hc]
  clear ho hc
  generalize o.data=d
  cases d with
  | fields vs=>
   dsimp only
   rw [hn,Bool.false_and,if_neg aF]
   exact af q
  | _=>exact af q
 cases v with
 | ref a=>
  cases b with
  | list _ b _ _=>obtain ⟨o,ho,hc,zz⟩:=b; exact dA ho hc (by decide) a
  | tup _ b _ _=>obtain ⟨o,ho,hc,zz⟩:=b; exact dA ho hc (by decide) a
  | range b=>exact dA b rfl (by decide) a
  | rev _ b _ _ _=>obtain ⟨o,ho,hc,zz⟩:=b; exact dA ho hc (by decide) a
 | _=>exact af q
end
end
inductive kX (P:Pm) (γ:Gh) (h:Heap):Expr->List V->Value->Prop
 | one {x:Str}{p:Pos}{u:V}{v:Value}:bM P γ h u v->kX P γ h (.Name x p) [u] v
 | many {es:List Expr}{c:Nat}{p:Pos}{us:List V}{T:Addr}{its:Array Value}:h.IsTuple T its->bI P γ h us its.toList->kX P γ h (.Tuple es c p) us (.ref T)
structure Wk (P:Pm) (A:Around) (tgt:Expr) (I:Addr) (W:Addr->Prop) (St:List (List V)->Gh->Heap->Prop):Prop where
 keep:∀ r γ h γ' h',St r γ h->(∀ a o,W a->γ.role a=.other->h.get? a=some o->γ'.role a=.other/\h'.get? a=some o)->fo γ h γ' h'->γ.gn<=γ'.gn->(∀ n,n < γ.gn->γ'.ga n=γ.ga n)->St r γ' h'
 item:∀ it r γ (s:Shared) g (K:Option Value->Shared->Prop) (Q:Value->Shared->Prop) (Ex:Value->Shared->Prop),bP P γ s.heap g->St (it::r) γ s.heap ->
  (∀ v s₁,wpAny (model P.prog P.w) A (letOwnedTupleGo tgt (.ref I) v) (λzz s₂=>Q v s₂) Ex s₁->K (some v) s₁) ->
  (∀ v γ' h' tk,dw W γ s.heap γ' h'->bP P γ' h' g->St r γ' h'->kX P γ' h' tgt it v->Q v (Sh s h' tk)) ->
  wpAny (model P.prog P.w) A (pyNext (.ref I)) K Ex s
 done:∀ γ (s:Shared) g (Q:Option Value->Shared->Prop) (Ex:Value->Shared->Prop),bP P γ s.heap g->St [] γ s.heap ->
  (∀ γ' h' tk,dw W γ s.heap γ' h'->bP P γ' h' g->Q none (Sh s h' tk))->wpAny (model P.prog P.w) A (pyNext (.ref I)) Q Ex s
 self:∀ r γ (s:Shared) (Q:Value->Shared->Prop) (Ex:Value->Shared->Prop),St r γ s.heap->Q (.ref I) s->wpAny (model P.prog P.w) A (pyIter (.ref I)) Q Ex s
section
variable {P:Pm}{K:Frag}{γ γ':Gh}{h h':Heap}{fm:Fm}{env:Env}{ae:En}{g:G}{Pl Pl':Addr->Prop}{A:Around}{s:Shared}{Ex:Value->Shared->Prop}
theorem lD {tgt:Expr}{is:List Nat}{it:List V}{v:Value}{Q:Unit->Shared->Prop}(hh:A.handled=none) {lo:Bool}(t:pi fm lo tgt is) (hl:it.length=is.length) (E:bG P γ s.heap fm env ae) (I:bP P γ s.heap g) (W:qc Pl fm env lo) (r:kX P γ s.heap tgt it v)
  (q:∀ h' tk,dw Pl γ s.heap γ h'->bP P γ h' g->bG P γ h' fm env (bZ ae is it)->Q () (Sh s h' tk)):wpAny (model P.prog P.w) A (assign tgt env v) Q Ex s:=by
 cases t with
 | @one x p i hx hk=>
  cases r with
  | one r=>exact wpAny_assign_Name (dO (sl:=.val _) E I hx (W x hk) r λh1 t1 f1 I1 E1=>q h1 t1 f1 I1 E1)
 | many t hn=>
  clear hn
  cases r with
  | @many _ _ _ _ T its hT rl=>
   have e1:=t.each env
   have e2:=t.len
   have hsz:its.size=it.length:=(aM (xs:=its)).symm.trans rl.length
   refine wpAny_assign_Tuple hh hT (by rw [e1.1,e2,← hl,hsz]) e1.2 λh1 k=>?_
   have kk:∀ b o,s.heap.get? b=some o->h1.get? b=some o:=λb o e=>k b o (cT e) e
   exact t.stores (s:=(ey s h1)) (E.ev (Ev.grow kk)) (I.grow kk) W (rl.ev (Ev.grow kk)) hl λh2 t2 f2 I2 E2=>q h2 t2 ((Ev.grow kk).p.trans f2) I2 E2
theorem vc {α β:Type}{f:α->Option β}{xs:List α}{y:β}{ys:List β}(e:mW f xs=some (y::ys)):∃ x r,xs=x::r/\f x=some y/\mW f r=some ys:=by
 cases xs with
 | nil=>cases e
 | cons x xs=>
  refine cu e λa h1=>?_
  clear e
  intro e
  refine cu e λb h2=>?_
  clear e
  intro e
  cases e
  exact ⟨x,xs,rfl,h1,h2⟩
theorem xh {α β:Type}{f:α->Option β}{xs:List α}(e:mW f xs=some []):xs=[]:=by
 cases xs with
 | nil=>rfl
 | cons x xs=>
  refine cu e λa h1=>?_
  clear e
  intro e
  refine cu e λb h2=>?_
  clear e
  intro e
  clear h1 h2
  cases e
theorem tY {x:V}{it:List V}(e:im 1 x=some it):it=[x]:=(av e).symm
theorem zw {n:Nat}{x:V}{it:List V}(hn:n≠1) (e:im n x=some it):x=.tup it:=by
 refine cu (((if_neg hn).symm.trans e)) λus e1 e=>?_
 refine bU e λzz=>?_
 clear e
 intro e
 rw [dq e1,av e]
theorem Wk.base {tgt:Expr}{is:List Nat}{I:Addr}(hh:A.handled=none) {lo:Bool}(t:pi fm lo tgt is) (h0:P.h0.get? I=none):
  Wk P A tgt I (·=I) (λr γ h=>γ.role I=.other/\∃ xs,fj P γ h I xs/\mW (im is.length) xs=some r) where
 keep:=λr γ h γ' h' ⟨hr,xs,b,e⟩ k f hg hga=>by
  have:∃ o,h.get? I=some o:=by cases b with
   | list _ b _ _=>exact ⟨_,b.choose_spec.1⟩
   | tup _ b _ _=>exact ⟨_,b.choose_spec.1⟩
   | range b=>exact ⟨_,b⟩
   | rev _ b _ _ _=>exact ⟨_,b.choose_spec.1⟩
  obtain ⟨o,ho⟩:=this
  exact ⟨(k I o rfl hr ho).1,xs,b.keep (λo ho=>(k I o rfl hr ho).2) f hg hga,e⟩
 item:=λit r γ s g K Q Ex IV ⟨hr,xs,b,e⟩ hK q=>by
  obtain ⟨x,xs',rfl,e1,e2⟩:=vc e
  refine b.next hr λv h' tk rv ks b'=>hK v _ ?_
  have f:dw (·=I) γ s.heap γ h':=dw.but ks hr rfl
  have J:bP P γ h' g:=IV.ext ks.extBut hr h0
  have rv':=rv.evP f
  clear rv
  cases t with
  | one hx hk=>
   clear hk hx
   cases tY e1
   exact af (q v γ h' tk f J ⟨hr,xs',b',e2⟩ (.one rv'))
  | @many es is c p t hn=>
   clear t
   cases zw hn e1
   clear e1 hn
   obtain ⟨a,its,rfl,ro,ti,li⟩:=rv'
   exact fj.own (s:=(Sh s h' tk)) b' (q _ γ h' tk f J ⟨hr,xs',b',e2⟩ (.many ti li))
 done:=λγ s g Q Ex IV ⟨hr,xs,b,e⟩ q=>by
  clear t
  cases xh e
  exact b.done hh λh' tk ks=>q γ h' tk (dw.ext ks hr rfl) (IV.ext ks hr h0)
 self:=λr γ s Q Ex ⟨hr,xs,b,e⟩ q=>b.self q
end
inductive xW (P:Pm) (γ:Gh) (h:Heap) (fm:Fm) (env:Env) (ae:En):Fl->Flow->Prop
 | nxt:bG P γ h fm env ae->xW P γ h fm env ae .nxt .next
 | ret {v:V}{x:Value}:bM P γ h v x->xW P γ h fm env ae (.ret v) (.ret x)
def KS (P:Pm) (γ:Gh) (s:Shared) (fm:Fm) (env:Env) (fl:Fl) (ae':En) (g':G) (Q:Flow->Shared->Prop):Prop:=∀ f γ' h' tk,Es env γ s.heap γ' h'->bP P γ' h' g'->xW P γ' h' fm env ae' fl f->Q f (Sh s h' tk)
def cE (P:Pm) (A:Around) (t:Sem Flow) (γ:Gh) (s:Shared) (fm:Fm) (env:Env) (fl:Fl) (ae':En) (g':G):Prop:=∀ (Q:Flow->Shared->Prop) (Ex:Value->Shared->Prop),KS P γ s fm env fl ae' g' Q->wpAny (model P.prog P.w) A t Q Ex s
theorem KS.of {P:Pm}{γ:Gh}{s:Shared}{fm:Fm}{env:Env}{f1 fl:Fl}{ae1 ae':En}{g1 g':G}{Q:Flow->Shared->Prop}(e:some (f1,ae1,g1)=some (fl,ae',g')) (k:KS P γ s fm env fl ae' g' Q):KS P γ s fm env f1 ae1 g1 Q:=by
 cases e; exact k
theorem cE.of {P:Pm}{A:Around}{t:Sem Flow}{γ:Gh}{s:Shared}{fm:Fm}{env:Env}{f1 fl:Fl}{ae1 ae':En}{g1 g':G}(e:some (f1,ae1,g1)=some (fl,ae',g')) (k:cE P A t γ s fm env f1 ae1 g1):cE P A t γ s fm env fl ae' g':=λQ Ex q=>k Q Ex (q.of e)
theorem cE.of' {P:Pm}{A:Around}{t:Sem Flow}{γ:Gh}{s:Shared}{fm:Fm}{env:Env}{f1 fl:Fl}{ae1 ae':En}{g1 g':G}(k:cE P A t γ s fm env f1 ae1 g1) (e:some (f1,ae1,g1)=some (fl,ae',g')):cE P A t γ s fm env fl ae' g':=cE.of e k
def bX (P:Pm) (fm:Fm) (W:Nat) (ps:List Stmt) (ms:List S):Prop:=
 ∀ cf n,cx P cf n->∀ A γ s env ae g fl ae' g',cU A n->bP P γ s.heap g->bG P γ s.heap fm env ae->dE W cf ms ae g=some (fl,ae',g')->cE P A (execs ps env) γ s fm env fl ae' g'
theorem oU {cf:Cf}{i:Nat}{ae:En}{g g':G}{v:V}(e:E.var i cf ae g=some (v,g')):ae[i]?=some (some (.val v))/\g'=g:=by
 refine cu e λu h e1=>cu h λsl h1 e2=>?_
 clear e h
 cases e1
 exact ⟨d5 e2 ▸ cX h1,rfl⟩
def b0 (P:Pm) (fm:Fm) (W:Nat) (p:Stmt) (m:S):Prop:=
 ∀ cf n,cx P cf n->∀ A γ s env ae g fl ae' g',cU A n->bP P γ s.heap g->bG P γ s.heap fm env ae->m W cf ae g=some (fl,ae',g')->cE P A (exec p env) γ s fm env fl ae' g'
section
variable {P:Pm}{K:Frag}{fm:Fm}{W:Nat}
theorem bX.nil:bX P fm W [] []:=by
 intro cf n C A γ s env ae g fl ae' g' R I Er e
 clear C R n
 cases e
 intro Q Ex q
 exact wpAny_execs_nil (q .next γ s.heap s.toks .refl I (.nxt Er))
theorem bX.cons {p:Stmt}{ps:List Stmt}{m:S}{ms:List S}(S:b0 P fm W p m) (T:bX P fm W ps ms):bX P fm W (p::ps) (m::ms):=by
 intro cf n C A γ s env ae g fl ae' g' R I Er
 refine xN λwN ae1 g1 h=>?_
 intro e
 intro Q Ex q
 refine wpAny_execs_cons (S cf n C A γ s env ae g wN ae1 g1 R I Er h _ Ex λf γ1 h1 t1 f1 I1 r1=>?_)
 clear Er I h
 cases r1 with
 | nxt E1=>exact T cf n C A γ1 _ env ae1 g1 fl ae' g' R I1 E1 e Q Ex λf γ2 h2 t2 f2 I2 r2=>q f γ2 h2 t2 (f1.trans f2) I2 r2
 | ret rv=>
  clear C R T n
  cases e
  exact q _ γ1 h1 t1 f1 I1 (.ret rv)
def wW (P:Pm) (fm:Fm) (W:Nat) (m:S):Prop:=
 ∀ cf γ (s:Shared) env ae g fl ae' g',bP P γ s.heap g->bG P γ s.heap fm env ae->m W cf ae g=some (fl,ae',g')->∃ γ',Es env γ s.heap γ' s.heap/\bP P γ' s.heap g'/\fl=.nxt/\bG P γ' s.heap fm env ae'
theorem bX.ghost {ps:List Stmt}{m:S}{ms:List S}(S:wW P fm W m) (T:bX P fm W ps ms):bX P fm W ps (m::ms):=by
 intro cf n C A γ s env ae g fl ae' g' R I Er
 refine xN λwN ae1 g1 h=>?_
 intro e
 intro Q Ex q
 obtain ⟨γ1,f1,I1,rfl,E1⟩:=S cf γ s env ae g wN ae1 g1 I Er h
 exact T cf n C A γ1 s env ae1 g1 fl ae' g' R I1 E1 e Q Ex λf γ2 h2 t2 f2 I2 r2=>q f γ2 h2 t2 (f1.trans f2) I2 r2
theorem b0.ret {pe:Expr}{me:E}{pos:Pos}(S:bE P fm pe me):b0 P fm W (.Return (some pe) pos) (.ret me):=by
 intro cf n C A γ s env ae g fl ae' g' R I Er
 refine cC λv g1 e1=>cE.of' ?_
 intro Q Ex q
 exact wpAny_Return_some (S.run C R I Er e1 λx γ1 h1 t1 f1 I1 E1 r1=>q _ γ1 h1 t1 f1.es I1 (.ret r1))
theorem b0.iff {c:Expr}{b1 b2:List Stmt}{x:E}{m1 m2:List Mine.S}{pos:Pos}(U:cZ P fm c x) (S:bX P fm W b1 m1) (T:bX P fm W b2 m2):b0 P fm W (.If c b1 b2 pos) (.iff x m1 m2):=by
 intro cf n C A γ s env ae g fl ae' g' R I Er
 refine j7 λt g1 e1=>?_
 intro e
 intro Q Ex q
 refine wpAny_If (U cf n C A γ s env ae g t g1 R I Er e1 _ Ex λγ1 h1 t1 f1 I1 E1=>?_)
 clear Er I U e1 g
 cases t with
 | true=>exact S cf n C A γ1 _ env ae g1 fl ae' g' R I1 E1 e Q Ex λf γ2 h2 t2 f2 I2 r2=>q f γ2 h2 t2 (f1.es.trans f2) I2 r2
 | false=>exact T cf n C A γ1 _ env ae g1 fl ae' g' R I1 E1 e Q Ex λf γ2 h2 t2 f2 I2 r2=>q f γ2 h2 t2 (f1.es.trans f2) I2 r2
theorem bX.stuck {ps:List Stmt}{ms:List Mine.S}:bX P fm W ps (.stuck::ms):=λcf n C A γ s env ae g fl ae' g' R I Er e=>no e
theorem bE.stuck {pe:Expr}:bE P fm pe .stuck:=λcf n C A γ s env ae g v g' R I Er e=>no e
theorem b0.expr {pe:Expr}{me:E}{pos:Pos}(S:bE P fm pe me) (hs:∀ env,swapsWith pe none pos.line env=pure false):b0 P fm W (.Expr pe pos) (.expr me):=by
 intro cf n C A γ s env ae g fl ae' g' R I Er
 refine cC λv g1 e1=>cE.of' ?_
 intro Q Ex q
 exact wpAny_Expr_any (S.run C R I Er e1 λx γ1 h1 t1 f1 I1 E1 r1=>q _ γ1 h1 t1 f1.es I1 (.nxt E1)) (by
   unfold interactive
   rw [Er.sc,Er.kind]; rfl) (hs env)
theorem qc.place {env:Env}{γ:Gh}{h:Heap}{ae:En}(E:bG P γ h fm env ae):qc (cc env) fm env false:=λx hk=>hk.imp (λh=>⟨h,.inl rfl⟩) λh=>⟨h.2,λc hc=>.inr ⟨x,hc⟩⟩
theorem b0.asg {x:Str}{p pos:Pos}{pe:Expr}{me:E}{i:Nat}(hx:fm.vis.lookup x=some i) (hk:fm.sc.names.lookup x=some .local\/fm.sc.names.lookup x=some .cell) (S:bE P fm pe me)
  (hs:∀ env,swapsWith pe (some (.Name x p)) pos.line env=pure false):b0 P fm W (.Assign [.Name x p] pe pos) (.asg i me):=by
 intro cf n C A γ s env ae g fl ae' g' R I Er
 refine cC λv g1 e1=>cE.of' ?_
 intro Q Ex q
 exact wpAny_Assign_Name (S.run C R I Er e1 λy γ1 h1 t1 f1 I1 E1 r1=>dO (Pl:=cc env) (sl:=.val v) E1 I1 hx (qc.place E1 x (hk.imp id λh=>⟨rfl,h⟩)) r1 λh2 t2 f2 I2 E2=>
  q _ γ1 h2 t2 (f1.es.trans f2.es) I2 (.nxt E2)) (hs env)
inductive Ed (P:Pm) (γ:Gh) (s:Shared) (fm:Fm) (env:Env) (L:Nat->En->G->Option (Fl × En × G)) (r:Option (Fl × En × G)):Nat->Shared->Prop
 | mk {k:Nat}{γ1:Gh}{h1:Heap}{t1:Nat}{ae:En}{g:G}(f1:Es env γ s.heap γ1 h1) (I1:bP P γ1 h1 g) (E1:bG P γ1 h1 fm env ae) (e:L k ae g=r):Ed P γ s fm env L r k (Sh s h1 t1)
theorem b0.whl {c:Expr}{b:List Stmt}{x:E}{m:List Mine.S}{pos:Pos}(U:cZ P fm c x) (S:bX P fm W b m):b0 P fm W (.While c b [] pos) (.whl x m):=by
 intro cf n C A γ s env ae g fl ae' g' R I Er e Q Ex q
 refine wpAny_While (codeAny_whileLoop (Ed P γ s fm env (eD (x cf) (dE W cf m)) (some (fl,ae',g'))) ?_ W (.mk (t1:=s.toks) .refl I Er e))
 intro k s' i
 clear Er I e
 cases i with | mk f1 I1 E1 e1=>
 cases k with
 | zero=>exact no e1
 | succ k=>
  refine gO e1 λt g2 e2 e3=>U cf n C A _ _ env _ _ t g2 R I1 E1 e2 _ _ λγ2 h2 t2 f2 I2 E2=>?_
  clear E1 I1 U
  cases t with
  | true=>
   refine zy (o:=dE W cf m _ g2) e3 λfl3 ae3 g3 hb e4=>S cf n C A γ2 _ env _ g2 fl3 ae3 g3 R I2 E2 hb _ _ λf γ3 h3 t3 f3 I3 r3=>?_
   clear C R S hb
   cases r3 with
   | nxt E3=>exact ⟨k,Nat.lt_succ_self _,.mk (f1.trans (f2.es.trans f3)) I3 E3 e4⟩
   | ret rv=>exact q.of e4 _ γ3 h3 t3 (f1.trans (f2.es.trans f3)) I3 (.ret rv)
  | false=>exact wpAny_execs_nil (q.of e3 _ γ2 h2 t2 (f1.trans f2.es) I2 (.nxt E2))
def dK (P:Pm) (fm:Fm) (pe:Expr) (kd:nX) (e1 e2:E) (tgt:Expr) (is:List Nat):Prop:=
 ∀ cf n,cx P cf n->∀ A γ s env ae g a b g1 g2 its,cU A n->bP P γ s.heap g->bG P γ s.heap fm env ae->e1 cf ae g=some (a,g1)->e2 cf ae g1=some (b,g2)->cJ kd is.length a b=some its ->
  ∀ (Q:Value->Shared->Prop) (Ex:Value->Shared->Prop),
  (∀ J Wr St γ' h' tk,Ev γ s.heap γ' h'->bP P γ' h' g2->bG P γ' h' fm env ae->Wk P A tgt J Wr St->St its γ' h'->(∀ x,Wr x->(γ.role x=.other->s.heap.get? x=none)/\(h'.get? x).isSome=true)->Q (.ref J) (Sh s h' tk)) ->
  wpAny (model P.prog P.w) A (eval pe env) (λx s₁=>wpAny (model P.prog P.w) A (pyIter x) Q Ex s₁) Ex s
theorem bG.there {γ:Gh}{h:Heap}{env:Env}{ae:En}(E:bG P γ h fm env ae) {a:Addr}(hp:cc env a):∃ o,h.get? a=some o/\γ.role a=.other:=by
 rcases hp with rfl | ⟨x,hx⟩
 ·obtain ⟨r,zz,m,o,zz,zz,ho,zz⟩:=E.loc
  exact ⟨o,ho,r⟩
 ·obtain ⟨r,zz,v,o,ho,zz⟩:=E.cel x a hx
  exact ⟨o,ho,r⟩
inductive CD (P:Pm) (γ:Gh) (s:Shared) (fm:Fm) (env:Env) (Pl:Addr->Prop) (St:List (List V)->Gh->Heap->Prop) (is:List Nat) (L:List (List V)->En->G->Option (Fl × En × G)) (r:Option (Fl × En × G)):Nat->Shared->Prop
 | mk (its:List (List V)) {γ1:Gh}{h1:Heap}{t1:Nat}{ae:En}{g:G}(f1:il Pl γ s.heap γ1 h1) (I1:bP P γ1 h1 g) (E1:bG P γ1 h1 fm env ae) (st:St its γ1 h1) (hl:∀ it∈its,it.length=is.length) (e:L its ae g=r):CD P γ s fm env Pl St is L r its.length (Sh s h1 t1)
theorem b0.for {tgt iter:Expr}{b:List Stmt}{is:List Nat}{kd:nX}{x y:E}{m:List Mine.S}{pos:Pos}(T:dK P fm iter kd x y tgt is) (t:pi fm false tgt is) (S:bX P fm W b m)
  (hf:∀ env x,foldedSetIterable iter env x=pure x) (hlen:∀ a b its it,cJ kd is.length a b=some its->it∈its->it.length=is.length):b0 P fm W (.For tgt iter b [] pos) (.for is kd x y m):=by
 intro cf n C A γ s env ae g fl ae' g' R I Er
 refine cC λa g1 e1=>cC λb' g2 e2=>gZ λits e3=>?_
 intro e
 intro Q Ex q
 refine wpAny_For (T cf n C A γ s env ae g a b' g1 g2 its R I Er e1 e2 e3 _ Ex λJ Wr St γ1 h1 t1 f1 I1 E1 wk st hW=>?_) (hf env)
 have hl:=hlen a b' its
 have hnp:∀ a,Wr a->¬ cc env a:=λa hw hp=>by
  obtain ⟨o,ho,hr⟩:=Er.there hp
  rw [(hW a hw).1 hr] at ho; cases ho
 have eQ:∀ {γ':Gh}{h':Heap},il (λa=>cc env a\/Wr a) γ s.heap γ' h'->Es env γ s.heap γ' h':=λf=>f.sub λa ha=>ha.imp id λq=>(hW a q).1
 refine codeAny_forLoop_any (CD P γ s fm env (λa=>cc env a\/Wr a) St is (gG (dE W cf m) is) (some (fl,ae',g'))) ?_ its.length (.mk its (t1:=t1) f1.es I1 E1 st (λit hit=>hl it e3 hit) e)
 clear e e1 e2 e3 hl f1 I1 E1 st
 intro k s' i
 clear Er I T ae b' g g1 g2 hW hf hlen t1 γ1
 cases i with | mk its f2 I2 E2 st2 hl2 e4=>
 clear h1
 cases its with
 | nil=>exact wk.done _ _ _ _ _ I2 st2 λγ3 h3 t3 f3 I3=>wpAny_execs_nil (q.of e4 _ γ3 h3 t3 (eQ (f2.trans (f3.es.sub λa ha=>.inl (.inr ha)))) I3 (.nxt (E2.p f3 λa ha hw=>hnp a hw ha)))
 | cons it its=>
  refine zy e4 λfl5 ae5 g5 hb e4=>wk.item it its _ _ _ _ _ _ I2 st2 (λv s₁ h₁=>h₁) λv γ3 h3 t3 f3 I3 st3 r3=>?_
  have E3:=E2.p f3 λa ha hw=>hnp a hw ha
  refine lD (Pl:=cc env) R.hd t (hl2 it aa) E3 I3 (qc.place E3) r3 λh4 t4 f4 I4 E4=>?_
  have st4:=wk.keep _ _ _ _ _ st3 (λa o hw hr ho=>f4.oth a o hr (hnp a hw) ho) f4.fro f4.gn f4.ga
  refine S cf n C A γ3 _ env _ _ fl5 ae5 g5 R I4 E4 hb _ _ λf γ5 h5 t5 f5 I5 r5=>?_
  have f6:=f2.trans ((f3.es.sub λa ha=>.inl (.inr ha)).trans ((f4.es.sub λa ha=>.inl (.inl ha)).trans (f5.sub λa ha=>.inl (.inl ha))))
  clear C E2 E3 E4 I2 I3 I4 R S f2 f3 f4 hb n r3 st2 st3 t v
  cases r5 with
  | nxt E5=>exact ⟨its.length,Nat.lt_succ_self _,.mk its f6 I5 E5 (wk.keep _ _ _ _ _ st4 (λa o hw hr ho=>f5.oth a o hr (hnp a hw) ho) f5.fro f5.gn f5.ga) (λit hit=>hl2 it (ai _ hit)) e4⟩
  | ret rv=>exact q.of e4 _ γ5 h5 t5 (eQ f6) I5 (.ret rv)
end
section
variable {P:Pm}{K:Frag}{γ γ':Gh}{h h':Heap}{fm:Fm}{env:Env}{ae:En}{g:G}{Pl Pl':Addr->Prop}{A:Around}{s:Shared}{Ex:Value->Shared->Prop}
theorem dB (I:bP P γ h g):P.h0.get? h.objs.size=none:=by
 cases e:P.h0.get? h.objs.size with
 | none=>rfl
 | some o=>have:=(I.base _ o e).2; rw [dm] at this; cases this
theorem Ev.fresh (f:Ev γ h γ' h'):∀ x,x=h'.objs.size->γ.role x=.other->h.get? x=none:=by
 rintro x rfl hr
 cases e:h.get? h'.objs.size with
 | none=>rfl
 | some o=>
  have:=(f.oth _ o hr e).2
  rw [dm] at this; cases this
theorem j9 {α β:Type}{f:α->Option β}:∀ {xs:List α}{ys:List β},mW f xs=some ys->∀ y∈ys,∃ x∈xs,f x=some y
 | [],ys,e,y,hy=>by cases e; cases hy
 | x::xs,ys,e,y,hy=>by
  refine cu e λa h1=>?_
  clear e
  intro e
  refine cu e λb h2=>?_
  clear e
  intro e
  cases e
  rcases az.mp hy with rfl | hy
  ·exact ⟨x,aa,h1⟩
  ·obtain ⟨z,hz,q⟩:=j9 h2 y hy
   exact ⟨z,ai _ hz,q⟩
theorem qb {n:Nat}{v:V}{it:List V}(e:im n v=some it):it.length=n:=by
 by_cases h:n=1
 ·subst h; rw [tY e]; rfl
 ·refine cu (((if_neg h).symm.trans e)) λus e1 e=>?_
  refine bU e λh=>?_
  clear e
  intro e
  rw [← av e]; exact h
theorem m7:∀ {k:Nat}{xs:List V}{it:List V},it∈kq k xs->it.length=2
 | k,x::xs,it,h=>(az.mp h).elim (λe=>e ▸ rfl) m7
theorem qR:∀ {xs ys:List V}{it:List V},it∈iJ xs ys->it.length=2
 | x::xs,y::ys,it,h=>(az.mp h).elim (λe=>e ▸ rfl) qR
theorem jM {kd:nX}{n:Nat}{a b:V}{its:List (List V)}{it:List V}(e:cJ kd n a b=some its) (h:it∈its):it.length=n:=by
 cases kd with
 | plain=>refine cu e λxs zz e=>?_; obtain ⟨x,zz,q⟩:=j9 e it h; exact qb q
 | enum=>refine cu e λxs zz e=>?_; refine bU e λhn e=>?_; cases e; rw [hn.1]; exact m7 h
 | zip=>refine cu e λxs zz e=>?_; refine cu e λys zz e=>?_; refine bU e λhn e=>?_; cases e; rw [hn.1]; exact qR h
 | range=>refine cu e λxs zz e=>?_; refine bU e λhn e=>?_; cases e; rw [hn.1]; obtain ⟨j,zz,rfl⟩:=bx.mp h; rfl
 | rev=>refine cu e λxs zz e=>?_; refine bU e λhn e=>?_; cases e; rw [hn.1]; obtain ⟨j,zz,rfl⟩:=bx.mp h; rfl
theorem mK:∀ (xs:List V),mW (im 1) xs=some (xs.map λx=>[x])
 | []=>rfl
 | x::xs=>by simp only [mW,mK xs]; rfl
theorem xe {x:V}{y:Value}{xs:List V}{Q:Value->Shared->Prop}(I:bP P γ s.heap g) (r:bM P γ s.heap x y) (e:gj x=some xs)
  (q:∀ o:Obj,o.isFreed=false->fj P γ (s.heap.push o) s.heap.objs.size xs->Q (.ref s.heap.objs.size) (ey s (s.heap.push o))):wpAny (model P.prog P.w) A (pyIter y) Q Ex s:=by
 obtain ⟨h,zz⟩:=gb e
 clear e
 rcases h with rfl | rfl
 ·obtain ⟨a,its,rfl,ro,ti,li⟩:=r
  refine wpAny_pyIter_tuple ti (q _ rfl ?_)
  have b:=fj.tup (P:=P) (γ:=γ) (h:=s.heap.push { cls:=.type "tuple_iterator",data:=.fields #[.ref a,.int 0 0] }) (I:=s.heap.objs.size) (i:=0) ro ⟨_,ah _ rfl,rfl,rfl⟩ (ti.push _) (li.ev (Ev.grow λb o e=>ag _ e))
  rwa [List.drop_zero] at b
 ·obtain ⟨a,its,rfl,ro,ti,li⟩:=r
  refine wpAny_pyIter_list ti.isList (q _ rfl ?_)
  have b:=fj.list (P:=P) (γ:=γ) (h:=s.heap.push { cls:=.type "list_iterator",data:=.fields #[.ref a,.int 0 0] }) (I:=s.heap.objs.size) (i:=0) ro ⟨_,ah _ rfl,rfl,rfl⟩ (PlainList.push ti _) (li.ev (Ev.grow λb o e=>ag _ e))
  rwa [List.drop_zero] at b
theorem dK.plain {pe:Expr}{e1:E}{tgt:Expr}{is:List Nat}(S:bE P fm pe e1) {zx:Fm}{lo:Bool}(t:pi zx lo tgt is):dK P fm pe .plain e1 .none tgt is:=by
 intro cf n C A γ s env ae g a b g1 g2 its R I Er e1 e2 e3
 cases e2
 refine cu e3 λxs e4=>?_
 clear e3
 intro e3
 intro Q Ex q
 refine S.run C R I Er e1 λx γ1 h1 t1 f1 I1 E1 r1=>xe I1 r1 e4 λo hf bs=>?_
 have gr:∀ b o',h1.get? b=some o'->(h1.push o).get? b=some o':=λb o' e=>ag _ e
 refine q _ _ _ γ1 (h1.push o) t1 (f1.trans (Ev.grow gr)) (I1.grow gr) (E1.ev (Ev.grow gr)) (Wk.base R.hd t (dB I1)) ⟨I1.role_new,xs,bs,e3⟩ ?_
 rintro x rfl
 exact ⟨f1.fresh _ rfl,by rw [ah _ hf]; rfl⟩
theorem dK.range {x:Str}{p pos:Pos}{pe:Expr}{e1:E}{tgt:Expr}{is:List Nat}(r:jE P fm x (.type "range")) (S:bE P fm pe e1) {zx:Fm}{lo:Bool}(t:pi zx lo tgt is) (he:∀ env,starEach [pe] env=(false,eval pe env)::starEach [] env):dK P fm (.Call (.Name x p) [pe] [] pos) .range e1 .none tgt is:=by
 intro cf n C A γ s env ae g a b g1 g2 its R I Er e1 e2 e3
 cases e2
 refine cu e3 λk e4=>?_
 clear e3
 intro e3
 obtain ⟨⟨hn,hneg,hk⟩,e3⟩:=gA e3
 cases e3
 rw [cH e4] at e1
 intro Q Ex q
 refine gv r (.inr ⟨_,rfl⟩) S he C R I Er e1 λy γ1 h1 t1 f1 I1 E1 ry=>?_
 obtain ⟨u,rfl⟩:=ry
 refine call_range_1 ?_
 have gr1:∀ b o',h1.get? b=some o'->(h1.push { cls:=.type "range",data:=.fields #[.int 0 t1,.int k u,.int 1 (t1+1)] }).get? b=some o':=λb o' e=>ag _ e
 refine wpAny_pyIter_range (ah _ rfl) (small_one (by decide) (by decide) (by lia) (by simp only [lim] at hk; omega)) ?_
 generalize hh2:h1.push { cls:=.type "range",data:=.fields #[.int 0 t1,.int k u,.int 1 (t1+1)] }=h2 at gr1
 have gr2:∀ b o',h2.get? b=some o'->(h2.push { cls:=.type "range_iterator",data:=.fields #[rawInt 0,rawInt (Builtin.Range.rangeSize 0 k 1),rawInt 1] }).get? b=some o':=λb o' e=>ag _ e
 have f2:=f1.trans (Ev.grow gr1)
 have I2:=I1.grow gr1
 have hsz:Builtin.Range.rangeSize 0 k 1=(k.toNat:Int):=by rw [rangeSize_one]; split <;> lia
 refine q _ _ _ γ1 _ _ (f2.trans (Ev.grow gr2)) (I2.grow gr2) ((E1.ev (Ev.grow gr1)).ev (Ev.grow gr2)) (Wk.base R.hd t (dB I2)) ⟨I2.role_new,_,.range (n:=k.toNat) (x:=0) ?_,?_⟩ (by rintro x rfl; exact ⟨f2.fresh _ rfl,by rw [ah _ rfl]; rfl⟩)
 ·rw [hsz]; exact ah _ rfl
 ·rw [hn,mK,List.map_map]
  congr 1
  apply List.map_congr_left
  intro j _
  simp
theorem dK.rev {x:Str}{p pos:Pos}{pe:Expr}{e1:E}{tgt:Expr}{is:List Nat}(r:jE P fm x (.type "reversed")) (S:bE P fm pe e1) {zx:Fm}{lo:Bool}(t:pi zx lo tgt is) (he:∀ env,starEach [pe] env=(false,eval pe env)::starEach [] env):dK P fm (.Call (.Name x p) [pe] [] pos) .rev e1 .none tgt is:=by
 intro cf n C A γ s env ae g a b g1 g2 its R I Er e1 e2 e3
 cases e2
 refine cu e3 λws e4=>?_
 clear e3
 intro e3
 obtain ⟨⟨hn,hk⟩,e3⟩:=gA e3
 cases e3
 rw [iE e4] at e1
 intro Q Ex q
 refine gv r (.inr ⟨_,rfl⟩) S he C R I Er e1 λy γ1 h1 t1 f1 I1 E1 ry=>?_
 obtain ⟨l,its,rfl,ro,ti,li⟩:=ry
 refine call_reversed_list ti.isList ?_
 have gr1:∀ b o',h1.get? b=some o'->(h1.push (revObj l ((its.size:Int) - 1))).get? b=some o':=λb o' e=>ag _ e
 have hit:(h1.push (revObj l ((its.size:Int) - 1))).IsRevIter h1.objs.size l ((its.size:Int) - 1):=⟨_,ah _ rfl,rfl,rfl⟩
 refine wpAny_pyIter_revIter hit ?_
 have hsz:its.size=ws.length:=li.length
 refine q _ _ _ γ1 _ _ (f1.trans (Ev.grow gr1)) (I1.grow gr1) (E1.ev (Ev.grow gr1)) (Wk.base R.hd t (dB I1)) ⟨I1.role_new,_,.rev ro hit (PlainList.push ti _) (li.ev (Ev.grow gr1)) (by lia),?_⟩ (by rintro x rfl; exact ⟨f1.fresh _ rfl,by rw [ah _ rfl]; rfl⟩)
 rw [hn,mK,hsz,List.take_length]
end
section
variable {P:Pm}{γ γ':Gh}{h h':Heap}{g:G}
def dY (P:Pm) (γ:Gh) (a:Addr):Prop:=γ.role a=.other/\P.h0.get? a=none
theorem hV {W:Addr->Prop}(ks:∀ b o,¬ W b->h.get? b=some o->h'.get? b=some o) (hw:∀ b,W b->dY P γ b) {a:Addr}{o:Obj}(n:γ.role a≠.other) (q:h.get? a=some o):h'.get? a=some o:=ks _ _ (λz=>n (hw _ z).1) q
theorem gE {W:Addr->Prop}(ks:∀ b o,¬ W b->h.get? b=some o->h'.get? b=some o) (hw:∀ b,W b->dY P γ b):dw W γ h γ h':=
 ⟨λa o r q=>⟨r,hV ks hw (by rw [r]; exact λz=>nomatch z) q⟩,λa o r n q=>⟨r,ks a o n q⟩,λa o i r q=>⟨r,hV ks hw (by rw [r]; exact λz=>nomatch z) q⟩,ak _,λzz zz=>rfl⟩
theorem bP.set {W:Addr->Prop}(I:bP P γ h g) (ks:∀ b o,¬ W b->h.get? b=some o->h'.get? b=some o) (hw:∀ b,W b->dY P γ b):bP P γ h' g:=by
 refine I.keep (gE ks hw).fro rfl (λzz zz=>rfl) (λa ha=>?_) (λa o n t r q=>⟨r,hV ks hw (by rw [r]; exact λz=>nomatch z) q⟩)
  (λa o b r q=>⟨r,ks a o (λz=>by rw [(hw _ z).2] at b; cases b) q⟩) λo r q=>⟨r,hV ks hw (by rw [r]; exact λz=>nomatch z) q⟩
 obtain ⟨o,ho⟩:=aq.mp (I.wf a ha)
 rw [hV ks hw ha ho]; rfl
theorem bP.nobody (I:bP P γ h g) {z:Addr}(e:h.get? z=none):dY P γ z:=by
 refine ⟨?_,?_⟩
 ·cases q:γ.role z with
  | other=>rfl
  | _=>have:=I.wf z (by rw [q]; exact λq=>nomatch q); rw [e] at this; cases this
 ·cases q:P.h0.get? z with
  | none=>rfl
  | some o=>have:=(I.base z o q).2; rw [e] at this; cases this
theorem bP.fresh (I:bP P γ h g) {z:Addr}(hz:h.objs.size<=z):dY P γ z/\h.get? z=none:=by
 have e:h.get? z=none:=by
  cases e:h.get? z with
  | none=>rfl
  | some o=>exact absurd (Heap.lt_size e) (Nat.not_lt.mpr hz)
 exact ⟨I.nobody e,e⟩
theorem Ev.none (f:Ev γ h γ' h') {z:Addr}(hz:h'.get? z=none) (hr:γ.role z=.other):h.get? z=none:=by
 cases e:h.get? z with
 | none=>rfl
 | some o=>have:=(f.oth z o hr e).2; rw [hz] at this; cases this
theorem bP.freeze {a:Addr}(I:bP P γ h g) (n:dY P γ a) (there:(h.get? a).isSome=true):bP P (γ.put a .frozen) h g:=by
 have ne:∀ {b:Addr}{r:cQ},γ.role b=r->r≠.other->(γ.put a .frozen).role b=r:=λrb q=>by rw [bK (λz=>q (by rw [← rb,z]; exact n.1))]; exact rb
 refine I.keep (λb o rb e=>⟨ne rb (λq=>nomatch q),e⟩) rfl (λzz zz=>rfl) (λb hb=>?_) (λb o n t rb e=>⟨ne rb (λq=>nomatch q),e⟩) (λb o h0 rb e=>⟨?_,e⟩) λo rb e=>⟨ne rb (λq=>nomatch q),e⟩
 ·by_cases hba:b=a
  ·rw [hba]; exact there
  ·rw [bK hba] at hb; exact I.wf b hb
 ·rw [bK (λz=>by rw [z,n.2] at h0; cases h0)]; exact rb
theorem nK {L:Addr}{its:Array Value}{vs:List V}(I:bP P γ h g) (gr:∀ b o,h.get? b=some o->h'.get? b=some o) (hL:h.get? L=none) (pl:h'.PlainList L its) (rl:bI P γ h' vs its.toList):
  Ev γ h (γ.put L .frozen) h'/\bP P (γ.put L .frozen) h' g/\bM P (γ.put L .frozen) h' (.lst vs) (.ref L):=by
 have N:=I.nobody hL
 have ne:∀ {b:Addr}{o:Obj},h.get? b=some o->b≠L:=λe q=>by rw [q,hL] at e; cases e
 refine ⟨⟨λb o r e=>⟨by rw [bK (ne e)]; exact r,gr b o e⟩,λb o r e=>⟨by rw [bK (ne e)]; exact r,gr b o e⟩,λb o i r e=>⟨by rw [bK (ne e)]; exact r,gr b o e⟩,ak _,λzz zz=>rfl⟩,(I.grow gr).freeze N (let ⟨n,e⟩:=pl; by rw [e]; rfl),?_⟩
 have fr:fo γ h' (γ.put L .frozen) h':=λb o r e=>⟨by rw [bK (λz=>by rw [z,N.1] at r; cases r)]; exact r,e⟩
 exact ⟨L,its,rfl,cz,pl,rl.mono fr (ak _) λzz zz=>rfl⟩
end
def oK (tg:List Nat) (a b:En):Prop:=a.length=b.length/\∀ j,j∉tg->a[j]?=b[j]?
theorem oK.refl {tg:List Nat}{a:En}:oK tg a a:=⟨rfl,λzz zz=>rfl⟩
theorem oK.trans {tg:List Nat}{a b c:En}(x:oK tg a b) (y:oK tg b c):oK tg a c:=⟨x.1.trans y.1,λj h=>(x.2 j h).trans (y.2 j h)⟩
theorem oK.symm {tg:List Nat}{a b:En}(x:oK tg a b):oK tg b a:=⟨x.1.symm,λj h=>(x.2 j h).symm⟩
theorem oK.set {tg:List Nat}{a:En}{i:Nat}{o:Option bN}(h:i∈tg):oK tg (a.set i o) a:=⟨by simp,λj hj=>by rw [bh (λq=>hj (by rw [← q]; exact h))]⟩
theorem uJ:∀ {tg:List Nat}{a b:En}{it:List V},oK tg a b->it.length=tg.length->bZ a tg it=bZ b tg it
 | [],a,b,it,x,_=>by
  have:a=b:=List.ext_getElem? λj=>x.2 j (by simp)
  rw [this]
 | i::is,a,b,[],x,h=>nomatch h
 | i::is,a,b,v::vs,x,h=>by
  refine uJ (a:=a.set i _) (b:=b.set i _) ⟨by simp [x.1],λj hj=>?_⟩ (by simpa using h)
  by_cases hij:i=j
  ·clear h vs
   subst hij
   rw [List.getElem?_set_self',List.getElem?_set_self']
   by_cases hl:i < a.length
   ·rw [aN hl,aN (x.1 ▸ hl)]; rfl
   ·rw [List.getElem?_eq_none (by omega),List.getElem?_eq_none (by rw [← x.1]; omega)]
  ·rw [bh hij,bh hij]
   exact x.2 j (by simp; exact ⟨λq=>hij q.symm,hj⟩)
theorem lg:∀ {tg:List Nat}{a:En}{it:List V},oK tg (bZ a tg it) a
 | [],a,it=>.refl
 | i::is,a,[]=>.refl
 | i::is,a,v::vs=>by
  have h1:=lg (tg:=is) (a:=a.set i (some (.val v))) (it:=vs)
  have h2:oK (i::is) (bZ (a.set i (some (.val v))) is vs) (a.set i (some (.val v))):=⟨h1.1,λj hj=>h1.2 j λq=>hj (ai _ q)⟩
  exact h2.trans (oK.set aa)
noncomputable def ii (a:En) (tg:List Nat):En:=tg.foldl (λa i=>a.set i none) a
theorem dX:∀ {tg:List Nat}{a:En},oK tg (ii a tg) a
 | [],a=>.refl
 | i::is,a=>by
  have h1:=dX (tg:=is) (a:=a.set i none)
  have h2:oK (i::is) (ii (a.set i none) is) (a.set i none):=⟨h1.1,λj hj=>h1.2 j λq=>hj (ai _ q)⟩
  exact h2.trans (oK.set aa)
theorem iK:∀ {tg:List Nat}{a:En}{j:Nat}{sl:bN},j∈tg->(ii a tg)[j]?≠some (some sl)
 | i::is,a,j,sl,h=>by
  show (ii (a.set i none) is)[j]?≠_
  by_cases hj:j∈is
  ·exact iK hj
  ·rcases az.mp h with rfl | h
   ·rw [dX.2 j hj,List.getElem?_set_self']
    cases a[j]? <;> simp
   ·exact absurd h hj
noncomputable def xY (fm:Fm) (scope:Scope):Scope:=
 { scope with names:=scope.names.map λ(n,k)=>if (k == .free && fm.sc.kind == .function && fm.sc.names.lookup n == some .cell) then (n,.cell) else (n,k) }
noncomputable def jW (fm:Fm) (scope:Scope) (tv:pj):Fm:=⟨xY fm scope,tv++fm.vis.filter (λp=>scope.names.lookup p.1 == some .free),fm.cd,fm.qu⟩
structure iL (fm:Fm) (scope:Scope) (tv:pj) (tg:List Nat):Prop where
 kind:scope.kind=.function
 names:∀ x∈scope.names,x.2=.local->scope.names.lookup x.1=some .local
 cell:∀ x∈scope.names,x.2≠.cell
 free:∀ x∈scope.names,x.2=.free->fm.sc.names.lookup x.1=some .cell\/fm.sc.names.lookup x.1=some .free
 inj:∀ x y i,(jW fm scope tv).vis.lookup x=some i->(jW fm scope tv).vis.lookup y=some i->x=y
 nd:∀ p∈tv,(p.1 == ("__classdict__":Str))=false/\(p.1 == ("__debug__":Str))=false
 tgs:∀ p∈tv,p.2∈tg
 loc:∀ p∈tv,scope.names.lookup p.1=some .local
section
variable {P:Pm}{K:Frag}{γ γ':Gh}{h h':Heap}{fm:Fm}{env:Env}{ae:En}{g:G}{A:Around}{s:Shared}{Ex:Value->Shared->Prop}
theorem lW (E:bG P γ h fm env ae) (scope:Scope):relabel scope env=xY fm scope:=by
 unfold relabel xY Env.kindOf
 rw [E.sc]
noncomputable def d6 (cs:List (Str × Addr)):List (Str × NameKind)->List (Str × Addr)->List (Str × Addr)
 | [],acc=>acc
 | (n,k)::r,acc=>if k == .free then d6 cs r ((n,(cs.lookup n).getD 0)::acc) else d6 cs r acc
theorem sT {names:List (Str × NameKind)}(hf:∀ x∈names,x.2=.free->(env.cells.lookup x.1).isSome=true):∀ acc:List (Str × Addr),
  (forIn names acc λx cs=>do
   if x.2 == .free then
    let a ← cellOf env x.1
    pure (ForInStep.yield ((x.1,a)::cs))
   else pure (ForInStep.yield cs):Sem (List (Str × Addr)))=pure (d6 env.cells names acc):=by
 induction names with
 | nil=>intro acc; rfl
 | cons x r ih=>
  intro acc
  obtain ⟨n,k⟩:=x
  rw [List.forIn_cons]
  have ih:=ih λx hx=>hf x (ai _ hx)
  by_cases hk:(k == .free)=true
  ·have h1:=hf (n,k) aa (by simpa using hk)
   obtain ⟨c,hc⟩:=aq.mp h1
   simp -iota only [hk,if_true,d6]
   unfold cellOf
   rw [hc]
   simp -iota only [Option.getD_some]
   exact ih _
  ·simp -iota only [hk,if_false,d6,Bool.false_eq_true,pure_bind]
   exact ih _
theorem m0 {scope:Scope}(hf:∀ x∈scope.names,x.2=.free->(env.cells.lookup x.1).isSome=true):closureFor scope env=pure (d6 env.cells scope.names []):=by
 have:=sT (env:=env) hf []
 unfold closureFor
 simp -iota only [bind_pure] at this ⊢
 exact this
set_option tactic.hygienic true in
theorem fi {cs:List (Str × Addr)}:∀ {names:List (Str × NameKind)}{acc:List (Str × Addr)}{x:Str}{c:Addr},(∀ x∈names,x.2=.free->(cs.lookup x.1).isSome=true) ->
  (∀ x c,acc.lookup x=some c->cs.lookup x=some c)->(d6 cs names acc).lookup x=some c->cs.lookup x=some c
 | [],acc,x,c,_,ha,h=>ha x c h
 | (n,k)::r,acc,x,c,hf,ha,h=>by
  simp -iota only [d6] at h
  split at h
  ·rename_i hk
   refine fi (λx hx=>hf x (ai _ hx)) (λy d hy=>?_) h
   rw [aS] at hy
   split at hy
   ·rename_i q
    obtain ⟨e,he⟩:=aq.mp (hf (n,k) aa (by simpa using hk))
    simp only at he
    rw [he,Option.getD_some] at hy
    cases hy
    rw [beq_iff_eq.mp q]; exact he
   ·exact ha y d hy
  ·exact fi (λx hx=>hf x (ai _ hx)) ha h
set_option tactic.hygienic true in
theorem iD {cs:List (Str × Addr)}:∀ {names:List (Str × NameKind)}{acc:List (Str × Addr)}{x:Str},((x,NameKind.free)∈names\/(acc.lookup x).isSome=true)->((d6 cs names acc).lookup x).isSome=true
 | [],acc,x,h=>by
  rcases h with h | h
  ·cases h
  ·exact h
 | (n,k)::r,acc,x,h=>by
  simp -iota only [d6]
  split
  ·rename_i hk
   refine iD ?_
   rcases h with h | h
   ·rcases az.mp h with h | h
    ·cases h
     right
     rw [aS,beq_self_eq_true]; rfl
    ·exact .inl h
   ·right
    rw [aS]
    split
    ·rfl
    ·exact h
  ·rename_i hk
   refine iD ?_
   rcases h with h | h
   ·rcases az.mp h with h | h
    ·cases h; exact absurd rfl hk
    ·exact .inl h
   ·exact .inr h
theorem ww {α:Type}{l:List (Str × α)}{n:Str}{c:α}(h:l.lookup n=some c):(n,c)∈l:=mem_of_lookup h
set_option tactic.hygienic true in
theorem eY {fm:Fm}:∀ {names:List (Str × NameKind)}{x:Str}{k:NameKind},
  (names.map λ(n,k)=>if (k == NameKind.free && fm.sc.kind == .function && fm.sc.names.lookup n == some .cell) then (n,NameKind.cell) else (n,k)).lookup x=some k->∃ k',names.lookup x=some k'/\(k=k'\/(k'=.free/\k=.cell))
 | [],x,k,h=>by simp at h
 | (n,k0)::r,x,k,h=>by
  rw [List.map_cons] at h
  rw [aS]
  cases hx:x == n with
  | true=>
   refine ⟨k0,rfl,?_⟩
   simp only at h
   split at h
   ·rename_i hc
    simp -iota only [aS,hx] at h
    cases h
    simp -iota only [Bool.and_eq_true,beq_iff_eq] at hc
    exact .inr ⟨hc.1.1,rfl⟩
   ·simp -iota only [aS,hx] at h
    cases h
    exact .inl rfl
  | false=>
   simp only at h
   split at h
   ·simp -iota only [aS,hx] at h
    exact eY h
   ·simp -iota only [aS,hx] at h
    exact eY h
theorem mH {fm:Fm}:∀ {names:List (Str × NameKind)}{x:Str},names.lookup x=some .free ->
  (names.map λ(n,k)=>if (k == NameKind.free && fm.sc.kind == .function && fm.sc.names.lookup n == some .cell) then (n,NameKind.cell) else (n,k)).lookup x=some .cell \/
  (names.map λ(n,k)=>if (k == NameKind.free && fm.sc.kind == .function && fm.sc.names.lookup n == some .cell) then (n,NameKind.cell) else (n,k)).lookup x=some .free
 | [],x,h=>by simp at h
 | (n,k0)::r,x,h=>by
  rw [List.map_cons]
  rw [aS] at h
  cases hx:x == n with
  | true=>
   rw [hx] at h
   cases h
   simp only
   split
   ·left; simp only [aS,hx]
   ·right; simp only [aS,hx]
  | false=>
   rw [hx] at h
   simp only
   split <;> (simp only [aS,hx]; exact mH h)
theorem fW {α:Type}:∀ {l l':List (Str × α)}{x:Str},(l++l').lookup x=(l.lookup x).or (l'.lookup x)
 | [],l',x=>by simp
 | (n,v)::r,l',x=>by
  rw [List.cons_append,aS,aS]
  cases x == n with
  | true=>rfl
  | false=>exact fW
set_option tactic.hygienic true in
theorem dR {α:Type}{p:Str->Bool}:∀ {l:List (Str × α)}{x:Str}{v:α},(l.filter λq=>p q.1).lookup x=some v->l.lookup x=some v/\p x=true
 | [],x,v,h=>by simp at h
 | (n,u)::r,x,v,h=>by
  rw [List.filter_cons] at h
  rw [aS]
  cases hx:x == n with
  | true=>
   have hx':=beq_iff_eq.mp hx
   subst hx'
   split at h
   ·rename_i hp
    rw [aS,hx] at h
    exact ⟨h,hp⟩
   ·rename_i hp
    have:=(dR h).2
    exact absurd this hp
  | false=>
   split at h
   ·rw [aS,hx] at h
    exact dR h
   ·exact dR h
theorem uO {scope:Scope}{tv:pj}{tg:List Nat}{C:Addr}{m:Str->Option Value}(ok:iL fm scope tv tg) (E:bG P γ h fm env ae) (hC:γ.role C=.other) (h0:P.h0.get? C=none) (hn:h.Ns C m):
  bG P γ h (jW fm scope tv) (compEnvC scope (d6 env.cells scope.names []) C env) (ii ae tg):=by
 have hf:∀ x∈scope.names,x.2=.free->(env.cells.lookup x.1).isSome=true:=λx hx hk=>E.has x.1 (ok.free x hx hk)
 have hl:∀ x c,(d6 env.cells scope.names []).lookup x=some c->env.cells.lookup x=some c:=λx c h=>fi hf (λzz zz h=>by simp at h) h
 refine ⟨lW E scope,E.cd,E.qu,ok.kind,E.glo,E.bui,ok.inj,λx i hx=>?_,⟨hC,h0,m,hn⟩,λx c e=>E.cel x c (hl x c e),λx y c e1 e2=>E.apart x y c (hl x c e1) (hl y c e2),λx hx=>?_,λx i sl hx hi=>?_⟩
 ·have hx:(tv++fm.vis.filter (λp=>scope.names.lookup p.1 == some .free)).lookup x=some i:=hx
  rw [fW] at hx
  clear h0 hC hf hn
  cases h1:tv.lookup x with
  | some j=>exact ok.nd _ (mem_of_lookup h1)
  | none=>
   rw [h1,Option.none_or] at hx
   exact E.nd x i (dR (p:=λx=>scope.names.lookup x == some .free) hx).1
 ·have dA:scope.names.lookup x=some .free:=by
   rcases hx with hx | hx
   ·obtain ⟨k',h1,h2 | h2⟩:=eY hx
    ·clear h0 hC hf hn
     subst h2; exact absurd rfl (ok.cell _ (mem_of_lookup h1))
    ·rw [h1,h2.1]
   ·obtain ⟨k',h1,h2 | h2⟩:=eY hx
    ·rw [h1,h2]
    ·exact absurd h2.2 (λq=>nomatch q)
  exact iD (.inl (mem_of_lookup dA))
 ·have hx:(tv++fm.vis.filter (λp=>scope.names.lookup p.1 == some .free)).lookup x=some i:=hx
  rw [fW] at hx
  clear h0 hC hf hn
  cases h1:tv.lookup x with
  | some j=>
   rw [h1,Option.some_or] at hx
   cases hx
   exact absurd hi (iK (ok.tgs _ (mem_of_lookup h1)))
  | none=>
   rw [h1,Option.none_or] at hx
   obtain ⟨hx,hp⟩:=dR (p:=λx=>scope.names.lookup x == some .free) hx
   have hp:scope.names.lookup x=some .free:=beq_iff_eq.mp hp
   have hnt:i∉tg:=λq=>iK q hi
   rw [dX.2 i hnt] at hi
   obtain ⟨v,r,rs⟩:=E.get x i sl hx hi
   refine ⟨v,.inr ⟨?_,(E.nd x i hx).1,?_⟩,rs⟩
   ·show (relabel scope env).names.lookup x=_\/(relabel scope env).names.lookup x=_
    rw [lW E]
    exact mH hp
   ·have hk:=ok.free _ (mem_of_lookup hp) rfl
    have hk':env.kindOf x=some .cell\/env.kindOf x=some .free:=by rw [E.kindOf]; exact hk
    rcases r with ⟨a,zz⟩ | ⟨zz,zz,c,b,d⟩
    ·rcases hk' with q | q <;> rw [q] at a <;> cases a
    ·obtain ⟨c',hc'⟩:=aq.mp (iD (cs:=env.cells) (acc:=[]) (.inl (mem_of_lookup hp)))
     have:=hl x c' hc'
     rw [b] at this
     clear E b h1 hi hk hk' hl hnt hp hx ok rs sl
     cases this
     exact ⟨c,hc',d⟩
end
inductive kD (P:Pm) (fm:Fm):List Expr->Option E->Prop
 | none:kD P fm [] Option.none
 | some {pe me}:cZ P fm pe me->kD P fm [pe] (Option.some me)
section
variable {P:Pm}{K:Frag}{γ γ':Gh}{h h':Heap}{fm:Fm}{env:Env}{ae:En}{g g':G}{A:Around}{s:Shared}{Ex:Value->Shared->Prop}{cf:Cf}{n:Nat}
theorem kD.run {ifs:List Expr}{c:Option E}{b:Bool}{Q:Bool->Shared->Prop}(S:kD P fm ifs c) (C:cx P cf n) (R:cU A n) (I:bP P γ s.heap g) (Er:bG P γ s.heap fm env ae) (e:rF cf c ae g=Option.some (V.bool b,g'))
  (q:∀ γ' h' tk,Ev γ s.heap γ' h'->bP P γ' h' g'->bG P γ' h' fm env ae->Q b (Sh s h' tk)):
  wpAny (model P.prog P.w) A (forIn ifs true λc r=>if r=true then do let ok ← isTrue c env (eval c env); pure (ForInStep.yield ok) else pure (ForInStep.yield r)) Q Ex s:=by
 cases S with
 | none=>
  cases e
  exact wpAny_tests_nil (q γ s.heap s.toks .refl I Er)
 | some S=>
  exact wpAny_tests_one (S cf n C A γ s env ae g b g' R I Er e Q Ex q)
theorem cD {a b:Addr}{r:cQ}(hb:γ.role b≠γ.role a):(γ.put a r).role b=γ.role b:=bK λq=>hb (by rw [q])
theorem Ev.ice {D:Addr}(hr:γ.role D=.other):fo γ h (γ.put D .frozen) h:=λa o ra e=>⟨by rw [cD (by rw [ra,hr]; exact λq=>nomatch q)]; exact ra,e⟩
theorem bP.ice {D:Addr}(I:bP P γ h g) (hr:γ.role D=.other) (h0:P.h0.get? D=none) (hs:(h.get? D).isSome=true):bP P (γ.put D .frozen) h g:=by
 refine I.keep (Ev.ice hr) rfl (λzz zz=>rfl) (λa ha=>?_) (λa o n t ra e=>⟨by rw [cD (by rw [ra,hr]; exact λq=>nomatch q)]; exact ra,e⟩)
  (λa o hs' ra e=>⟨by rw [bK (λq=>by rw [q,h0] at hs'; cases hs')]; exact ra,e⟩) (λo ra e=>⟨by rw [cD (by rw [ra,hr]; exact λq=>nomatch q)]; exact ra,e⟩)
 by_cases hd:a=D
 ·rw [hd]; exact hs
 ·rw [bK hd] at ha; exact I.wf a ha
def te (P:Pm) (γ:Gh) (s:Shared) (fm:Fm) (env:Env) (ae:En) (vs:List V) (g':G) (K:Value->Addr->Shared->Prop):Prop:=
 ∀ D C γ' h' tk m,Ev γ s.heap γ' h'->bP P γ' h' g'->bG P γ' h' fm env ae->bM P γ' h' (.lst vs) (.ref D)->γ'.role C=.other->P.h0.get? C=none->h'.Ns C m->¬ cc env C->(γ.role C=.other->s.heap.get? C=none)->K (.ref D) C (Sh s h' tk)
end
structure CK where
 P:Pm
 fm:Fm
 env:Env
 D:Addr
def AT (k:CK) (us:List V) (γ:Gh) (h:Heap):Prop:=γ.role k.D=.other/\∃ ys,h.PlainList k.D ys/\bI k.P γ h us ys.toList
def yJ (tg:List Nat) (a b:En):Prop:=a.length=b.length/\∀ j sl,j∉tg->a[j]?=some (some sl)->b[j]?=some (some sl)
abbrev CK.own (k:CK) (a:Addr):Prop:=a=k.D\/a=k.env.locals
def z6 (k:CK) (tg2:List Nat) (n:Nat) (bk:Sem Fin->Sem Fin) (F:En->G->Option (List V × G)):Prop:=
 ∀ A γ s ae g us ws g',cU A n->bP k.P γ s.heap g->bG k.P γ s.heap k.fm k.env ae->AT k us γ s.heap->F ae g=some (ws,g')->us.length+ws.length<=lim->∀ (K:Sem Fin) (Q:Fin->Shared->Prop) (Ex:Value->Shared->Prop),
  (∀ γ' h' tk ae',dw k.own γ s.heap γ' h'->bP k.P γ' h' g'->bG k.P γ' h' k.fm k.env ae'->yJ tg2 ae ae'->AT k (us++ws) γ' h'->wpAny (model k.P.prog k.P.w) A K Q Ex (Sh s h' tk)) ->
  wpAny (model k.P.prog k.P.w) A (bk K) Q Ex s
section
variable {P:Pm}{γ γ':Gh}{h h':Heap}{fm:Fm}{env:Env}{ae:En}{g g':G}{A:Around}{s:Shared}{Ex:Value->Shared->Prop}{cf:Cf}{n:Nat}{k:CK}
theorem bG.weak {a b:En}(E:bG P γ h fm env b) (l:∀ (j:Nat) (sl:bN),a[j]?=some (some sl)->b[j]?=some (some sl)):bG P γ h fm env a:={ E with get:=λx i sl e q=>E.get x i sl e (l i sl q) }
theorem yJ.bind:∀ {tg:List Nat}{a b:En}{it:List V},yJ tg a b->it.length=tg.length->yJ [] (bZ a tg it) (bZ b tg it)
 | [],a,b,it,x,_=>x
 | i::is,a,b,[],x,h=>by simp at h
 | i::is,a,b,v::vs,x,h=>by
  simp only [bZ]
  refine yJ.bind ⟨by simp [x.1],λj sl hj e=>?_⟩ (by simpa using h)
  by_cases hij:i=j
  ·clear h vs
   subst hij
   rw [List.getElem?_set_self'] at e ⊢
   cases q:a[i]? with
   | none=>rw [q] at e; cases e
   | some _=>
    have hl:=(aA.mp q).1
    rw [q] at e
    rw [aN (x.1 ▸ hl)]; exact e
  ·rw [bh hij] at e ⊢
   exact x.2 j sl (by simp; exact ⟨λq=>hij q.symm,hj⟩) e
theorem dw.less {Pl Pl':Addr->Prop}(f:dw Pl γ h γ' h') (k:∀ a,Pl a->Pl' a\/(γ.role a=.other->h.get? a=none)):dw Pl' γ h γ' h':=
 ⟨f.fro,λa o r m e=>f.oth a o r (λq=>(k a q).elim m λz=>by rw [z r] at e; cases e) e,f.own,f.gn,f.ga⟩
theorem AT.keep {us:List V}{Pl:Addr->Prop}(a:AT k us γ h) (f:dw Pl γ h γ' h') (n:¬ Pl k.D):AT k us γ' h':=by
 obtain ⟨r,ys,⟨c,ho⟩,l⟩:=a
 exact ⟨(f.oth _ _ r n ho).1,ys,⟨c,(f.oth _ _ r n ho).2⟩,l.evP f⟩
theorem AA {elt:Expr}{gens:List Comprehension}{scope:Scope}{pos:Pos}{d:Nat}{tgt:Expr}{p:Pos}{J:Addr}{bk:Sem Fin->Sem Fin}{F:En->G->Option (List V × G)}{tg tg2:List Nat}{W:Addr->Prop}{St:List (List V)->Gh->Heap->Prop}{R:Result->Shared->Prop}{b:En}
  (ht:compTurn (.ListComp elt gens scope pos) d (.ref J) (.ref k.D) k.env=(do
   standAt p
   match ← pyNext (.ref J) with
   | none=>pure (.done .next)
   | some v=>do
    letOwnedTupleGo tgt (.ref J) v
    assign tgt k.env v
    bk (again (.compLoop (.ListComp elt gens scope pos) d (.ref J) (.ref k.D) k.env))))
  (wk:Wk k.P A tgt J W St) (t:pi k.fm true tgt tg) (wri:qc (·=k.env.locals) k.fm k.env true) (hW:∀ c,W c->c≠k.D/\¬ cc k.env c) (hD:¬ cc k.env k.D) (B:z6 k tg2 n bk F) (Rm:cU A n) (hb:∀ j∈tg2,∀ sl,b[j]?≠some (some sl)):
  ∀ (its:List (List V)) {γ:Gh}{s:Shared}{ae:En}{us ws:List V}{g:G},bP k.P γ s.heap g->bG k.P γ s.heap k.fm k.env ae->yJ tg b ae->St its γ s.heap->AT k us γ s.heap->eU (λit=>F (bZ b tg it)) its g=some (ws,g')->us.length+ws.length<=lim->(∀ it∈its,it.length=tg.length) ->
  (∀ γ' h' tk ae',dw (λa=>k.own a\/W a) γ s.heap γ' h'->bP k.P γ' h' g'->bG k.P γ' h' k.fm k.env ae'->yJ tg b ae'->AT k (us++ws) γ' h'->R (.ok .next) (Sh s h' tk)) ->
  codeAny (model k.P.prog k.P.w) A (.compLoop (.ListComp elt gens scope pos) d (.ref J) (.ref k.D) k.env) R s:=by
 intro its
 have nl:∀ c,W c->c≠k.env.locals:=λc hc q=>(hW c hc).2 (.inl q)
 induction its with
 | nil=>
  intro γ s ae us ws g I E le st ac e1 hle hl q
  refine codeAny_of_tree ?_
  show wpAny _ A ((compTurn (.ListComp elt gens scope pos) d (.ref J) (.ref k.D) k.env).onRaise (λx=>do noteFrame x k.env; theTreesLotGoes x)) _ _ s
  refine wpAny_noted ?_
  rw [ht]
  cases e1
  refine ad (bp (ad (wk.done γ s _ _ _ I st λγ1 h1 t1 f1 I1=>af ?_)))
  rw [bA] at q
  exact q γ1 h1 t1 ae (f1.sub λa ha=>.inr ha) I1 (E.p f1 λa hp hw=>(hW a hw).2 hp) le (ac.keep f1 λhw=>(hW _ hw).1 rfl)
 | cons it its ih=>
  intro γ s ae us ws g I E le st ac e1 hle hl q
  refine codeAny_of_tree ?_
  show wpAny _ A ((compTurn (.ListComp elt gens scope pos) d (.ref J) (.ref k.D) k.env).onRaise (λx=>do noteFrame x k.env; theTreesLotGoes x)) _ _ s
  refine wpAny_noted ?_
  rw [ht]
  refine dC e1 λw1 g1 e2 e4=>?_
  refine dC e4 λw2 g2 e3 e5=>?_
  clear e1 e4 ht
  cases e5
  rw [aB] at hle
  have hl0:=hl it aa
  refine ad (bp (ad (wk.item it its γ s _ _ _ _ I st (λv s₁ h₁=>ad h₁) λv γ1 h1 t1 f1 I1 st1 r1=>?_)))
  have E1:=E.p f1 λa hp hw=>(hW a hw).2 hp
  have ac1:=ac.keep f1 λhw=>(hW _ hw).1 rfl
  refine ad (lD (Pl:=(·=k.env.locals)) Rm.hd t hl0 E1 I1 wri r1 λh2 t2 f2 I2 E2=>?_)
  have le2:=le.bind hl0
  have st2:=wk.keep _ _ _ _ _ st1 (λc o hw hr ho=>f2.oth c o hr (nl c hw) ho) f2.fro f2.gn f2.ga
  refine B A γ1 (Sh s h2 t2) (bZ b tg it) g us w1 g1 Rm I2 (E2.weak λj sl q=>le2.2 j sl (λq=>nomatch q) q) (ac1.keep f2 λq=>hD (.inl q)) e2 (aj (bu (bn _ _) _) hle) _ _ _ λγ3 h3 t3 ae3 f3 I3 E3 le3 ac3=>af ⟨rfl,?_⟩
  have st3:=wk.keep _ _ _ _ _ st2 (λc o hw hr ho=>f3.oth c o hr (λq=>q.elim (hW c hw).1 (nl c hw)) ho) f3.fro f3.gn f3.ga
  have f123:dw (λa=>k.own a\/W a) γ s.heap γ3 h3:=(f1.sub λa ha=>.inr ha).trans ((f2.sub λa ha=>.inl (.inr ha)).trans (f3.sub λa ha=>.inl ha))
  have bs:oK tg (bZ b tg it) b:=lg
  refine ih I3 E3 ⟨bs.1.symm.trans le3.1,λj sl hj e=>?_⟩ st3 ac3 e3 (by rw [aB,Nat.add_assoc]; exact hle) (λit h=>hl it (ai _ h)) λγ4 h4 t4 ae4 f4 I4 E4 le4 ac4=>?_
  ·by_cases h2:j∈tg2
   ·exact absurd e (hb j h2 sl)
   ·exact le3.2 j sl h2 ((bs.2 j hj).trans e)
  ·rw [List.append_assoc] at ac4
   exact q γ4 h4 t4 ae4 (f123.trans f4) I4 E4 le4 ac4
end
theorem pJ {α β:Type}{f:α->Option β}:∀ {xs:List α}{ys:List β},mW f xs=some ys->ys.length=xs.length
 | [],ys,e=>by cases e; rfl
 | x::xs,ys,e=>by
  refine cu e λy zz e'=>?_
  refine cu e' λys' h e2=>?_
  clear e e'
  cases e2
  exact congrArg (·+1) (pJ h)
theorem jn:∀ {k:Nat}{xs:List V},(kq k xs).length=xs.length
 | _,[]=>rfl
 | k,x::xs=>congrArg (·+1) jn
theorem j8:∀ {xs ys:List V},(iJ xs ys).length<=xs.length
 | [],_=>ak _
 | _::_,[]=>aZ _
 | x::xs,y::ys=>aR j8
theorem vW {v:V}{xs:List V}(e:gj v=some xs):xs.length<=lim:=(gb e).2
theorem vg {kd:nX}{n:Nat}{a b:V}{its:List (List V)}(e:cJ kd n a b=some its):its.length<=lim:=by
 cases kd with
 | plain=>
  refine cu e λxs h h2=>?_
  rw [pJ h2]; exact vW h
 | enum=>
  refine cu e λxs h h2=>?_
  refine bU h2 λhn e2=>?_
  cases e2; rw [jn]; exact hn.2
 | zip=>
  refine cu e λxs h h2=>?_
  refine cu h2 λys h h2=>?_
  refine bU h2 λhn e2=>?_
  cases e2; exact aj j8 hn.2.1
 | range=>
  refine cu e λk h h2=>?_
  refine bU h2 λhn e2=>?_
  cases e2
  rw [ls,aw,List.length_range]
  exact Int.toNat_le.mpr hn.2.2
 | rev=>
  refine cu e λxs h h2=>?_
  refine bU h2 λhn e2=>?_
  clear e h h2
  cases e2; rw [aw,List.length_reverse]; exact hn.2
theorem nY {f c:En->G->Option (V × G)}{tg:List Nat}{b:En}:∀ {its:List (List V)}{g g':G}{vs:List V},eU (λit=>fV f c (bZ b tg it)) its g=some (vs,g')->vs.length<=its.length
 | [],g,g',vs,e=>by cases e; exact ak _
 | it::its,g,g',vs,e=>by
  refine dC e λw1 g1 e1 e2=>?_
  refine dC e2 λw2 g2 e3 e4=>?_
  clear e e2
  cases e4
  have h1:w1.length<=1:=by
   refine gO e1 λt g2 zz h=>?_
   clear e1
   cases t with
   | true=>refine cu h λzz zz h=>?_; cases h; exact ak _
   | false=>cases h; exact aZ _
  rw [aB,Nat.add_comm,aO]
  exact Nat.add_le_add (nY e3) h1
section
variable {prog:Program}{w:World}{A:Around}{R:Result->Shared->Prop}{s:Shared}
theorem eM {elt:Expr}{gens:List Comprehension}{scope:Scope}{pos:Pos}{d:Nat}{target iter:Expr}{ifs:List Expr}{it acc:Value}{env:Env}(hg:gens[d]?=some ⟨target,iter,ifs,0⟩)
  (h0:codeAny (model prog w) A (.compLoop (.ListComp elt gens scope pos) d it acc env) R s)
  (h:wpAny (model prog w) A (pyIter it) (λit' s'=>codeAny (model prog w) A (.compLoop (.ListComp elt gens scope pos) d it' acc env) R s') (notedBy (model prog w) A env λx s'=>R (.error x) s') s):
  codeAny (model prog w) A (.compStart (.ListComp elt gens scope pos) d it acc env) R s:=by
 refine codeAny_of_tree ?_
 show wpAny _ _ ((compStart (.ListComp elt gens scope pos) d it acc env).onRaise (λx=>do noteFrame x env; standAt theWindowsPlace)) _ _ s
 refine wpAny_notedAt ?_
 have hc:(clausesOf (.ListComp elt gens scope pos))[d]?=some ⟨target,iter,ifs,0⟩:=hg
 unfold compStart
 rw [hc]
 show wpAny _ _ (ask >>= _) _ _ s
 refine ad (wpAny_askSetting (wpAny_ite ?_))
 split
 ·first
   | exact ad (af (af (And.intro rfl h0)))
   | exact af (And.intro rfl h0)
 ·refine ad (wpAny_rule ?_)
  show wpAny _ _ (standAt iter.pos >>= _) _ _ s
  exact ad (bp (ad (wpAny_mono h (λit' s' h'=>af (And.intro rfl h')) λzz zz x=>x)))
end
noncomputable def tU (elt:Expr) (ifs:List Expr) (env:Env) (acc:Value) (K:Sem Fin):Sem Fin:=do
 let mut ok:=true
 for c in ifs do
  if ok then ok ← isTrue c env (eval c env)
 if ok then
  (do let _ ← call (.builtin "list.append") [acc,← eval elt env])
 K
noncomputable def vX (e iter:Expr) (env:Env) (acc:Value) (K:Sem Fin):Sem Fin:=do
 let mut ok:=true
 for c in ([]:List Expr) do
  if ok then ok ← isTrue c env (eval c env)
 if ok then
  let x ← eval iter env
  standAt iter.pos
  let x ← foldedSetIterable iter env x
  let _ ← runOwn (.compStart e 1 (← holding [x] (pyIter x)) acc env) env
 K
section
variable {P:Pm}{K:Frag}{γ γ':Gh}{h h':Heap}{fm:Fm}{env:Env}{ae:En}{g g':G}{A:Around}{s:Shared}{Ex:Value->Shared->Prop}{cf:Cf}{n:Nat}{W:Nat}{k:CK}
theorem pS {elt:Expr}{ifs:List Expr}{me:E}{mc:Option E}(S:bE k.P k.fm elt me) (SC:kD k.P k.fm ifs mc) (C:cx k.P cf n) (hD:¬ cc k.env k.D) (h0:k.P.h0.get? k.D=none):
  z6 k [] n (tU elt ifs k.env (.ref k.D)) (fV (me cf) (rF cf mc)):=by
 intro A γ s ae g us ws g' R I E ac e hle K Q Ex q
 refine gO e λt g1 e1 e2=>?_
 unfold tU
 refine ad (SC.run C R I E e1 λγ1 h1 t1 f1 I1 E1=>?_)
 clear E I SC e1
 cases t with
 | true=>
  refine dC e2 λv g2 e3 e4=>?_
  cases e4
  refine ad (ad (S.run C R I1 E1 e3 λy γ2 h2 t2 f2 I2 E2 r2=>ad ?_))
  have f12:=f1.trans f2
  obtain ⟨rD,ys,pl,rl⟩:=ac.keep (f12.p (Pl:=λzz=>False)) id
  have hys:ys.size=us.length:=(aM (xs:=ys)).symm.trans rl.length
  refine wpAny_list_append_plain pl (λh3 pl3 ks=>af ?_) (by rw [hys]; exact sz _ (aJ hle))
  have f3:dw (·=k.D) γ2 h2 γ2 h3:=dw.but ks rD rfl
  refine q γ2 h3 t2 ae (f12.p.trans (f3.sub λa ha=>.inl ha)) (I2.but ks rD h0) (E2.p f3 λa hp hc=>hD (hc ▸ hp)) ⟨rfl,λzz zz zz e=>e⟩ ⟨rD,_,pl3,?_⟩
  rw [Array.toList_push]
  exact (rl.evP f3).append (.cons (r2.evP f3) .nil)
 | false=>
  clear C R S h0 hD hle
  cases e2
  refine q γ1 h1 t1 ae f1.p I1 E1 ⟨rfl,λzz zz zz e=>e⟩ ?_
  rw [bA]
  exact ac.keep (f1.p (Pl:=λzz=>False)) id
theorem we {elt tgt1 iter1 tgt2 iter2:Expr}{scope:Scope}{pos:Pos}{me x2:E}{t2:Nat}(S:bE k.P k.fm elt me) (T:dK k.P k.fm iter2 .plain x2 .none tgt2 [t2]) (t:pi k.fm true tgt2 [t2]) (wri:qc (·=k.env.locals) k.fm k.env true)
  (C:cx k.P cf n) (hD:¬ cc k.env k.D) (h0:k.P.h0.get? k.D=none) (hf:∀ x,foldedSetIterable iter2 k.env x=pure x):
  z6 k [t2] n (vX (.ListComp elt [⟨tgt1,iter1,[],0⟩,⟨tgt2,iter2,[],0⟩] scope pos) iter2 k.env (.ref k.D)) (C1 me t2 x2 cf):=by
 intro A γ s ae g us ws g' R I E ac e hle K Q Ex q
 unfold vX
 refine dC e λb g1 e1 e'=>?_
 refine cu e' λits e2 e3=>?_
 refine ad (af ?_)
 rw [if_pos rfl]
 have dead:∀ {a:Addr},γ.role a=.other->(s.heap.get? a).isSome=true->∀ {Wr:Addr->Prop},(∀ x,Wr x->(γ.role x=.other->s.heap.get? x=none))->¬ Wr a:=λr z zz hW hw=>by rw [hW _ hw r] at z; cases z
 have aD:γ.role k.D=.other/\(s.heap.get? k.D).isSome=true:=let ⟨r,ys,⟨c,ho⟩,_⟩:=ac; ⟨r,by rw [ho]; rfl⟩
 refine ad (wpAny_mono (T cf n C A γ s k.env ae g b .none g1 g1 its R I E e1 rfl e2 (λit' s'=>wpAny (model k.P.prog k.P.w) A (runOwn (.compStart (.ListComp elt [⟨tgt1,iter1,[],0⟩,⟨tgt2,iter2,[],0⟩] scope pos) 1 it' (.ref k.D) k.env) k.env) (λzz s'=>wpAny (model k.P.prog k.P.w) A K Q Ex s') Ex s') Ex λJ Wr St γ1 h1 t1 f1 I1 E1 wk st hW=>?_) (λx s1 hx=>?_) λzz zz z=>z)
 ·have hW1:∀ c,Wr c->c≠k.D/\¬ cc k.env c:=λc hc=>⟨λq=>dead aD.1 aD.2 (λx hx=>(hW x hx).1) (q ▸ hc),λhp=>by
   obtain ⟨o,ho,hr⟩:=E.there hp
   exact dead hr (by rw [ho]; rfl) (λx hx=>(hW x hx).1) hc⟩
  have loop:codeAny (model k.P.prog k.P.w) A (.compLoop (.ListComp elt [⟨tgt1,iter1,[],0⟩,⟨tgt2,iter2,[],0⟩] scope pos) 1 (.ref J) (.ref k.D) k.env)
    (λr s'=>match r with | .ok f=>wpAny (model k.P.prog k.P.w) A K Q Ex s' | .error e=>cameBackBy (model k.P.prog k.P.w) A k.env Ex e s') (Sh s h1 t1):=by
   refine AA (bk:=tU elt [] k.env (.ref k.D)) (p:=iter2.pos) (tg2:=[]) (b:=ae) (g':=g') rfl wk t wri hW1 hD (pS S .none C hD h0) R (λj hj=>nomatch hj) its I1 E1 ⟨rfl,λzz zz zz e=>e⟩ st (ac.keep (f1.p (Pl:=λzz=>False)) id) e3 hle (λit hit=>jM e2 hit) λγ2 h2 t2' ae2 f2 I2 E2 le2 ac2=>?_
   exact q γ2 h2 t2' ae2 ((f1.p.trans f2).less λa ha=>ha.imp id λhw=>(hW a hw).1) I2 E2 le2 ac2
  exact wpAny_runOwn (h:=Option.none) (eM rfl loop (wk.self _ _ _ _ _ st loop))
 ·exact ad (bp (ad (wpAny_of_eq (hf x) (ad (aH (wpAny_mono hx (λit' s' h=>ad h) λzz zz z=>z))))))
theorem lC {elt tgt iter:Expr}{ifs:List Expr}{rest:List Comprehension}{scope:Scope}{pos p0:Pos}{tv:pj}{tg tg2:List Nat}{kd:nX}{x1 x2:E}{use:Option (Value->Sem Unit)}{Q:Value->Shared->Prop}{vs:List V}{a b:V}{g1 g2:G}{its:List (List V)}{base:En}{F:En->G->Option (List V × G)}
  {bk:Env->Value->Sem Fin->Sem Fin}(ht:∀ J D env,compTurn (.ListComp elt (⟨tgt,iter,ifs,0⟩::rest) scope pos) 0 (.ref J) (.ref D) env=(do
   standAt iter.pos
   match ← pyNext (.ref J) with
   | none=>pure (.done .next)
   | some v=>do
    letOwnedTupleGo tgt (.ref J) v
    assign tgt env v
    bk env (.ref D) (again (.compLoop (.ListComp elt (⟨tgt,iter,ifs,0⟩::rest) scope pos) 0 (.ref J) (.ref D) env))))
  (ok:iL fm scope tv (tg++tg2)) (T:dK P fm iter kd x1 x2 tgt tg) (t:pi (jW fm scope tv) true tgt tg) (hf:∀ x,foldedSetIterable iter env x=pure x)
  (B:∀ k:CK,k.P=P->k.fm=jW fm scope tv->¬ cc k.env k.D->k.P.h0.get? k.D=none->qc (·=k.env.locals) k.fm k.env true->z6 k tg2 n (bk k.env (.ref k.D)) F)
  (C:cx P cf n) (R:cU A n) (I:bP P γ s.heap g) (Er:bG P γ s.heap fm env ae) (e1:x1 cf ae g=some (a,g1)) (e2:x2 cf ae g1=some (b,g2)) (e3:cJ kd tg.length a b=some its) (e4:eU (λit=>F (bZ base tg it)) its g2=some (vs,g'))
  (hlim:vs.length<=lim) (hb:yJ tg base (ii ae (tg++tg2))) (hb2:∀ j∈tg2,∀ sl,base[j]?≠some (some sl))
  (q:te P γ s fm env ae vs g' λD C s'=>compPost (model P.prog P.w) A Ex use Q D C (.ok .next) s'):
  wpAny (model P.prog P.w) A (comprehension (.ListComp elt (⟨tgt,iter,ifs,0⟩::rest) scope pos) scope env p0 (newList []) false (eval iter env) use) Q Ex s:=by
 have hfr:∀ x∈scope.names,x.2=.free->(env.cells.lookup x.1).isSome=true:=λx hx hk=>Er.has x.1 (ok.free x hx hk)
 refine wpAny_comprehension_free rfl hf (m0 hfr) ok.kind ok.names (T cf n C A γ s env ae g a b g1 g2 its R I Er e1 e2 e3 _ Ex λJ Wr St γ1 h1 t1 f1 I1 E1 wk st hW=>?_)
 refine aV ?_
 refine wpAny_newFunctionEnv ok.cell (by intro x hx; cases hx) (λh2 hns hsb=>?_) ok.kind
 dsimp only at hns hsb ⊢
 have nD:=I1.fresh (ak _)
 generalize hH2:h1.push { cls:=.type "list",dict:=none,data:=.seq ([]:List Value).toArray }=H2 at hns hsb ⊢
 have BL:H2.objs.size=h1.objs.size+1:=by rw [← hH2,Heap.size_push]
 have old:∀ c o,h1.get? c=some o->h2.get? c=some o:=λc o e=>hsb.extBut c o (by rw [BL]; exact Nat.ne_of_lt (Nat.lt_succ_of_lt (Heap.lt_size e))) (ag _ (by rw [← hH2]; exact ag _ e))
 have nC:=I1.fresh (z:=H2.objs.size) (by rw [BL]; exact Nat.le_succ _)
 have hDC:h1.objs.size≠H2.objs.size:=by rw [BL]; exact Nat.ne_of_lt (Nat.lt_succ_self _)
 have hacc:h2.PlainList h1.objs.size #[]:=⟨_,hsb.extBut _ _ hDC (ag _ (by rw [← hH2]; exact ah _ rfl))⟩
 have f2:Ev γ1 h1 γ1 h2:=Ev.grow old
 have I2:bP P γ1 h2 g2:=I1.grow old
 generalize h1.objs.size=D at nD hDC hacc hsb
 generalize H2.objs.size=C' at nC hDC hns hsb
 clear BL hH2 hsb
 have e0:bG P γ1 h2 (jW fm scope tv) (compEnvC scope (d6 env.cells scope.names []) C' env) (ii ae (tg++tg2)):=uO ok (E1.ev f2) nC.1.1 nC.1.2 hns
 have hf':∀ x c,(d6 env.cells scope.names []).lookup x=some c->env.cells.lookup x=some c:=λx c h=>fi hfr (λzz zz h=>by simp at h) h
 have out:∀ c,cc (compEnvC scope (d6 env.cells scope.names []) C' env) c->c=C'\/(∃ o,h1.get? c=some o/\γ1.role c=.other):=λc hp=>by
  clear C I I1 T e1 e2 hf hfr hns ok
  rcases hp with rfl | ⟨x,hx⟩
  ·exact .inl rfl
  ·exact .inr (E1.there (.inr ⟨x,hf' x c hx⟩))
 have hD:¬ cc (compEnvC scope (d6 env.cells scope.names []) C' env) D:=λhp=>(out D hp).elim hDC λ⟨o,ho,_⟩=>by rw [nD.2] at ho; cases ho
 have hW1:∀ c,Wr c->c≠D/\¬ cc (compEnvC scope (d6 env.cells scope.names []) C' env) c:=λc hc=>by
  obtain ⟨o,ho⟩:=aq.mp (hW c hc).2
  refine ⟨(λq=>by rw [q,nD.2] at ho; cases ho),λhp=>?_⟩
  rcases hp with hp | ⟨x,hx⟩
  ·have:c=C':=hp
   rw [this,nC.2] at ho; cases ho
  ·obtain ⟨o',ho',hr'⟩:=Er.there (.inr ⟨x,hf' x c hx⟩)
   rw [(hW c hc).1 hr'] at ho'; cases ho'
 have wri:qc (·=C') (jW fm scope tv) (compEnvC scope (d6 env.cells scope.names []) C' env) true:=λx hk=>hk.elim (λh=>.inl ⟨h,rfl⟩) λh=>absurd h.1 (by decide)
 have loop:codeAny (model P.prog P.w) A (.compLoop (.ListComp elt (⟨tgt,iter,ifs,0⟩::rest) scope pos) 0 (.ref J) (.ref D) (compEnvC scope (d6 env.cells scope.names []) C' env))
   (compPost (model P.prog P.w) A Ex use Q (.ref D) C') (Sh s h2 (t1+([]:List (Str × Value)).length)):=by
  refine AA (k:=⟨P,jW fm scope tv,compEnvC scope (d6 env.cells scope.names []) C' env,D⟩) (ht J D _) wk t wri hW1 hD (B _ rfl rfl hD nD.1.2 wri) R hb2 its (us:=[]) I2 e0 hb (wk.keep _ _ _ _ _ st (λc o zz hr ho=>⟨hr,old c o ho⟩) f2.fro f2.gn f2.ga) ⟨nD.1.1,#[],hacc,.nil⟩ e4 (by simpa using hlim) (λit hit=>jM e3 hit) λγ3 h3 t3 ae3 f3 I3 E3 le3 ac3=>?_
  obtain ⟨rD3,ys,⟨kl,hl⟩,rl⟩:=ac3
  have I4:=I3.ice rD3 nD.1.2 (by show (h3.get? D).isSome=true; rw [hl]; rfl)
  have f4:dw (λa=>(a=D\/a=C')\/Wr a) γ3 h3 (γ3.put D .frozen) h3:=⟨Ev.ice rD3,λc o hr hn e=>⟨by rw [bK (λq=>hn (.inl (.inl q)))]; exact hr,e⟩,λc o i hr e=>⟨by rw [cD (by rw [hr,rD3]; exact λq=>nomatch q)]; exact hr,e⟩,ak _,λzz zz=>rfl⟩
  have fresh:∀ a,(a=D\/a=C')\/Wr a->γ.role a=.other->s.heap.get? a=none:=λa ha hr=>by
   clear B C I I1 I2 I3 R T e0 e1 e2 e3 e4 hD hW1 hacc hb hb2 hf hf' hfr hlim hns ht le3 ok out rD3 t wri
   rcases ha with (rfl | rfl) | hw
   ·exact f1.none nD.2 hr
   ·exact f1.none nC.2 hr
   ·exact (hW a hw).1 hr
  have f5:Ev γ s.heap (γ3.put D .frozen) h3:=((f1.trans f2).p.trans (f3.trans f4)).ev fresh
  obtain ⟨r3,zz,m,n3⟩:=E3.loc
  refine q D C' _ h3 t3 m f5 I4 (Er.ev f5) ?_ (by rw [bK (Ne.symm hDC)]; exact r3) nC.1.2 n3 (λhp=>?_) (f1.none nC.2)
  ·exact ⟨_,ys,rfl,cz,⟨kl,hl⟩,rl.evP f4⟩
  ·obtain ⟨o,ho,zz⟩:=E1.there hp
   rw [nC.2] at ho; cases ho
 exact eM rfl loop (wk.self _ _ _ _ _ (wk.keep _ _ _ _ _ st (λc o zz hr ho=>⟨hr,old c o ho⟩) f2.fro f2.gn f2.ga) loop)
theorem zR {tg:List Nat}:yJ tg ae (ii ae (tg++[])):=by
 rw [bA]
 exact ⟨dX.1.symm,λj sl hj e=>(dX.2 j hj).trans e⟩
theorem pW {elt tgt iter:Expr}{ifs:List Expr}{scope:Scope}{pos p0:Pos}{tv:pj}{tg:List Nat}{kd:nX}{me x1 x2:E}{mc:Option E}{v:V}{use:Option (Value->Sem Unit)}{Q:Value->Shared->Prop}
  (ok:iL fm scope tv tg) (T:dK P fm iter kd x1 x2 tgt tg) (t:pi (jW fm scope tv) true tgt tg) (S:bE P (jW fm scope tv) elt me) (SC:kD P (jW fm scope tv) ifs mc) (hf:∀ x,foldedSetIterable iter env x=pure x)
  (C:cx P cf n) (R:cU A n) (I:bP P γ s.heap g) (Er:bG P γ s.heap fm env ae) (e:E.comp me tg kd x1 x2 mc cf ae g=some (v,g'))
  (q:∀ vs,v=.lst vs->te P γ s fm env ae vs g' λD C s'=>compPost (model P.prog P.w) A Ex use Q D C (.ok .next) s'):
  wpAny (model P.prog P.w) A (comprehension (.ListComp elt [⟨tgt,iter,ifs,0⟩] scope pos) scope env p0 (newList []) false (eval iter env) use) Q Ex s:=by
 refine dC e λa g1 e1 e5=>?_
 refine dC e5 λb g2 e2 e6=>?_
 refine cu e6 λits e3 e7=>?_
 refine dC e7 λvs g3 e4 e8=>?_
 clear e e5 e6 e7
 cases e8
 exact lC (tg2:=[]) (bk:=tU elt ifs) (λzz zz zz=>rfl) (by rw [bA]; exact ok) T t hf (λk hP hfm hD h0 zz=>pS (by rw [hP,hfm]; exact S) (by rw [hP,hfm]; exact SC) (by rw [hP]; exact C) hD h0) C R I Er e1 e2 e3 e4
  (aj (nY e4) (vg e3)) zR (λj hj=>nomatch hj) (q vs rfl)
theorem bE.comp {elt tgt iter:Expr}{ifs:List Expr}{scope:Scope}{pos:Pos}{tg:List Nat}{kd:nX}{me x1 x2:E}{mc:Option E}(tv:pj)
  (ok:iL fm scope tv tg) (T:dK P fm iter kd x1 x2 tgt tg) (t:pi (jW fm scope tv) true tgt tg) (S:bE P (jW fm scope tv) elt me) (SC:kD P (jW fm scope tv) ifs mc) (hf:∀ env x,foldedSetIterable iter env x=pure x):
  bE P fm (.ListComp elt [⟨tgt,iter,ifs,0⟩] scope pos) (.comp me tg kd x1 x2 mc):=by
 intro cf n C A γ s env ae g v g' R I Er e
 intro Q Ex q
 rw [eval_ListComp]
 refine pW (use:=Option.none) ok T t S SC (hf env) C R I Er e λvs hv D C γ1 h1 t1 m f1 I1 E1 r1 rC h0 hn np fr=>⟨m,hn,λh2 ks=>?_⟩
 have f2:dw (·=C) γ1 h1 γ1 h2:=dw.but ks rC rfl
 clear E1 Er Ex I R S SC T e g hf hn m np ok t tv
 subst hv
 exact q _ γ1 h2 t1 ((f1.p.trans f2).ev λa ha hr=>by subst ha; exact fr hr) (I1.but ks rC h0) (r1.evP f2)
theorem bE.comp2 {elt tgt iter tgt2 iter2:Expr}{scope:Scope}{pos:Pos}{t1 t2:Nat}{me x1 x2:E}(tv:pj)
  (ok:iL fm scope tv [t1,t2]) (T:dK P fm iter .plain x1 .none tgt [t1]) (t:pi (jW fm scope tv) true tgt [t1]) (T2:dK P (jW fm scope tv) iter2 .plain x2 .none tgt2 [t2]) (u:pi (jW fm scope tv) true tgt2 [t2]) (S:bE P (jW fm scope tv) elt me)
  (hf:∀ env x,foldedSetIterable iter env x=pure x) (hf2:∀ env x,foldedSetIterable iter2 env x=pure x):
  bE P fm (.ListComp elt [⟨tgt,iter,[],0⟩,⟨tgt2,iter2,[],0⟩] scope pos) (.comp2 me t1 x1 t2 x2):=by
 intro cf n C A γ s env ae g v g' R I Er e
 refine dC e λa g1 e1 e5=>?_
 refine cu e5 λits e3 e6=>?_
 refine dC e6 λvs g2 e4 e7=>?_
 refine bU e7 λhl e8=>?_
 refine cb.of e8 ?_
 intro Q Ex q
 rw [eval_ListComp]
 refine lC (use:=Option.none) (tg:=[t1]) (tg2:=[t2]) (x2:=E.none) (bk:=vX (.ListComp elt [⟨tgt,iter,[],0⟩,⟨tgt2,iter2,[],0⟩] scope pos) iter2) (base:=ae.set t2 Option.none) (λzz zz zz=>rfl) ok T t (hf env)
  (λk hP hfm hD h0 wri=>we (by rw [hP,hfm]; exact S) (by rw [hP,hfm]; exact T2) (by rw [hfm]; exact u) wri (by rw [hP]; exact C) hD h0 (hf2 k.env)) C R I Er e1 rfl e3 e4 hl ⟨?_,λj sl hj e=>?_⟩ (λj hj sl e=>?_)
  λD C γ1 h1 t1 m f1 I1 E1 r1 rC h0 hn np fr=>⟨m,hn,λh2 ks=>?_⟩
 ·rw [bt]; exact dX.1.symm
 ·have h2:j≠t2:=λz=>by
   clear Er Ex I R S T T2 e1 e3 e4 e5 e6 e7 e8 env g1 hf hf2 hl its ok t u
   subst z
   rw [List.getElem?_set_self'] at e
   clear A tv
   cases z:ae[j]? <;> rw [z] at e <;> cases e
  rw [bh (Ne.symm h2)] at e
  rw [dX.2 j (by simpa using ⟨by simpa using hj,h2⟩)]; exact e
 ·have:j=t2:=by simpa using hj
  clear Er Ex I R S T T2 e1 e3 e4 e5 e6 e7 e8 env g1 hf hf2 hj hl its ok t u
  subst this
  rw [List.getElem?_set_self'] at e
  clear A tv
  cases z:ae[j]? <;> rw [z] at e <;> cases e
 ·have f2:dw (·=C) γ1 h1 γ1 h2:=dw.but ks rC rfl
  exact q _ γ1 h2 t1 ((f1.p.trans f2).ev λa ha hr=>by subst ha; exact fr hr) (I1.but ks rC h0) (r1.evP f2)
theorem b0.asgComp {x:Str}{p spos:Pos}{elt tgt iter:Expr}{ifs:List Expr}{scope:Scope}{pos:Pos}{tg:List Nat}{kd:nX}{me x1 x2:E}{mc:Option E}{i:Nat}(tv:pj)
  (hx:fm.vis.lookup x=some i) (hk:fm.sc.names.lookup x=some .local\/fm.sc.names.lookup x=some .cell)
  (ok:iL fm scope tv tg) (T:dK P fm iter kd x1 x2 tgt tg) (t:pi (jW fm scope tv) true tgt tg) (S:bE P (jW fm scope tv) elt me) (SC:kD P (jW fm scope tv) ifs mc) (hf:∀ env x,foldedSetIterable iter env x=pure x)
  (hs:∀ env,∃ b,swapsWith (.ListComp elt [⟨tgt,iter,ifs,0⟩] scope pos) (some (.Name x p)) spos.line env=pure b):
  b0 P fm W (.Assign [.Name x p] (.ListComp elt [⟨tgt,iter,ifs,0⟩] scope pos) spos) (.asg i (.comp me tg kd x1 x2 mc)):=by
 intro cf n C A γ s env ae g fl ae' g' R I Er e
 intro Q Ex q
 obtain ⟨b,hb⟩:=hs env
 refine dC e λv g1 e1 e2=>?_
 clear e hs
 cases e2
 cases b with
 | false=>
  exact wpAny_Assign_Name ((bE.comp tv ok T t S SC hf).run C R I Er e1 λy γ1 h1 t1 f1 I1 E1 r1=>dO (Pl:=cc env) (sl:=.val v) E1 I1 hx (qc.place E1 x (hk.imp id λh=>⟨rfl,h⟩)) r1 λh2 t2 f2 I2 E2=>
   q _ γ1 h2 t2 (f1.es.trans f2.es) I2 (.nxt E2)) hb
 | true=>
  rw [exec_Assign_Name_used _ _ _ _ hb]
  refine ad (bp (ad ?_))
  show wpAny _ _ (comprehension _ _ _ _ _ _ _ _ >>= _) _ _ _
  refine ad ?_
  refine pW (use:=Option.some (assign (.Name x p) env)) ok T t S SC (hf env) C R I Er e1 λvs hv D C γ1 h1 t1 m f1 I1 E1 r1 rC h0 hn np fr=>?_
  clear Er I R S SC T e1 g hb hf ok t tv
  subst hv
  refine wpAny_assign_Name (dO (Pl:=cc env) (sl:=.val (.lst vs)) E1 I1 hx (qc.place E1 x (hk.imp id λh=>⟨rfl,h⟩)) r1 λh2 t2 f2 I2 E2=>?_)
  obtain ⟨o,es,ep,ho,hd⟩:=hn
  refine ⟨m,⟨o,es,ep,(f2.oth _ o rC np ho).2,hd⟩,λh3 ks=>af (af ?_)⟩
  have f3:dw (·=C) γ1 h2 γ1 h3:=dw.but ks rC rfl
  have f4:il (λa=>cc env a\/a=C) γ s.heap γ1 h3:=f1.es.trans ((f2.es.sub λa ha=>.inl (.inl ha)).trans (f3.es.sub λa ha=>.inl (.inr ha)))
  exact q _ γ1 h3 t2 (f4.sub λa ha=>ha.imp id λq=>by subst q; exact fr) (I2.but ks rC h0) (.nxt (E2.p f3 λa hp ha=>np (ha ▸ hp)))
end
inductive fe (P:Pm) (γ:Gh) (h:Heap):List Nat->List bN->List Value->Prop
 | nil:fe P γ h [] [] []
 | cons {i:Nat}{is:List Nat}{sl:bN}{ss:List bN}{x:Value}{xs:List Value}:bT P γ h (.own i) sl x->fe P γ h is ss xs->fe P γ h (i::is) (sl::ss) (x::xs)
section
variable {P:Pm}{K:Frag}{γ γ':Gh}{h h':Heap}{fm:Fm}{env:Env}{g g':G}{A:Around}{s:Shared}{Ex:Value->Shared->Prop}{cf:Cf}{n:Nat}{W:Nat}{Pl:Addr->Prop}
theorem bT.evP (f:dw Pl γ h γ' h') {i:Nat}{sl:bN}{x:Value}(r:bT P γ h (.own i) sl x):bT P γ' h' (.own i) sl x:=r.glob f.fro f.gn f.ga λa o r e=>f.own a o i r e
theorem fe.evP (f:dw Pl γ h γ' h') {is:List Nat}{ss:List bN}{xs:List Value}(r:fe P γ h is ss xs):fe P γ' h' is ss xs:=by
 induction r with
 | nil=>exact .nil
 | cons a b ih=>exact .cons (a.evP f) ih
theorem fe.len {is:List Nat}{ss:List bN}{xs:List Value}(r:fe P γ h is ss xs):xs.length=is.length/\ss.length=is.length:=by
 induction r with
 | nil=>exact ⟨rfl,rfl⟩
 | cons a b ih=>exact ⟨by simp [ih.1],by simp [ih.2]⟩
theorem fe.append {is js:List Nat}{ss ts:List bN}{xs ys:List Value}(r:fe P γ h is ss xs) (q:fe P γ h js ts ys):fe P γ h (is++js) (ss++ts) (xs++ys):=by
 induction r with
 | nil=>exact q
 | cons a b ih=>exact .cons a ih
theorem fe.reverse {is:List Nat}{ss:List bN}{xs:List Value}(r:fe P γ h is ss xs):fe P γ h is.reverse ss.reverse xs.reverse:=by
 induction r with
 | nil=>exact .nil
 | cons a b ih=>simp only [List.reverse_cons]; exact ih.append (.cons a .nil)
theorem fe.vals:∀ {vs:List V}{xs:List Value}{is:List Nat},bI P γ h vs xs->vs.length=is.length->fe P γ h is (vs.map .val) xs
 | [],xs,is,r,hl=>by
  cases r.inv_nil
  have:is=[]:=ba.mp hl.symm
  subst this; exact .nil
 | v::vs,xs,is,r,hl=>by
  obtain ⟨x,r,rfl,a,b⟩:=r.inv
  clear r
  cases is with
  | nil=>simp at hl
  | cons i is=>exact .cons a (fe.vals b (by simpa using hl))
theorem iN:∀ {vs:List V}{is:List Nat}{ae:En},fJ ae is (vs.map .val)=bZ ae is vs
 | [],is,ae=>by cases is <;> rfl
 | v::vs,[],ae=>rfl
 | v::vs,i::is,ae=>iN (ae:=ae.set i (some (.val v)))
theorem xF {a:En}{i j:Nat}{x y:Option bN}(h:i≠j):(a.set i x).set j y=(a.set j y).set i x:=List.set_comm x y h
theorem nE:∀ {is:List Nat}{ss:List bN}{ae:En}{i:Nat}{x:Option bN},i∉is->fJ (ae.set i x) is ss=(fJ ae is ss).set i x
 | [],ss,ae,i,x,h=>by cases ss <;> rfl
 | j::js,[],ae,i,x,h=>rfl
 | j::js,s::ss,ae,i,x,h=>by
  rw [az,not_or] at h
  show fJ ((ae.set i x).set j (some s)) js ss=(fJ (ae.set j (some s)) js ss).set i x
  rw [xF h.1,nE h.2]
theorem lE:∀ {is:List Nat}{ss:List bN}{ae:En}{i:Nat}{sl:bN},is.length=ss.length->fJ ae (is++[i]) (ss++[sl])=(fJ ae is ss).set i (some sl)
 | [],[],ae,i,sl,h=>rfl
 | [],_::_,_,_,_,h=>nomatch h
 | _::_,[],_,_,_,h=>nomatch h
 | j::js,s::ss,ae,i,sl,h=>lE (ae:=ae.set j (some s)) (Nat.succ.inj h)
theorem nB:∀ {is:List Nat}{ss:List bN}{ae:En},is.Nodup->is.length=ss.length->fJ ae is.reverse ss.reverse=fJ ae is ss
 | [],[],ae,_,h=>rfl
 | [],_::_,_,_,h=>nomatch h
 | _::_,[],_,_,h=>nomatch h
 | i::is,s::ss,ae,hn,h=>by
  have hn:=aT.mp hn
  have h:=Nat.succ.inj h
  rw [List.reverse_cons,List.reverse_cons,lE (by rw [List.length_reverse,List.length_reverse]; exact h),nB hn.2 h]
  exact (nE hn.1).symm
inductive mQ (fm:Fm):List Str->List Nat->Prop
 | nil:mQ fm [] []
 | cons {x:Str}{i:Nat}{xs:List Str}{is:List Nat}:fm.vis.lookup x=some i->(fm.sc.names.lookup x=some .local\/fm.sc.names.lookup x=some .cell)->mQ fm xs is->mQ fm (x::xs) (i::is)
theorem mQ.append {xs ys:List Str}{is js:List Nat}(a:mQ fm xs is) (b:mQ fm ys js):mQ fm (xs++ys) (is++js):=by
 induction a with
 | nil=>exact b
 | cons h1 h2 _ ih=>exact .cons h1 h2 ih
theorem mQ.reverse {xs:List Str}{is:List Nat}(a:mQ fm xs is):mQ fm xs.reverse is.reverse:=by
 induction a with
 | nil=>exact .nil
 | cons h1 h2 _ ih=>simp only [List.reverse_cons]; exact ih.append (.cons h1 h2 .nil)
theorem mQ.len {xs:List Str}{is:List Nat}(a:mQ fm xs is):xs.length=is.length:=by
 induction a with
 | nil=>rfl
 | cons h1 h2 _ ih=>simp [ih]
theorem mQ.nodup {γ:Gh}{h:Heap}{ae:En}(E:bG P γ h fm env ae) {xs:List Str}{is:List Nat}(a:mQ fm xs is) (hn:xs.Nodup):is.Nodup:=by
 induction a with
 | nil=>exact .nil
 | @cons x i xs is h1 h2 a ih=>
  rw [aT] at hn ⊢
  refine ⟨λhi=>hn.1 ?_,ih hn.2⟩
  have:∀ {xs:List Str}{is:List Nat},mQ fm xs is->i∈is->x∈xs:=by
   intro xs is a
   induction a with
   | nil=>intro h; cases h
   | @cons y j _ _ g1 _ _ ih=>
    intro h
    clear h2 hn is xs
    rcases az.mp h with rfl | h
    ·rw [E.inj x y i h1 g1]; exact aa
    ·exact ai _ (ih h)
  exact this a hi
theorem mQ.stores {xs:List Str}{is:List Nat}(t:mQ fm xs is):∀ {γ:Gh}{s:Shared}{ae:En}{ss:List bN}{vs:List Value}{Q:Unit->Shared->Prop}{Ex:Value->Shared->Prop}{f:Str->Value->Sem Unit},
  (∀ x v (s:Shared) (Q:Unit->Shared->Prop),wpAny (model P.prog P.w) A (storeName env x v) Q Ex s->wpAny (model P.prog P.w) A (f x v) Q Ex s) ->
  bG P γ s.heap fm env ae->bP P γ s.heap g->fe P γ s.heap is ss vs ->
  (∀ h' tk,dw (cc env) γ s.heap γ h'->bP P γ h' g->bG P γ h' fm env (fJ ae is ss)->Q () (Sh s h' tk)) ->
  wpAny (model P.prog P.w) A (assignInOrder (xs.map f) vs) Q Ex s:=by
 induction t with
 | nil=>
  intro γ s ae ss vs Q Ex f hf E I r q
  cases r
  exact wpAny_assignInOrder_none (q s.heap s.toks .refl I E)
 | @cons x i xs is hx hk t ih=>
  intro γ s ae ss vs Q Ex f hf E I r q
  clear t
  cases r with
  | cons r1 r2=>
   refine wpAny_assignInOrder_more (hf _ _ _ _ (dO (Pl:=cc env) E I hx (qc.place E x (hk.imp id λh=>⟨rfl,h⟩)) r1 λh1 t1 f1 I1 E1=>?_))
   exact ih hf E1 I1 (r2.evP f1) λh2 t2 f2 I2 E2=>q h2 t2 (f1.trans f2) I2 E2
def kE (P:Pm) (fm:Fm) (pe:Expr) (r:R) (i:Nat):Prop:=
 ∀ cf n,cx P cf n->∀ A γ s env ae g sl g',cU A n->bP P γ s.heap g->bG P γ s.heap fm env ae->r cf ae g=some (sl,g')->∀ (Q:Value->Shared->Prop) (Ex:Value->Shared->Prop),
  (∀ x γ' h' tk,Ev γ s.heap γ' h'->bP P γ' h' g'->bG P γ' h' fm env ae->bT P γ' h' (.own i) sl x->Q x (Sh s h' tk))->wpAny (model P.prog P.w) A (eval pe env) Q Ex s
def ig (P:Pm) (fm:Fm) (pes:List Expr) (rs:List R) (is:List Nat):Prop:=
 ∀ cf n,cx P cf n->∀ A γ s env ae g ss g',cU A n->bP P γ s.heap g->bG P γ s.heap fm env ae->Bk cf rs ae g=some (ss,g')->∀ (pos:Pos) (Q:List Value->Shared->Prop) (Ex:Value->Shared->Prop),
  (∀ xs γ' h' tk,Ev γ s.heap γ' h'->bP P γ' h' g'->bG P γ' h' fm env ae->fe P γ' h' is ss xs->Q xs (Sh s h' tk))->wpAny (model P.prog P.w) A (spliced (backTo pos (starEach pes env))) Q Ex s
theorem kE.val {pe:Expr}{me:E}{i:Nat}(S:bE P fm pe me):kE P fm pe (.val me) i:=by
 intro cf n C A γ s env ae g sl g' R I Er e
 refine dC e λv g1 e1 e'=>?_
 clear e
 cases e'
 intro Q Ex q
 exact S.run C R I Er e1 λx γ1 h1 t1 f1 I1 E1 r1=>q x γ1 h1 t1 f1 I1 E1 r1
theorem zF (I:bP P γ h g) {vs:List V}{xs:List Value}(i:Nat) (r:bI P γ h vs xs):
  Ev γ h (γ.put h.objs.size (.own i)) (h.push (gI xs))/\bP P (γ.put h.objs.size (.own i)) (h.push (gI xs)) g/\bT P (γ.put h.objs.size (.own i)) (h.push (gI xs)) (.own i) (.ol vs) (.ref h.objs.size):=by
 refine ⟨Ev.push I _ _,I.push _ rfl _ (λn t e=>nomatch e),?_⟩
 exact ⟨_,xs.toArray,rfl,cz,⟨0,ah _ rfl⟩,r.ev (Ev.push I _ _)⟩
theorem yQ (I:bP P γ h g) (i:Nat):
  Ev γ h (γ.put h.objs.size (.own i)) (h.push emptyDict)/\bP P (γ.put h.objs.size (.own i)) (h.push emptyDict) g/\bT P (γ.put h.objs.size (.own i)) (h.push emptyDict) (.own i) (.od [] []) (.ref h.objs.size):=by
 refine ⟨Ev.push I _ _,I.push _ rfl _ (λn t e=>nomatch e),?_⟩
 exact ⟨_,[],[],rfl,cz,⟨_,#[],0,ah _ rfl,⟨rfl,rfl,rfl⟩,rfl,.nil,List.nodup_nil,rfl⟩,.nil,.nil⟩
theorem t9 {ae:En}:∀ {mes:List E}{vs:List V}{g g':G},jL cf mes ae g=some (vs,g')->vs.length=mes.length:=by
 intro mes
 induction mes with
 | nil=>intro vs g g' e; cases e; rfl
 | cons m ms ih=>
  intro vs g g' e
  obtain ⟨v,g1,us,e1,e2,rfl⟩:=kY e
  exact congrArg (·+1) (ih e2)
theorem kE.ownL {pes:List Expr}{mes:List E}{pos:Pos}{i:Nat}(S:dM P fm pes mes) (hl:mes.length<=lim):kE P fm (.List pes pos) (.ownL mes) i:=by
 intro cf n C A γ s env ae g sl g' R I Er e
 refine dC e λvs g1 e1 e'=>?_
 clear e
 cases e'
 intro Q Ex q
 refine wpAny_List (S cf n C A γ s env ae g vs _ R I Er e1 pos _ Ex λxs γ1 h1 t1 f1 I1 E1 r1=>⟨by rw [r1.length,t9 e1]; exact sz _ hl,?_⟩)
 obtain ⟨f,J,r⟩:=zF I1 i r1
 exact q _ _ _ t1 (f1.trans f) J (E1.ev f) r
theorem kE.ownD {pos:Pos}{i:Nat}:kE P fm (.Dict [] [] pos) .ownD i:=by
 intro cf n C A γ s env ae g sl g' R I Er e Q Ex q
 clear C R n
 cases e
 obtain ⟨f,J,r⟩:=yQ I i
 rw [eval_Dict_empty]
 exact ad (bp (aV (q _ _ _ s.toks f J (Er.ev f) r)))
theorem ig.nil:ig P fm [] [] []:=by
 intro cf n C A γ s env ae g ss g' R I Er e pos Q Ex q
 clear C R n
 cases e
 exact args_nil (q [] γ s.heap s.toks .refl I Er .nil)
theorem ig.cons {pe:Expr}{pes:List Expr}{r:R}{rs:List R}{i:Nat}{is:List Nat}(S:kE P fm pe r i) (T:ig P fm pes rs is) (he:∀ env,starEach (pe::pes) env=(false,eval pe env)::starEach pes env):ig P fm (pe::pes) (r::rs) (i::is):=by
 intro cf n C A γ s env ae g ss g' R I Er
 refine cC λv g1 e1=>?_
 intro e
 refine dC e λvs g2 e2 e3=>?_
 clear e
 cases e3
 intro pos Q Ex q
 exact args_cons (S cf n C A γ s env ae g v g1 R I Er e1 _ Ex λx γ1 h1 t1 f1 I1 E1 r1=>T cf n C A γ1 _ env ae g1 _ _ R I1 E1 e2 pos _ Ex λxs γ2 h2 t2 f2 I2 E2 r2=>q _ γ2 h2 t2 (f1.trans f2) I2 E2 (.cons (r1.ev f2) r2)) (he env)
theorem h9 {ids:List Str}{ts:List Expr}{c:Nat}{tp:Pos}{is:List Nat}{ss:List bN}{T:Addr}{its:Array Value}{ae:En}{o:Option (List Str)}{Q:Flow->Shared->Prop}(hh:A.handled=none) (t:mQ fm ids is) (hnd:ids.Nodup)
  (hts:∃ ps:List Pos,ts=(ids.zip ps).map (λq=>.Name q.1 q.2)/\ps.length=ids.length) (ho:o=none\/o=some ids) (E:bG P γ s.heap fm env ae) (I:bP P γ s.heap g) (hT:s.heap.IsTuple T its) (r:fe P γ s.heap is ss its.toList)
  (q:∀ h' tk,dw (cc env) γ s.heap γ h'->bP P γ h' g->bG P γ h' fm env (fJ ae is ss)->Q .next (Sh s h' tk)):
  wpAny (model P.prog P.w) A (assignStores env (.ref T) o ((assignEach [.Tuple ts c tp] env).map (·.2))) Q Ex s:=by
 have hlen:=r.len
 have hsz:its.size=ids.length:=by rw [← aM,hlen.1,t.len]
 obtain ⟨ps,rfl,hps⟩:=hts
 have each:∀ {ids:List Str}{ps:List Pos},ps.length=ids.length->(assignEach ((ids.zip ps).map (λq=>Expr.Name q.1 q.2)) env).length=ids.length/\(assignEach ((ids.zip ps).map (λq=>Expr.Name q.1 q.2)) env).findIdx? (·.1)=none:=by
  intro ids
  induction ids with
  | nil=>intro ps _; exact ⟨rfl,rfl⟩
  | cons x xs ih=>
   intro ps hp
   cases ps with
   | nil=>simp at hp
   | cons p ps=>
   have h1:=ih (ps:=ps) (by simpa using hp)
   have e:assignEach (((x::xs).zip (p::ps)).map (λq=>Expr.Name q.1 q.2)) env=(false,assign (.Name x p) env)::assignEach ((xs.zip ps).map (λq=>Expr.Name q.1 q.2)) env:=rfl
   rw [e]
   exact ⟨by simp [h1.1],by rw [List.findIdx?_cons]; simp [h1.2]⟩
 rcases ho with rfl | rfl
 ·show wpAny _ _ (assignAll (.ref T) [assign (.Tuple _ c tp) env] >>= λzz=>pure Flow.next) _ _ _
  refine ad ?_
  show wpAny _ _ (assign (.Tuple _ c tp) env (.ref T)) _ _ _
  refine wpAny_assign_Tuple hh hT (by rw [(each hps).1,hsz]) (each hps).2 λh1 k=>?_
  have kk:∀ b o,s.heap.get? b=some o->h1.get? b=some o:=λb o e=>k b o (cT e) e
  have tg:∀ {ids:List Str}{is:List Nat}{ps:List Pos},mQ fm ids is->ps.length=ids.length->∀ {γ:Gh}{s:Shared}{ae:En}{ss:List bN}{vs:List Value}{Q:Unit->Shared->Prop},
    bG P γ s.heap fm env ae->bP P γ s.heap g->fe P γ s.heap is ss vs ->
    (∀ h' tk,dw (cc env) γ s.heap γ h'->bP P γ h' g->bG P γ h' fm env (fJ ae is ss)->Q () (Sh s h' tk)) ->
    wpAny (model P.prog P.w) A (assignInOrder ((assignEach ((ids.zip ps).map (λq=>Expr.Name q.1 q.2)) env).map (·.2)) vs) Q Ex s:=by
   intro ids is ps t
   induction t generalizing ps with
   | nil=>
    intro _ γ s ae ss vs Q E I r q
    clear each
    cases r
    exact wpAny_assignInOrder_none (q s.heap s.toks .refl I E)
   | @cons x i xs is hx hk t ih=>
    intro hp γ s ae ss vs Q E I r q
    clear each
    cases ps with
    | nil=>simp at hp
    | cons p ps=>
    cases r with
    | cons r1 r2=>
     refine wpAny_assignInOrder_more (t:=assign (.Name x p) env) (wpAny_assign_Name (dO (Pl:=cc env) E I hx (qc.place E x (hk.imp id λh=>⟨rfl,h⟩)) r1 λh1 t1 f1 I1 E1=>?_))
     exact ih (by simpa using hp) E1 I1 (r2.evP f1) λh2 t2 f2 I2 E2=>q h2 t2 (f1.trans f2) I2 E2
  exact tg t hps (s:=(ey s h1)) (E.ev (Ev.grow kk)) (I.grow kk) (r.evP (Pl:=cc env) (Ev.grow kk).p) λh2 t2 f2 I2 E2=>af (q h2 t2 ((Ev.grow kk).p.trans f2) I2 E2)
 ·show wpAny _ _ (do
    rule "assign.swapped-stores"
    let items ← unpackItems (.ref T) ids.length none
    assignInOrder (ids.reverse.map λn=>bindName env n) items.reverse
    pure Flow.next) _ _ _
  refine ad (wpAny_rule (ad ?_))
  rw [← hsz]
  refine wpAny_unpackItems_tuple hh hT λh1 k=>?_
  have kk:∀ b o,s.heap.get? b=some o->h1.get? b=some o:=λb o e=>k b o (cT e) e
  refine ad (t.reverse.stores (s:=(ey s h1)) (f:=λx v=>bindName env x v) (λx v s Q h=>wpAny_bindName h) (E.ev (Ev.grow kk)) (I.grow kk) ((r.evP (Pl:=cc env) (Ev.grow kk).p).reverse) λh2 t2 f2 I2 E2=>af ?_)
  rw [nB (t.nodup E hnd) (by rw [hlen.2])] at E2
  exact q h2 t2 ((Ev.grow kk).p.trans f2) I2 E2
theorem b0.asgs {ts vs:List Expr}{ids:List Str}{c k:Nat}{tp vp pos:Pos}{is:List Nat}{rs:List R}(t:mQ fm ids is) (hnd:ids.Nodup) (hts:∃ ps:List Pos,ts=(ids.zip ps).map (λq=>.Name q.1 q.2)/\ps.length=ids.length) (S:ig P fm vs rs is)
  (hl:rs.length<=lim) (hsw:∀ env,swapsWithSole [.Tuple ts c tp] (.Tuple vs k vp) pos.line env=pure false)
  (hs:∀ env,swappedStores [.Tuple ts c tp] (.Tuple vs k vp) env=pure none\/swappedStores [.Tuple ts c tp] (.Tuple vs k vp) env=pure (some ids)):b0 P fm W (.Assign [.Tuple ts c tp] (.Tuple vs k vp) pos) (.asgs is rs):=by
 intro cf n C A γ s env ae g fl ae' g' R I Er
 refine c9 λhlen=>cC λss g1 e1=>cE.of' ?_
 intro Q Ex q
 rw [exec_Assign_arm]
 refine ad (bp ?_)
 rw [hsw env]
 refine ad (af ?_)
 rw [if_neg (by decide)]
 refine ad (wpAny_Tuple (S cf n C A γ s env ae g ss _ R I Er e1 vp _ Ex λxs γ1 h1 t1 f1 I1 E1 r1=>⟨by rw [r1.len.1,hlen]; exact sz _ hl,?_⟩))
 have gr:∀ b o,h1.get? b=some o->(h1.push (kM xs)).get? b=some o:=λb o e=>ag _ e
 have dA:∀ o:Option (List Str),(o=none\/o=some ids)->wpAny (model P.prog P.w) A (assignStores env (.ref h1.objs.size) o ((assignEach [.Tuple ts c tp] env).map (·.2))) Q Ex (Sh s (h1.push (kM xs)) t1):=λo ho=>
  h9 (s:=(Sh s (h1.push (kM xs)) t1)) R.hd t hnd hts ho (E1.ev (Ev.grow gr)) (I1.grow gr) (T:=h1.objs.size) (its:=xs.toArray) ⟨_,ah _ rfl,rfl,0,rfl⟩ (r1.evP (Pl:=cc env) (Ev.grow gr).p) λh2 t2 f2 I2 E2=>
   q _ _ h2 t2 (f1.es.trans ((Ev.grow gr).es.trans f2.es)) I2 (.nxt E2)
 rcases hs env with h | h <;> rw [h] <;> exact ad (af (dA _ (by simp)))
theorem b0.unp {ts:List Expr}{pe:Expr}{me:E}{ids:List Str}{c:Nat}{tp pos:Pos}{is:List Nat}(t:mQ fm ids is) (hnd:ids.Nodup) (hts:∃ ps:List Pos,ts=(ids.zip ps).map (λq=>.Name q.1 q.2)/\ps.length=ids.length) (S:bE P fm pe me)
  (hsw:∀ env,swapsWithSole [.Tuple ts c tp] pe pos.line env=pure false)
  (hs:∀ env,swappedStores [.Tuple ts c tp] pe env=pure none):b0 P fm W (.Assign [.Tuple ts c tp] pe pos) (.unp is me):=by
 intro cf n C A γ s env ae g fl ae' g' R I Er
 refine cC λv g1 e1=>gZ λvs ev=>c9 λhlen=>cE.of' ?_
 intro Q Ex q
 rw [exec_Assign_arm]
 refine ad (bp ?_)
 rw [hsw env]
 refine ad (af ?_)
 rw [if_neg (by decide)]
 refine ad (S.run C R I Er e1 λx γ1 h1 t1 f1 I1 E1 r1=>?_)
 rw [hs env]
 refine ad (af ?_)
 clear C Er I S ae' e1 fl g g' hs hsw
 obtain ⟨a,its,rfl,ro,ti,li⟩:=r1.tup ev
 refine h9 (s:=(Sh s h1 t1)) R.hd t hnd hts (.inl rfl) E1 I1 ti (fe.vals li hlen) λh2 t2 f2 I2 E2=>?_
 rw [iN] at E2
 exact q _ _ h2 t2 (f1.es.trans f2.es) I2 (.nxt E2)
theorem b0.ownL {x:Str}{p pos lp:Pos}{pes:List Expr}{mes:List E}{i:Nat}(hx:fm.vis.lookup x=some i) (hk:fm.sc.names.lookup x=some .local\/fm.sc.names.lookup x=some .cell) (S:dM P fm pes mes) (hl:mes.length<=lim):
  b0 P fm W (.Assign [.Name x p] (.List pes lp) pos) (.ownL i mes):=by
 intro cf n C A γ s env ae g fl ae' g' R I Er
 refine cC λvs g1 e1=>cE.of' ?_
 intro Q Ex q
 exact wpAny_Assign_Name (kE.ownL S hl cf n C A γ s env ae g (.ol vs) _ R I Er (bL e1 rfl) _ Ex λy γ1 h1 t1 f1 I1 E1 r1=>dO (Pl:=cc env) E1 I1 hx (qc.place E1 x (hk.imp id λh=>⟨rfl,h⟩)) r1 λh2 t2 f2 I2 E2=>
  q _ γ1 h2 t2 (f1.es.trans f2.es) I2 (.nxt E2))
end
section
variable {P:Pm}{K:Frag}{γ γ':Gh}{h h':Heap}{fm:Fm}{env:Env}{ae:En}{g g':G}{A:Around}{s:Shared}{Ex:Value->Shared->Prop}{cf:Cf}{n:Nat}{W:Nat}{Pl:Addr->Prop}
theorem il.own {a:Addr}{i:Nat}(ks:Heap.SameBut a h h') (hr:γ.role a=.own i):il Pl γ h γ h':=
 ⟨λb o rb e=>⟨rb,ks.extBut b o (λq=>by rw [q,hr] at rb; cases rb) e⟩,λb o rb zz e=>⟨rb,ks.extBut b o (λq=>by rw [q,hr] at rb; cases rb) e⟩,ak _,λzz zz=>rfl⟩
theorem bP.own {a:Addr}{i:Nat}(I:bP P γ h g) (ks:Heap.SameBut a h h') (hr:γ.role a=.own i) (hs:(h'.get? a).isSome=true):bP P γ h' g:=by
 have ne:∀ {b:Addr}{r:cQ},γ.role b=r->r≠.own i->b≠a:=λrb n q=>by rw [q,hr] at rb; exact n rb.symm
 refine I.keep (λb o rb e=>⟨rb,ks.extBut b o (ne rb (λq=>nomatch q)) e⟩) rfl (λzz zz=>rfl) (λb hb=>?_) (λb o n t rb e=>⟨rb,ks.extBut b o (ne rb (λq=>nomatch q)) e⟩)
  (λb o zz rb e=>⟨rb,ks.extBut b o (ne rb (λq=>nomatch q)) e⟩) (λo rb e=>⟨rb,ks.extBut _ o (ne rb (λq=>nomatch q)) e⟩)
 by_cases hba:b=a
 ·rw [hba]; exact hs
 ·obtain ⟨o,ho⟩:=aq.mp (I.wf b hb)
  rw [ks.extBut b o hba ho]; rfl
theorem bG.slot {x:Str}{i:Nat}{sl sl':bN}(E:bG P γ h fm env ae) (hx:fm.vis.lookup x=some i) (hi:ae[i]?=some (some sl))
  (ko:∀ a o,γ.role a=.other->h.get? a=some o->γ'.role a=.other/\h'.get? a=some o)
  (hf:fo γ h γ' h') (hg:γ.gn<=γ'.gn) (hga:∀ n,n < γ.gn->γ'.ga n=γ.ga n) (kw:∀ a o j,j≠i->γ.role a=.own j->h.get? a=some o->γ'.role a=.own j/\h'.get? a=some o)
  (r:∀ v,bT P γ h (.own i) sl v->dy env h x v->bT P γ' h' (.own i) sl' v):bG P γ' h' fm env (ae.set i (some sl')):=by
 have hl:∀ {a:Addr}{m:Str->Option Value},γ.role a=.other->h.Ns a m->γ'.role a=.other/\h'.Ns a m:=λr x=>by
  obtain ⟨o,es,ep,ho,q⟩:=x
  exact ⟨(ko _ o r ho).1,o,es,ep,(ko _ o r ho).2,q⟩
 have hc:∀ {a:Addr}{v:Option Value},γ.role a=.other->h.IsCell a v->γ'.role a=.other/\h'.IsCell a v:=λr x=>by
  obtain ⟨o,ho,q⟩:=x
  exact ⟨(ko _ o r ho).1,o,(ko _ o r ho).2,q⟩
 have rd:∀ {y:Str}{v:Value},dy env h y v->dy env h' y v:=λr=>by
  rcases r with ⟨k,m,b,d⟩ | ⟨k,n,c,b,d⟩
  ·exact .inl ⟨k,m,(hl E.loc.1 b).2,d⟩
  ·exact .inr ⟨k,n,c,b,(hc (E.cel _ c b).1 d).2⟩
 refine ⟨E.sc,E.cd,E.qu,E.kind,E.glo,E.bui,E.inj,E.nd,?_,λy c e=>?_,E.apart,E.has,λy j sl1 hy hj=>?_⟩
 ·obtain ⟨r,n,m,q⟩:=E.loc
  exact ⟨(hl r q).1,n,m,(hl r q).2⟩
 ·obtain ⟨r,n,v,q⟩:=E.cel y c e
  exact ⟨(hc r q).1,n,v,(hc r q).2⟩
 ·by_cases hji:j=i
  ·clear hc hl ko
   subst hji
   cases gS hj
   have:y=x:=E.inj y x j hy hx
   subst this
   obtain ⟨v,rv,rs⟩:=E.get y j sl hx hi
   exact ⟨v,rd rv,r v rs rv⟩
  ·rw [dQ (λq=>hji q.symm)] at hj
   obtain ⟨v,rv,rs⟩:=E.get y j sl1 hy hj
   exact ⟨v,rd rv,rs.glob hf hg hga λa o ra e=>kw a o j hji ra e⟩
theorem bG.own {x:Str}{i:Nat}{sl sl':bN}{a:Addr}(E:bG P γ h fm env ae) (hx:fm.vis.lookup x=some i) (hi:ae[i]?=some (some sl)) (ks:Heap.SameBut a h h') (hr:γ.role a=.own i) (hv:∀ v,dy env h x v->v=.ref a) (r:bT P γ h' (.own i) sl' (.ref a)):
  bG P γ h' fm env (ae.set i (some sl')):=by
 have ne:∀ {b:Addr}{r:cQ},γ.role b=r->r≠.own i->b≠a:=λrb n q=>by rw [q,hr] at rb; exact n rb.symm
 refine E.slot hx hi (λb o rb e=>⟨rb,ks.extBut b o (ne rb (λq=>nomatch q)) e⟩) (λb o rb e=>⟨rb,ks.extBut b o (ne rb (λq=>nomatch q)) e⟩) (ak _) (λzz zz=>rfl)
  (λb o j hj rb e=>⟨rb,ks.extBut b o (ne rb (λq=>hj (by cases q; rfl))) e⟩) λv zz rv=>?_
 rw [hv v rv]; exact r
theorem dy.inj {x:Str}{u v:Value}(a:dy env h x u) (b:dy env h x v):u=v:=by
 rcases a with ⟨k,m,⟨o1,es1,ep1,g1,g2,zz,g3⟩,d⟩ | ⟨k,n,c,b1,⟨o1,ho1,d1⟩⟩
 ·rcases b with ⟨k',m',⟨o2,es2,ep2,k1,k2,zz,k3⟩,d'⟩ | ⟨k',zz⟩
  ·cases g1.symm.trans k1
   clear g1 k1
   cases g2.symm.trans k2
   have:m x=m' x:=by rw [← g3 x,k3 x]
   rw [d,d'] at this
   exact av this
  ·rcases k' with q | q <;> rw [q] at k <;> cases k
 ·rcases b with ⟨k',zz⟩ | ⟨k',n',c',b1',⟨o2,ho2,d2⟩⟩
  ·rcases k with q | q <;> rw [q] at k' <;> cases k'
  ·rw [b1] at b1'
   clear b1 k k' n n'
   cases b1'
   cases ho1.symm.trans ho2
   rw [d1] at d2
   clear d1 ho1 ho2 o1
   cases d2; rfl
theorem bI.evO {a:Addr}{i:Nat}(ks:Heap.SameBut a h h') (hr:γ.role a=.own i) {vs:List V}{xs:List Value}(r:bI P γ h vs xs):bI P γ h' vs xs:=r.es (il.own (Pl:=λzz=>False) ks hr)
theorem bM.evO {a:Addr}{i:Nat}(ks:Heap.SameBut a h h') (hr:γ.role a=.own i) {v:V}{x:Value}(r:bM P γ h v x):bM P γ h' v x:=r.es (il.own (Pl:=λzz=>False) ks hr)
theorem iu {x:Str}{i:Nat}{xs:List V}(E:bG P γ h fm env ae) (hx:fm.vis.lookup x=some i) (hi:(c7 ae i).bind hO=some xs):
  ∃ a its,dy env h x (.ref a)/\γ.role a=.own i/\h.PlainList a its/\bI P γ h xs its.toList:=by
 obtain ⟨v,rv,a,its,rfl,ro,ti,li⟩:=E.get x i _ hx (fY hi)
 exact ⟨a,its,rv,ro,ti,li⟩
theorem tJ {x:Str}{i:Nat}{d:List V × List V}(E:bG P γ h fm env ae) (hx:fm.vis.lookup x=some i) (hi:(c7 ae i).bind i5=some d):
  ∃ a kx vx,dy env h x (.ref a)/\γ.role a=.own i/\bJ P h a d.1 kx vx/\bI P γ h d.1 kx/\bI P γ h d.2 vx:=by
 obtain ⟨v,rv,a,kx,vx,rfl,ro,X⟩:=E.get x i _ hx (rK hi)
 exact ⟨a,kx,vx,rv,ro,X⟩
theorem bJ.there {P:Pm}{h:Heap}{a:Addr}{ks:List V}{kx vx:List Value}(X:bJ P h a ks kx vx):(h.get? a).isSome=true:=by
 obtain ⟨o,zz,zz,e,zz⟩:=X
 rw [e]; rfl
theorem bJ.own {P:Pm}{γ γ':Gh}{h h':Heap}{a:Addr}{i:Nat}{ks:List V}{kx vx:List Value}(X:bJ P h a ks kx vx) (f:Ev γ h γ' h') (r:γ.role a=.own i):γ'.role a=.own i:=by
 obtain ⟨o,zz,zz,e,zz⟩:=X
 exact (f.own a o i r e).1
theorem cW {a:Addr}{its:Array Value}(t:s.heap.PlainList a its):s.TypeIs (.ref a) "list"/\∀ b,Value.ref a=.ref b->∃ ob,s.heap.get? b=some ob/\ob.dict=none:=by
 obtain ⟨k,ho⟩:=t
 exact ⟨⟨_,ho,rfl⟩,λb hb=>by cases hb; exact ⟨_,ho,rfl⟩⟩
theorem dF (Er:bG P γ h fm env ae):interactive env=false:=by
 unfold interactive
 rw [Er.sc,Er.kind]; rfl
theorem b0.app {x:Str}{p apos pos spos:Pos}{pe:Expr}{me:E}{i:Nat}(hx:fm.vis.lookup x=some i) (S:bE P fm pe me) {pl:Env->Sem Bool}(he:cq (.Name x p) "append" apos pos [pe] pl)
  (h1:∀ env,starEach [pe] env=(false,eval pe env)::starEach [] env):
  b0 P fm W (.Expr (.Call (.Attribute (.Name x p) "append" apos) [pe] [] pos) spos) (.app i me):=by
 intro cf n C A γ s env ae g fl ae' g' R I Er
 refine cC λv g1 e1=>gZ λxs hi=>c9 λhl=>cE.of' ?_
 intro Q Ex q
 obtain ⟨a,its,rv,ro,ti,li⟩:=iu Er hx hi
 refine wpAny_Expr_any (k7 PySem.F.plainAttrs_list PySem.F.slot_list_append PySem.F.type_list_append he h1 (λzz zz=>rfl) (wpAny_Name (cS (by rw [Er.sc]; exact Er.kind) rv ⟨(cW ti).1,(cW ti).2,?_⟩) (Er.nd x i hx).2)) (dF Er) rfl
 refine dM.cons S .nil h1 cf n C A γ s env ae g [v] g1 R I Er (bL e1 rfl) pos _ Ex λys γ1 h2 t2 f2 I2 E2 r2=>?_
 clear C I R S ae' e1 fl g g' h1 he n
 obtain ⟨y,r,rfl,ry,r2⟩:=r2.inv
 clear cf
 cases r2.inv_nil
 have ro2:γ1.role a=.own i:=let ⟨k,ho⟩:=ti; (f2.own a _ i ro ho).1
 have ti2:h2.PlainList a its:=let ⟨k,ho⟩:=ti; ⟨k,(f2.own a _ i ro ho).2⟩
 have hsz:its.size=xs.length:=(aM (xs:=its)).symm.trans li.length
 refine wpAny_list_append_plain ti2 (λh3 ti3 ks=>?_) (by rw [hsz]; exact Cw hl)
 have rv2:dy env h2 x (.ref a):=rv.ev f2 Er.loc.1 (λx c e=>(Er.cel x c e).1)
 refine q _ γ1 h3 t2 (f2.es.trans (il.own ks ro2)) (I2.own ks ro2 (let ⟨k,ho⟩:=ti3; by rw [ho]; rfl)) (.nxt (E2.own hx (fY hi) ks ro2 (λv rw=>rw.inj rv2) ⟨a,_,rfl,ro2,ti3,?_⟩))
 rw [Array.toList_push]
 exact ((li.ev f2).evO ks ro2).append (.cons (ry.evO ks ro2) .nil)
theorem b0.ext {x:Str}{p apos pos spos:Pos}{pe:Expr}{me:E}{i:Nat}(hx:fm.vis.lookup x=some i) (S:bE P fm pe me) {pl:Env->Sem Bool}(he:cq (.Name x p) "extend" apos pos [pe] pl)
  (h1:∀ env,starEach [pe] env=(false,eval pe env)::starEach [] env):
  b0 P fm W (.Expr (.Call (.Attribute (.Name x p) "extend" apos) [pe] [] pos) spos) (.ext i me):=by
 intro cf n C A γ s env ae g fl ae' g' R I Er
 refine cC λv g1 e1=>gZ λvs ev=>gZ λxs hi=>c9 λhl=>cE.of' ?_
 intro Q Ex q
 obtain ⟨a,its,rv,ro,ti,li⟩:=iu Er hx hi
 refine wpAny_Expr_any (k7 PySem.F.plainAttrs_list PySem.F.slot_list_extend PySem.F.type_list_extend he h1 (λzz zz=>rfl) (wpAny_Name (cS (by rw [Er.sc]; exact Er.kind) rv ⟨(cW ti).1,(cW ti).2,?_⟩) (Er.nd x i hx).2)) (dF Er) rfl
 refine dM.cons S .nil h1 cf n C A γ s env ae g [v] g1 R I Er (bL e1 rfl) pos _ Ex λys γ1 h2 t2 f2 I2 E2 r2=>?_
 clear C I R S ae' e1 fl g g' h1 he n
 obtain ⟨y,r,rfl,ry,r2⟩:=r2.inv
 clear cf
 cases r2.inv_nil
 clear r2
 obtain ⟨b,its2,rfl,rob,⟨kb,tib⟩,lib⟩:=ry.lst ev
 have ro2:γ1.role a=.own i:=let ⟨k,ho⟩:=ti; (f2.own a _ i ro ho).1
 obtain ⟨ka,tia⟩:h2.PlainList a its:=let ⟨k,ho⟩:=ti; ⟨k,(f2.own a _ i ro ho).2⟩
 have hsz:its.size=xs.length:=(aM (xs:=its)).symm.trans li.length
 have hsz2:its2.size=vs.length:=(aM (xs:=its2)).symm.trans lib.length
 have hle:its.size+its2.size<=sizeLine:=by rw [hsz,hsz2]; exact sz _ hl
 refine call_meets PySem.F.slot_list_extend ⟨_,tia,rfl⟩ PySem.F.entry_list_extend (PySem.F.args_list_extend_2 _ _) (AutoSeq1.list_extend_list_list_0 a its ka b its2 kb (extend_door hle) (aj (bn _ _) hle) (Nat.le_succ_of_le hle)) ⟨tia,tib,?_⟩
 have ks:Heap.SameBut a h2 (h2.update a (Obj.mapSeq λx=>x++its2)):=bb ..
 have ho':(h2.update a (Obj.mapSeq λx=>x++its2)).get? a=some { cls:=.type "list",data:=.seq (its++its2) (if (its++its2).size == its.size then ka else ka+1) }:=by
  rw [aX _ tia (by rw [mapSeq_app]; rfl),mapSeq_app]
 have rv2:dy env h2 x (.ref a):=rv.ev f2 Er.loc.1 (λx c e=>(Er.cel x c e).1)
 refine q _ γ1 _ t2 (f2.es.trans (il.own ks ro2)) (I2.own ks ro2 (by rw [ho']; rfl)) (.nxt (E2.own hx (fY hi) ks ro2 (λv rw=>rw.inj rv2) ⟨a,_,rfl,ro2,⟨_,ho'⟩,?_⟩))
 rw [Array.toList_append]
 exact ((li.ev f2).evO ks ro2).append (lib.evO ks ro2)
theorem wW.freezeV {x:Str}{i:Nat}(hx:fm.vis.lookup x=some i):wW P fm W (.freezeV i):=by
 intro cf γ s env ae g fl ae' g' I Er e
 have go:∀ {a:Addr}{sl sl':bN},γ.role a=.own i->(s.heap.get? a).isSome=true->ae[i]?=some (some sl)->(∀ v,bT P γ s.heap (.own i) sl v->dy env s.heap x v->bT P (γ.put a .frozen) s.heap (.own i) sl' v) ->
   Es env γ s.heap (γ.put a .frozen) s.heap/\bP P (γ.put a .frozen) s.heap g/\bG P (γ.put a .frozen) s.heap fm env (ae.set i (some sl')):=by
  intro a sl sl' ro ha hi r
  have ne:∀ {b:Addr}{r:cQ},γ.role b=r->r≠.own i->(γ.put a .frozen).role b=r:=λrb n=>by rw [cD (by rw [rb,ro]; exact n)]; exact rb
  have fr:fo γ s.heap (γ.put a .frozen) s.heap:=λb o rb e=>⟨ne rb (λq=>nomatch q),e⟩
  refine ⟨⟨fr,λb o rb zz e=>⟨ne rb (λq=>nomatch q),e⟩,ak _,λzz zz=>rfl⟩,?_,?_⟩
  ·refine I.keep fr rfl (λzz zz=>rfl) (λb hb=>?_) (λb o n t rb e=>⟨ne rb (λq=>nomatch q),e⟩) (λb o zz rb e=>⟨ne rb (λq=>nomatch q),e⟩) (λo rb e=>⟨ne rb (λq=>nomatch q),e⟩)
   by_cases hba:b=a
   ·rw [hba]; exact ha
   ·rw [bK hba] at hb; exact I.wf b hb
  ·exact Er.slot hx hi (λb o rb e=>⟨ne rb (λq=>nomatch q),e⟩) fr (ak _) (λzz zz=>rfl) (λb o j hj rb e=>⟨ne rb (λq=>hj (by cases q; rfl)),e⟩) r
 refine cu e λv ev=>?_
 clear e
 intro e
 clear I cf
 cases e
 refine cu ev λsl hs=>?_
 clear ev
 intro ev
 have hi:=cX hs
 obtain ⟨v',rv,r⟩:=Er.get x i _ hx hi
 clear Er hs hx
 cases sl with
 | val=>exact no ev
 | ol xs=>
  cases ev
  obtain ⟨a,its,rfl,ro,⟨k,ti⟩,li⟩:=r
  have fr:fo γ s.heap (γ.put a .frozen) s.heap:=λb o rb e=>⟨by rw [cD (by rw [rb,ro]; exact λq=>nomatch q)]; exact rb,e⟩
  obtain ⟨f,J,E⟩:=go (a:=a) (sl':=.val (.lst xs)) ro (by rw [ti]; rfl) hi λv zz rw=>by
   cases rw.inj rv
   exact ⟨a,its,rfl,cz,⟨k,ti⟩,li.mono fr (ak _) λzz zz=>rfl⟩
  exact ⟨_,f,J,rfl,E⟩
 | od ks vs=>
  cases ev
  obtain ⟨a,kx,vx,rfl,ro,X,r1,r2⟩:=r
  have fr:fo γ s.heap (γ.put a .frozen) s.heap:=λb o rb e=>⟨by rw [cD (by rw [rb,ro]; exact λq=>nomatch q)]; exact rb,e⟩
  obtain ⟨f,J,E⟩:=go (a:=a) (sl':=.val (.dct ks vs)) ro (by obtain ⟨o,zz,zz,ho,zz⟩:=X; rw [ho]; rfl) hi λv zz rw=>by
   clear go hi ro
   cases rw.inj rv
   exact ⟨a,kx,vx,rfl,cz,X,r1.mono fr (ak _) λzz zz=>rfl,r2.mono fr (ak _) λzz zz=>rfl⟩
  exact ⟨_,f,J,rfl,E⟩
theorem b0.setD {x:Str}{p tp pos:Pos}{kx vx:Expr}{mk mv:E}{i:Nat}(hx:fm.vis.lookup x=some i) (S:bE P fm vx mv) (T:bE P fm kx mk) (hsw:∀ env,swapsWithSole [.Subscript (.Name x p) kx tp] vx pos.line env=pure false)
  (hst:∀ env,swappedStores [.Subscript (.Name x p) kx tp] vx env=pure none):
  b0 P fm W (.Assign [.Subscript (.Name x p) kx tp] vx pos) (.setD i mk mv):=by
 intro cf n C A γ s env ae g fl ae' g' R I Er
 refine cC λy g1 e1=>cC λz g2 e2=>gZ λd hi=>c9 λhk=>cE.of' ?_
 intro Q Ex q
 refine wpAny_Assign_stores (S.run C R I Er e1 λyv γ1 h1 t1 f1 I1 E1 r1=>?_) (hsw env) (hst env)
 show wpAny _ _ (assign (.Subscript (.Name x p) kx tp) env yv) _ _ _
 rw [assign_Subscript]
 obtain ⟨a,kx',vx',rv,ro,X,rk,rvs⟩:=tJ E1 hx hi
 refine ad (aH (wpAny_Name (cS (by rw [Er.sc]; exact Er.kind) rv (ad (aH (T.run C R I1 E1 e2 λkv γ2 h2 t2 f2 I2 E2 r2=>ad (bp (ad (aH ?_)))))) ) (Er.nd x i hx).2))
 have ro2:=X.own f2 ro
 refine td (s:=(Sh s h2 t2)) (R.line (by decide)) (X.steady (.inr ⟨i,ro⟩) f2 (rk.ev f2)) (rk.ev f2) (rvs.ev f2) hk.1 hk.2 r2 (r1.ev f2) λh3 t3 ch=>?_
 obtain ⟨kx3,vx3,X3,ks3,rk3,rv3⟩:=ch
 exact wpAny_release (q _ γ2 h3 t3 (f1.es.trans (f2.es.trans (il.own ks3 ro2))) (I2.own ks3 ro2 X3.there) (.nxt (E2.own hx (rK hi) ks3 ro2 (λv rw=>rw.inj (rv.ev f2 E1.loc.1 (λx c e=>(E1.cel x c e).1))) ⟨a,kx3,vx3,rfl,ro2,X3,rk3.evO ks3 ro2,rv3.evO ks3 ro2⟩)))
end
noncomputable def Gh.hide (γ:Gh):Gh:={ role:=λa=>match γ.role a with | .glob _ _=>.other | r=>r,ga:=γ.ga,gn:=0 }
noncomputable def Gh.back (γ γ1:Gh):Gh:={ role:=λa=>match γ.role a with | .glob n t=>.glob n t | _=>γ1.role a,ga:=γ.ga,gn:=γ.gn }
section
variable {P:Pm}{K:Frag}{γ γ':Gh}{h h':Heap}{fm:Fm}{env:Env}{ae:En}{g g':G}{A:Around}{s:Shared}{Ex:Value->Shared->Prop}{cf:Cf}{n:Nat}{W:Nat}{Pl:Addr->Prop}
theorem dT {a:Addr}{r:cQ}(hr:γ.role a=r) (hn:∀ n t,r≠.glob n t):γ.hide.role a=r:=by
 show (match γ.role a with | .glob _ _=>cQ.other | r=>r)=r
 rw [hr]
 clear hr
 cases r <;> first | rfl | exact absurd rfl (hn _ _)
theorem nx {a:Addr}{n t:Nat}(hr:γ.role a=.glob n t):γ.hide.role a=.other:=by
 show (match γ.role a with | .glob _ _=>cQ.other | r=>r)=_
 rw [hr]
theorem BZ {a:Addr}{r:cQ}(hr:γ.hide.role a=r) (ho:r≠.other):γ.role a=r:=by
 have hr':(match γ.role a with | .glob _ _=>cQ.other | r=>r)=r:=hr
 clear hr
 cases e:γ.role a <;> rw [e] at hr' <;> first | exact hr' | exact absurd hr'.symm ho
theorem fo.hide:fo γ h γ.hide h:=λa o r e=>⟨dT r (λzz zz q=>nomatch q),e⟩
theorem bP.hide (I:bP P γ h g):bP P γ.hide h [] where
 gn:=rfl
 wf:=λa ha=>I.wf a λq=>ha (dT q (λzz zz q=>nomatch q))
 objs:=λn ob e=>by simp at e
 base:=λa o e=>by
  obtain ⟨r,q⟩:=I.base a o e
  exact ⟨r.imp (λr=>dT r (λzz zz q=>nomatch q)) λr=>dT r (λzz zz q=>nomatch q),q⟩
 tab:=I.tab.keep fo.hide λo r e=>⟨dT r (λzz zz q=>nomatch q),e⟩
 sys:=⟨dT I.sys.1 (λzz zz q=>nomatch q),I.sys.2⟩
theorem vi {i:Nat}{sl:bN}(e:(iG ae)[i]?=some (some sl)):ae[i]?=some (some sl)/\iY 0 sl=true:=by
 unfold iG at e
 rw [List.getElem?_map] at e
 cases h:ae[i]? with
 | none=>rw [h] at e; cases e
 | some o=>
  rw [h] at e
  cases o with
  | none=>simp [kr] at e
  | some s=>
   simp only [Option.map_some,kr,Option.some.injEq] at e
   refine bU e λhl=>?_
   clear e
   intro e
   cases e; exact ⟨rfl,hl⟩
theorem bG.hide (E:bG P γ h fm env ae):bG P γ.hide h fm env (iG ae) where
 sc:=E.sc
 cd:=E.cd
 qu:=E.qu
 kind:=E.kind
 glo:=E.glo
 bui:=E.bui
 inj:=E.inj
 nd:=E.nd
 loc:=⟨dT E.loc.1 (λzz zz q=>nomatch q),E.loc.2⟩
 cel:=λx c e=>⟨dT (E.cel x c e).1 (λzz zz q=>nomatch q),(E.cel x c e).2⟩
 apart:=E.apart
 has:=E.has
 get:=λx i sl hx hi=>by
  obtain ⟨hi,hl⟩:=vi hi
  obtain ⟨v,r,rs⟩:=E.get x i sl hx hi
  exact ⟨v,r,rs.monoN (m:=0) fo.hide (aZ _) (λn hn=>absurd hn (aY _)) (λa o r e=>⟨dT (r:=.own i) r (λzz zz q=>nomatch q),e⟩) hl⟩
theorem va {γ1:Gh}{a:Addr}{n t:Nat}(hr:γ.role a=.glob n t):(γ.back γ1).role a=.glob n t:=by
 show (match γ.role a with | .glob n t=>cQ.glob n t | _=>γ1.role a)=_
 rw [hr]
theorem jh {γ1:Gh}{a:Addr}(hr:∀ n t,γ.role a≠.glob n t):(γ.back γ1).role a=γ1.role a:=by
 show (match γ.role a with | .glob n t=>cQ.glob n t | _=>γ1.role a)=_
 cases e:γ.role a <;> first | rfl | exact absurd e (hr _ _)
theorem wM {γ1:Gh}{h1:Heap}(I:bP P γ h g) (f:Ev γ.hide h γ1 h1) (I1:bP P γ1 h1 []):
  Ev γ h (γ.back γ1) h1/\(∀ a o n t,γ.role a=.glob n t->h.get? a=some o->(γ.back γ1).role a=.glob n t/\h1.get? a=some o)/\bP P (γ.back γ1) h1 g/\fo γ1 h1 (γ.back γ1) h1:=by
 have ng:∀ {a:Addr}{r:cQ},γ.role a=r->(∀ n t,r≠.glob n t)->∀ n t,γ.role a≠.glob n t:=λhr hn n t q=>hn n t (hr.symm.trans q)
 have kg:∀ a o n t,γ.role a=.glob n t->h.get? a=some o->(γ.back γ1).role a=.glob n t/\h1.get? a=some o:=λa o n t hr e=>⟨va hr,(f.oth a o (nx hr) e).2⟩
 have fr:fo γ h (γ.back γ1) h1:=λa o hr e=>by
  obtain ⟨r1,e1⟩:=f.fro a o (dT hr (λzz zz q=>nomatch q)) e
  exact ⟨by rw [jh (ng hr (λzz zz q=>nomatch q))]; exact r1,e1⟩
 have ot:∀ a o,γ.role a=.other->h.get? a=some o->(γ.back γ1).role a=.other/\h1.get? a=some o:=λa o hr e=>by
  obtain ⟨r1,e1⟩:=f.oth a o (dT hr (λzz zz q=>nomatch q)) e
  exact ⟨by rw [jh (ng hr (λzz zz q=>nomatch q))]; exact r1,e1⟩
 have gY:∀ {a:Addr}{r:cQ},γ1.role a=r->r≠.other->(γ.back γ1).role a=r:=λ{a r} hr hn=>by
  rw [jh]
  ·exact hr
  ·intro n t q
   obtain ⟨o,ho⟩:=aq.mp (I.wf a (by rw [q]; exact λq=>nomatch q))
   have:=(f.oth a o (nx q) ho).1
   rw [hr] at this; exact hn this
 refine ⟨⟨fr,ot,λa o i hr e=>?_,ak _,λzz zz=>rfl⟩,kg,⟨I.gn,λa ha=>?_,λn ob e=>?_,λa o e=>?_,?_,?_⟩,λa o hr e=>⟨gY hr (λq=>nomatch q),e⟩⟩
 ·obtain ⟨r1,e1⟩:=f.own a o i (dT hr (λzz zz q=>nomatch q)) e
  exact ⟨by rw [jh (ng hr (λzz zz q=>nomatch q))]; exact r1,e1⟩
 ·by_cases hg:∃ n t,γ.role a=.glob n t
  ·obtain ⟨n,t,hg⟩:=hg
   obtain ⟨o,ho⟩:=aq.mp (I.wf a (by rw [hg]; exact λq=>nomatch q))
   rw [(kg a o n t hg ho).2]; rfl
  ·rw [jh λn t q=>hg ⟨n,t,q⟩] at ha
   exact I1.wf a ha
 ·exact (I.objs n ob e).keep fr (ak _) (λzz zz=>rfl) (by rw [I.gn]; exact (aA.mp e).1) λa o t hr e=>kg a o n t hr e
 ·obtain ⟨r,q⟩:=I.base a o e
  rcases r with r | r
  ·exact ⟨.inl (ot a o r q).1,(ot a o r q).2⟩
  ·exact ⟨.inr (fr a o r q).1,(fr a o r q).2⟩
 ·have ht:=I1.tab
  exact ht.keep (λa o hr e=>⟨gY hr (λq=>nomatch q),e⟩) λo hr e=>⟨gY hr (λq=>nomatch q),e⟩
 ·obtain ⟨r,i⟩:=I.sys
  obtain ⟨o,ho⟩:=aq.mp i
  exact ⟨(ot _ o r (I.base _ o ho).2).1,i⟩
theorem zd {pe:Expr}{me:E}{v:V}{Q:Value->Shared->Prop}(S:bE P fm pe me) (C:cx P cf n) (R:cU A n) (I:bP P γ s.heap g) (Er:bG P γ s.heap fm env ae) (e:me cf (iG ae) []=some (v,[]))
  (q:∀ x γ' h' tk,Ev γ s.heap γ' h'->(∀ a o n t,γ.role a=.glob n t->s.heap.get? a=some o->γ'.role a=.glob n t/\h'.get? a=some o)->γ'.gn=γ.gn->γ'.ga=γ.ga->bP P γ' h' g->bG P γ' h' fm env ae->bM P γ' h' v x ->
   Q x (Sh s h' tk)):wpAny (model P.prog P.w) A (eval pe env) Q Ex s:=by
 refine S cf n C A γ.hide s env (iG ae) [] v [] R I.hide Er.hide e Q Ex λx γ1 h1 t1 f1 I1 r1=>?_
 obtain ⟨f,kg,J,fr⟩:=wM I f1 I1
 refine q x _ h1 t1 f kg rfl rfl J (Er.ev f) (r1.mono fr (by rw [I1.gn]; exact aZ _) λn hn=>?_)
 rw [I1.gn] at hn
 exact absurd hn (aY _)
theorem fy.put {es:List DictEntry}{ns:List Str}{vs:List Value}{nm:Str}{k:Nat}{hsh:Int}{t:Tok}{v:Value}(E:fy es ns vs) (hn:ns.Nodup) (hk:ns[k]?=some nm):fy (putL nm hsh (.str nm t) v es) ns (vs.set k v):=by
 induction E generalizing k with
 | nil=>simp at hk
 | @cons es ns vs hs t' n u E ih=>
  unfold putL
  cases k with
  | zero=>
   simp only [List.getElem?_cons_zero,Option.some.injEq] at hk
   subst hk
   rw [if_pos (show (Value.str n t').isStr n=true from beq_self_eq_true n)]
   exact .cons E
  | succ k=>
   simp only [List.getElem?_cons_succ] at hk
   have hne:(Value.str n t').isStr nm=false:=by
    show (n == nm)=false
    simp only [beq_eq_false_iff_ne,ne_eq]
    intro q
    exact (aT.mp hn).1 (q ▸ aW hk)
   rw [if_neg (by rw [hne]; exact aF)]
   exact .cons (ih (aT.mp hn).2 hk)
theorem fy.add {es:List DictEntry}{ns:List Str}{vs:List Value}{nm:Str}{hsh:Int}{t:Tok}{v:Value}(E:fy es ns vs) (hk:nm∉ns):fy (putL nm hsh (.str nm t) v es) (ns++[nm]) (vs++[v]):=by
 induction E with
 | nil=>exact .cons .nil
 | @cons es ns vs hs t' n u E ih=>
  unfold putL
  have hne:(Value.str n t').isStr nm=false:=by
   show (n == nm)=false
   simp only [beq_eq_false_iff_ne,ne_eq]
   intro q
   exact hk (q ▸ aa)
  rw [if_neg (by rw [hne]; exact aF)]
  exact .cons (ih λq=>hk (ai _ q))
theorem fy.len {es:List DictEntry}{ns:List Str}{vs:List Value}(E:fy es ns vs):es.length=ns.length/\vs.length=ns.length:=by
 induction E with
 | nil=>exact ⟨rfl,rfl⟩
 | cons _ ih=>simp [ih.1,ih.2]
theorem AP {a d:Addr}{c:Nat}{ns:List Str}{vx:List Value}{nm:Str}{v:Value}{Q:Unit->Shared->Prop}(Kn:ft P K) (I:bP P γ s.heap g) (hc:c < 4) (hm:nm∈bH c) (X:eI P s.heap a d c ns vx) (hz:ns.length<=100)
  (q:∀ es hsh t h' tk,fy es ns vx->Heap.SameBut d s.heap h'->(∃ n,h'.get? d=some (dictOf (putL nm hsh (.str nm t) v es) n))->Q () (Sh s h' tk)):wpAny (model P.prog P.w) A (setAttr (.ref a) nm v) Q Ex s:=by
 obtain ⟨es,m,IA,E,hd⟩:=X.instAt
 have X0:=I.kn Kn
 refine set_plain X0 IA (Kn.sa c hc) ?_
 refine osa_open (s:={ s with toks:=s.toks+1 }) (r:=none) X0 IA (Kn.po c hc) (by unfold takerIn; rw [Kn.at_ c nm hm]; rfl) λb=>?_
 obtain ⟨cd,hcd,hd'⟩:=any_some (show (clsIn K (P.cl c)).any (·.hasDict)=true from Kn.hd c hc)
 have ha:=IA.at_
 refine ad (af (ad (ad (wpAny_loadPart ha (ad (Looks.here (s:={ s with toks:=s.toks+1 }) (looks_clsIn X0 hcd) ?_))))))
 rw [hd']
 refine af (a:=some d) (ad (af (ad ?_)))
 unfold nsSet
 refine ad (ad (wpAny_askSetting (af (ad (wpAny_mkText (ad (wpAny_loadPart hd ?_)))))))
 dsimp only
 have c0:(!es.toArray.any (·.key.isStr nm) && es.toArray.any (·.refKey))=false:=by
  rw [show es.toArray.any (·.refKey)=es.any (·.refKey) by simp,E.key,Bool.and_false]
 rw [aRefKeyMayBeTheName_at,c0]
 refine wpAny_updatePart hd ?_
 have hp:∀ hsh dA,Obj.putName nm hsh dA v (dictOf es m)=dictOf (putL nm hsh dA v es) (putN nm es m):=λhsh dA=>putName_dict nm hsh dA v es m
 have hlen:∀ hsh dA,(putL nm hsh dA v es).length<=es.length+1:=by
  intro hsh dA
  clear hd IA E c0 hp q
  induction es with
  | nil=>simp [putL]
  | cons e r ih=>
   unfold putL
   split
   ·simp
   ·simp only [aO]; lia
 have hel:=E.len.1
 refine ad (wpAny_lookBehind (o:=dictOf (putL nm _ _ v es) (putN nm es m)) (by rw [aX _ hd (by rw [hp]; rfl),hp]) (pastItsLine_dict (by rw [List.size_toArray,sizeLine_eq]; exact aj (hlen _ _) (by lia))) ?_)
 refine af (q es _ _ _ _ E (bb ..) ⟨_,by rw [aX _ hd (by rw [hp]; rfl),hp]⟩)
end
section
variable {P:Pm}{K:Frag}{γ γ':Gh}{h h':Heap}{fm:Fm}{env:Env}{ae:En}{g g':G}{A:Around}{s:Shared}{Ex:Value->Shared->Prop}{cf:Cf}{n:Nat}{W:Nat}{Pl:Addr->Prop}
theorem eF {d b:Addr}{r r':cQ}(hd:γ.role d=r) (hb:γ.role b=r') (hn:r'≠r):b≠d:=λq=>hn (by rw [← hb,q,hd])
theorem Ev.butG {d:Addr}{n t:Nat}(ks:Heap.SameBut d h h') (hd:γ.role d=.glob n t):Ev γ h γ h':=
 ⟨λa o r e=>⟨r,ks.extBut a o (eF hd r (λq=>nomatch q)) e⟩,λa o r e=>⟨r,ks.extBut a o (eF hd r (λq=>nomatch q)) e⟩,
  λa o i r e=>⟨r,ks.extBut a o (eF hd r (λq=>nomatch q)) e⟩,ak _,λzz zz=>rfl⟩
theorem bP.part {d:Addr}{n t:Nat}{ob:mR}(I:bP P γ h g) (ks:Heap.SameBut d h h') (hd:γ.role d=.glob n t) (hs:(h'.get? d).isSome=true) (hn:n < g.length) (q:gK P γ h' n ob):bP P γ h' (g.set n ob):=by
 have f:=Ev.butG ks hd
 refine ⟨by rw [bt]; exact I.gn,λa ha=>?_,λm ob' e=>?_,λa o e=>?_,?_,I.sys⟩
 ·by_cases hda:a=d
  ·rw [hda]; exact hs
  ·obtain ⟨o,ho⟩:=aq.mp (I.wf a ha)
   rw [ks.extBut a o hda ho]; rfl
 ·by_cases hm:m=n
  ·subst hm
   rw [bD hn] at e
   cases e; exact q
  ·rw [bh (Ne.symm hm)] at e
   exact (I.objs m ob' e).keep f.fro f.gn f.ga (by rw [I.gn]; exact (aA.mp e).1) λa o t' hr e=>⟨hr,ks.extBut a o (eF hd hr (λq=>by injection q with q1 q2; exact hm q1)) e⟩
 ·obtain ⟨r,q⟩:=I.base a o e
  refine ⟨r,ks.extBut a o ?_ q⟩
  rcases r with r | r <;> exact eF hd r (λq=>nomatch q)
 ·exact I.tab.keep f.fro λo hr e=>⟨hr,ks.extBut _ o (eF hd hr (λq=>nomatch q)) e⟩
theorem wJ (c:Nat):(bH c).length<=6:=qg (p:=λl=>l.length<=6) (by decide) (by decide) (by decide) (by decide) (by decide) c
theorem p8 {α:Type}{l:List α}{m k:Nat}(h:k < m):(l.take m)[k]?=l[k]?:=by rw [List.getElem?_take,if_pos h]
theorem eo {α:Type}{l:List α}{n:Nat}{a:α}(h:l[n]?=some a):n < l.length:=(aA.mp h).1
theorem dS.set {k:Nat}{slots:List bN}{vx:List Value}{sl:bN}{y:Value}(S:dS P γ h n slots vx) (r:bT P γ h (.glob n (k+2)) sl y):dS P γ h n (slots.set k sl) (vx.set k y):=by
 refine ⟨by rw [bt,bt]; exact S.1,λj sl' z h2 h3=>?_⟩
 by_cases hj:k=j
 ·subst hj
  rw [bD (bt ▸ eo h2)] at h2
  rw [bD (bt ▸ eo h3)] at h3
  cases h2; cases h3; exact r
 ·rw [bh hj] at h2 h3
  exact S.2 j sl' z h2 h3
theorem dS.snoc {slots:List bN}{vx:List Value}{sl:bN}{y:Value}(S:dS P γ h n slots vx) (r:bT P γ h (.glob n (slots.length+2)) sl y):dS P γ h n (slots++[sl]) (vx++[y]):=by
 refine ⟨by rw [aB,aB,S.1]; rfl,λj sl' z h2 h3=>?_⟩
 have hj:=eo h2
 rw [aB] at hj
 rcases Nat.lt_or_eq_of_le (Nat.le_of_lt_succ hj) with hj | hj
 ·rw [bC hj] at h2
  rw [bC (S.1 ▸ hj)] at h3
  exact S.2 j sl' z h2 h3
 ·subst hj
  rw [List.getElem?_concat_length] at h2
  rw [← S.1,List.getElem?_concat_length] at h3
  cases h2; cases h3; exact r
theorem vD {c k:Nat}{nm:Str}(hn:(bH c)[k]?=some nm):(bH c).take (k+1)=(bH c).take k++[nm]/\nm∉(bH c).take k:=by
 have e:(bH c).take (k+1)=(bH c).take k++[nm]:=by rw [List.take_add_one,hn]; rfl
 have nd:=List.Sublist.nodup (List.take_sublist (k+1) _) (i4 c)
 rw [e] at nd
 exact ⟨e,λm=>(List.nodup_append.mp nd).2.2 _ m _ (List.mem_singleton_self _) rfl⟩
theorem sH {c k:Nat}{v:V}{x y:Value}{sl:bN}{nm:Str}{Q:Unit->Shared->Prop}(Kn:ft P K) (I:bP P γ s.heap g) (r:bM P γ s.heap v x) (e:dz g c k sl v=some g') (hn:(bH c)[k]?=some nm) (hs:∀ n,v=.gl n->bT P γ s.heap (.glob n (k+2)) sl y)
  (q:∀ h' tk,Ev γ s.heap γ h'->bP P γ h' g'->Q () (Sh s h' tk)):wpAny (model P.prog P.w) A (setAttr x nm y) Q Ex s:=by
 obtain ⟨n,hv,hc⟩:=jc e
 have hs:=hs n hv
 rw [hv] at r
 rw [r.1]
 have hm:=aW hn
 have slots:∃ slots,dZ g n=some (c,slots):=by cases hc <;> exact ⟨_,‹_›⟩
 obtain ⟨slots,hg⟩:=slots
 obtain ⟨d,vx,ra,rd,hl,X,S⟩:=I.instAt hg
 refine AP Kn I (tu hm) hm X (by rw [List.length_take]; exact aj (Nat.min_le_right ..) (aj (wJ c) (by decide))) λes hsh t h1 t1 E ks hd=>?_
 have f:=Ev.butG ks rd
 have gl:∀ {j:Nat}{sl':bN}{z:Value},bT P γ s.heap (.glob n (j+2)) sl' z->bT P γ h1 (.glob n (j+2)) sl' z:=λ{j sl' z} r=>r.glob f.fro f.gn f.ga λa o hr e=>⟨hr,ks.extBut a o (eF (r':=.glob n (j+2)) rd hr (λq=>nomatch q)) e⟩
 have S1:dS P γ h1 n slots vx:=⟨S.1,λj sl' z h2 h3=>gl (S.2 j sl' z h2 h3)⟩
 have eQ:∀ {sls:List bN}{vx':List Value},sls.length<=(bH c).length->fy (putL nm hsh (.str nm t) y es) ((bH c).take sls.length) vx'->dS P γ h1 n sls vx'->bP P γ h1 (g.set n (.inst c sls)):=λa b e=>
  let ⟨m,hd⟩:=hd
  I.part ks rd (by rw [hd]; rfl) (eo (gP hg)) ⟨d,_,ra,rd,a,⟨ks.extBut _ _ (eF rd ra (λq=>nomatch q)) X.1,_,m,hd,b⟩,e⟩
 rcases hc with ⟨hg',hk⟩ | ⟨hg',hk⟩ <;> cases hg.symm.trans hg'
 ·exact q h1 t1 f (eQ (by rw [bt]; exact hl) (by rw [bt]; exact E.put (List.Sublist.nodup (List.take_sublist _ _) (i4 c)) ((p8 hk).trans hn)) (S1.set (gl hs)))
 ·subst hk
  have T:=vD hn
  exact q h1 t1 f (eQ (by rw [aB]; exact eo hn) (by rw [aB,List.length_singleton,T.1]; exact E.add T.2) (S1.snoc (gl hs)))
theorem b0.sattr {o vx:Expr}{nm:Str}{tp pos:Pos}{mo mv:E}{c k:Nat}(Kn:ft P K) (S:bE P fm vx mv) (T:bE P fm o mo) (hn:(bH c)[k]?=some nm)
  (hsw:∀ env,swapsWithSole [.Attribute o nm tp] vx pos.line env=pure false) (hst:∀ env,swappedStores [.Attribute o nm tp] vx env=pure none):
  b0 P fm W (.Assign [.Attribute o nm tp] vx pos) (.sattr c k mo mv):=by
 intro cf n C A γ s env ae g fl ae' g' R I Er
 refine cC λv g1 e1=>cC λx g2 e2=>gZ λg3 e3=>cE.of' ?_
 intro Q Ex q
 refine wpAny_Assign_stores (S.run C R I Er e1 λyv γ1 h1 t1 f1 I1 E1 r1=>?_) (hsw env) (hst env)
 show wpAny _ _ (assign (.Attribute o nm tp) env yv) _ _ _
 rw [assign_Attribute]
 refine ad (aH (T.run C R I1 E1 e2 λov γ2 h2 t2 f2 I2 E2 r2=>ad (bp (ad (aH ?_)))))
 exact sH (s:=(Sh s h2 t2)) Kn I2 r2 e3 hn (λzz zz=>r1.ev f2) λh3 t3 f3 I3=>wpAny_release (q _ γ2 h3 t3 (f1.trans (f2.trans f3)).es I3 (.nxt (E2.ev f3)))
theorem bP.give {D:Addr}{r:cQ}(I:bP P γ h g) (hr:γ.role D=.other) (h0:P.h0.get? D=none) (hs:(h.get? D).isSome=true):dw (·=D) γ h (γ.put D r) h/\bP P (γ.put D r) h g:=by
 have fr:fo γ h (γ.put D r) h:=λa o ra e=>⟨by rw [cD (by rw [ra,hr]; exact λq=>nomatch q)]; exact ra,e⟩
 refine ⟨⟨fr,λa o ra hn e=>⟨by rw [bK hn]; exact ra,e⟩,λa o i ra e=>⟨by rw [cD (by rw [ra,hr]; exact λq=>nomatch q)]; exact ra,e⟩,ak _,λzz zz=>rfl⟩,?_⟩
 refine I.keep fr rfl (λzz zz=>rfl) (λa ha=>?_) (λa o n t ra e=>⟨by rw [cD (by rw [ra,hr]; exact λq=>nomatch q)]; exact ra,e⟩)
  (λa o hs' ra e=>⟨by rw [bK (λq=>by rw [q,h0] at hs'; cases hs')]; exact ra,e⟩) (λo ra e=>⟨by rw [cD (by rw [ra,hr]; exact λq=>nomatch q)]; exact ra,e⟩)
 by_cases hd:a=D
 ·rw [hd]; exact hs
 ·rw [bK hd] at ha; exact I.wf a ha
theorem b0.sattrD {o:Expr}{nm:Str}{tp dp pos:Pos}{mo:E}{c k:Nat}(Kn:ft P K) (T:bE P fm o mo) (hn:(bH c)[k]?=some nm)
  (hsw:∀ env,swapsWithSole [.Attribute o nm tp] (.Dict [] [] dp) pos.line env=pure false) (hst:∀ env,swappedStores [.Attribute o nm tp] (.Dict [] [] dp) env=pure none):
  b0 P fm W (.Assign [.Attribute o nm tp] (.Dict [] [] dp) pos) (.sattrD c k mo):=by
 intro cf n C A γ s env ae g fl ae' g' R I Er
 refine cC λx g2 e2=>gZ λg3 e3=>cE.of' ?_
 intro Q Ex q
 have gr:∀ b o,s.heap.get? b=some o->(s.heap.push emptyDict).get? b=some o:=λb o e=>ag _ e
 refine wpAny_Assign_stores ?_ (hsw env) (hst env)
 rw [eval_Dict_empty]
 refine ad (bp (aV ?_))
 show wpAny _ _ (assign (.Attribute o nm tp) env (.ref s.heap.objs.size)) _ _ _
 rw [assign_Attribute]
 refine ad (aH (T.run (s:=(ey s (s.heap.push emptyDict))) C R (I.grow gr) (Er.ev (Ev.grow gr)) e2 λov γ2 h2 t2 f2 I2 E2 r2=>ad (bp (ad (aH ?_)))))
 have rD:=f2.oth _ _ I.role_new (ah s.heap (o:=emptyDict) rfl)
 obtain ⟨m,hx,zz⟩:=jc e3
 obtain ⟨f3,I3⟩:=I2.give (r:=.glob m (k+2)) rD.1 (dB I) (by rw [rD.2]; rfl)
 refine sH (s:=(Sh s h2 t2)) Kn I3 (r2.evP f3) e3 hn (λn' hn'=>?_) λh4 t4 f4 I4=>wpAny_release (q _ _ h4 t4 ?_ I4 (.nxt ?_))
 ·cases hn'.symm.trans hx
  exact ⟨_,[],[],rfl,cz,⟨_,#[],0,rD.2,⟨rfl,rfl,rfl⟩,rfl,.nil,List.nodup_nil,rfl⟩,.nil,.nil⟩
 ·have f5:dw (·=s.heap.objs.size) γ s.heap (γ2.put s.heap.objs.size (.glob m (k+2))) h4:=((Ev.grow gr).trans f2).p.trans (f3.trans f4.p)
  exact (f5.ev λa ha zz=>by subst ha; exact dm _).es
 ·refine (E2.p f3 λa hp ha=>?_).ev f4
  subst ha
  obtain ⟨o',ho',zz⟩:=Er.there hp
  rw [dm] at ho'; cases ho'
end
section
variable {P:Pm}{K:Frag}{γ γ':Gh}{h h':Heap}{fm:Fm}{env:Env}{ae:En}{g g':G}{A:Around}{s:Shared}{Ex:Value->Shared->Prop}{cf:Cf}{n:Nat}{W:Nat}{Pl:Addr->Prop}
def Bm (γ:Gh) (h:Heap) (γ':Gh) (h':Heap):Prop:=∀ a o n t,γ.role a=.glob n t->h.get? a=some o->γ'.role a=.glob n t/\h'.get? a=some o
theorem Bm.refl:Bm γ h γ h:=λzz zz zz zz r e=>⟨r,e⟩
def CC (P:Pm) (γ:Gh) (h:Heap) (g:G) (c k:Nat) (v:V) (m:Nat) (a:Addr):Prop:=
 ∀ {γ':Gh}{h' h1:Heap}{sl:bN}{g':G},Ev γ h γ' h'->Bm γ h γ' h'->bP P γ' h' g->Heap.SameBut a h' h1->γ'.role a=.glob m (k+2)->(h1.get? a).isSome=true->bT P γ' h1 (.glob m (k+2)) sl (.ref a)->dz g c k sl v=some g'->Ev γ' h' γ' h1/\bP P γ' h1 g'
theorem gY {c k:Nat}{slots:List bN}{a d:Addr}{vx:List Value}(ro:γ.role (γ.ga n)=.glob n 0) (rd:γ.role d=.glob n 1) (hl:slots.length<=(bH c).length) (X:eI P h (γ.ga n) d c ((bH c).take slots.length) vx) (S:dS P γ h n slots vx) (I:bP P γ h g) (hg:dZ g n=some (c,slots)) (hk:k < slots.length) (hy:vx[k]?=some (.ref a)):CC P γ h g c k (.gl n) n a:=by
 intro γ' h' h1 sl g' f kp I' ks hr hs rs e
 obtain ⟨e1,es,m,e2,en⟩:=X
 have hn:n < γ.gn:=I.gn ▸ eo (gP hg)
 have e1:=kp _ _ _ _ ro e1
 rw [← f.ga n hn] at e1
 have e2:=kp _ _ _ _ rd e2
 have f1:=Ev.butG ks hr
 have ne:∀ {b:Addr}{t:Nat},γ'.role b=.glob n t->t≠k+2->b≠a:=λhb ht=>eF hr hb λq=>by cases q; exact ht rfl
 obtain ⟨n',hv,p⟩:=jc e
 clear I hn rd ro
 cases hv
 cases p with
 | new h q=>cases hg.symm.trans h; exact absurd (q ▸ hk) (Nat.lt_irrefl _)
 | old h q=>
  cases hg.symm.trans h
  refine ⟨f1,I'.part ks hr hs (eo (gP hg)) ⟨d,vx,e1.1,e2.1,by rw [bt]; exact hl,⟨ks.extBut _ _ (ne e1.1 (λq=>nomatch q)) e1.2,es,m,ks.extBut _ _ (ne e2.1 (λq=>nomatch q)) e2.2,by rw [bt]; exact en⟩,by rw [bt]; exact S.1,λj sl1 z h1 h2=>?_⟩⟩
  by_cases hj:k=j
  ·clear I' e1 e2 en h hg hl hr hs
   subst hj
   rw [bD hk] at h1
   clear e1 e2 es hk m
   cases h1
   cases hy.symm.trans h2
   exact rs
  ·rw [bh hj] at h1
   exact ((S.2 j sl1 z h1 h2).glob f.fro f.gn f.ga λb o=>kp b o _ _).glob f1.fro f1.gn f1.ga λb o rb e=>⟨rb,ks.extBut b o (ne rb λq=>hj (Nat.add_right_cancel q).symm) e⟩
theorem ow {c k:Nat}{v:V}{x:Value}{sl:bN}{nm:Str}{b:Bool}{Q:Value->Shared->Prop}(Kn:ft P K) (I:bP P γ s.heap g) (r:bM P γ s.heap v x) (e:gU g c k v=some sl) (hsl:nV sl=none) (hn:(bH c)[k]?=some nm)
  (q:∀ m a,γ.role a=.glob m (k+2)->bT P γ s.heap (.glob m (k+2)) sl (.ref a)->CC P γ s.heap g c k v m a->Q (.ref a) { s with toks:=s.toks+1 }):
  wpAny (model P.prog P.w) A (getAttr x nm b) Q Ex s:=by
 rcases jU e with ⟨zz,zz,zz,zz,hs⟩ | ⟨n,slots,hv,hg,hs⟩
 ·rw [hs] at hsl; exact no hsl.symm
 rw [hv] at r q
 rw [r.1]
 have hk:=eo hs
 obtain ⟨d,vx,r1,r2,hl,X,h⟩:=I.instAt hg
 obtain ⟨y,hy⟩:∃ y,vx[k]?=some y:=⟨_,aN (h.1 ▸ hk)⟩
 have rs:=h.2 k sl y hs hy
 have dA:∃ a,y=.ref a/\γ.role a=.glob n (k+2):=by
  clear hs hv
  cases sl with
  | val u=>exact no hsl.symm
  | ol xs=>obtain ⟨a,zz,e,hr,zz⟩:=rs; exact ⟨a,e,hr⟩
  | od ks vs=>obtain ⟨a,zz,zz,e,hr,zz⟩:=rs; exact ⟨a,e,hr⟩
 obtain ⟨a,hya,hr⟩:=dA
 rw [hya] at rs hy
 exact lm (k:=k) Kn I X ((p8 hk).trans hn) hy rfl (q n a hr rs (gY r1 r2 hl X h I hg hk hy))
abbrev eJ (o:Expr) (nm:Str) (ap:Pos):Prop:=∀ env,eval (.Attribute o nm ap) env=(do
   let ov ← eval o env
   standAt ap.atName
   let r ← holding [ov] (getAttr ov nm true)
   letTemporaryGo o ov r
   pure r)
theorem b0.appA {o:Expr}{nm x:Str}{ap apos pos spos p:Pos}{mo:E}{c k i:Nat}(Kn:ft P K) (T:bE P fm o mo) (hn:(bH c)[k]?=some nm) (hx:fm.vis.lookup x=some i)
  (ha:eJ o nm ap:=by intro _; with_unfolding_all rfl) {pl:Env->Sem Bool}(he:cq (.Attribute o nm ap) "append" apos pos [.Name x p] pl):
  b0 P fm W (.Expr (.Call (.Attribute (.Attribute o nm ap) "append" apos) [.Name x p] [] pos) spos) (.appA c k mo (.var i)):=by
 intro cf n C A γ s env ae g fl ae' g' R I Er
 refine cC λob g1 e1=>cC λv g2 e2=>gZ λxs e3=>c9 λhl=>gZ λg3 e4=>cE.of' ?_
 refine cu e2 λu hi=>?_
 clear e2
 intro e2
 clear ae' fl g'
 cases e2
 refine cu hi λsl hi e2=>cu e3 λsl3 e3 e5=>?_
 have hi:=cX hi
 have e3:=jQ e5 ▸ e3
 intro Q Ex q
 obtain ⟨y,ry,rsy⟩:=Er.get x i _ hx hi
 refine wpAny_Expr_any (k7 PySem.F.plainAttrs_list PySem.F.slot_list_append PySem.F.type_list_append he (λzz=>rfl) (λzz zz=>rfl) ?_) (dF Er) rfl
 refine Attribute_any_ (T.run C R I Er e1 λov γ1 h1 t1 f1 I1 E1 r1=>ow Kn I1 r1 e3 rfl hn λm a hr rs B=>?_) (ha env)
 obtain ⟨a',its,ea,zz,ti,li⟩:=rs
 clear C I Kn R T e1 e3 e5 g ha he hi hn n r1
 cases ea
 refine ⟨(cW (s:=(Sh s h1 (t1+1))) ti).1,(cW (s:=(Sh s h1 (t1+1))) ti).2,?_⟩
 refine args_cons (wpAny_Name (cS (s:=(Sh s h1 (t1+1))) (by rw [Er.sc]; exact Er.kind) (ry.ev f1 Er.loc.1 λx c e=>(Er.cel x c e).1) (args_nil ?_)) (Er.nd x i hx).2) rfl
 refine wpAny_list_append_plain ti (λh2 ti2 ks=>?_) (by rw [show its.size=xs.length from li.length]; exact Cw hl)
 have f2:=Ev.butG ks hr
 refine B (sl:=.ol _) .refl .refl I1 ks hr (let ⟨k,ho⟩:=ti2; by rw [ho]; rfl) ⟨a,_,rfl,hr,ti2,?_⟩ e4 |>.elim λf2 I2=>q _ γ1 h2 _ (f1.trans f2).es I2 (.nxt (E1.ev f2))
 rw [Array.toList_push]
 exact (li.ev f2).append (.cons (((d5 e2 ▸ rsy:bT P γ s.heap (.own i) (.val v) y).ev f1).ev f2) .nil)
theorem b0.popDA {o:Expr}{nm x:Str}{ap apos pos spos p:Pos}{mo:E}{c k i:Nat}(Kn:ft P K) (T:bE P fm o mo) (hn:(bH c)[k]?=some nm) (hx:fm.vis.lookup x=some i)
  (ha:eJ o nm ap:=by intro _; with_unfolding_all rfl) {pl:Env->Sem Bool}(he:cq (.Attribute o nm ap) "pop" apos pos [.Name x p] pl):
  b0 P fm W (.Expr (.Call (.Attribute (.Attribute o nm ap) "pop" apos) [.Name x p] [] pos) spos) (.popDA c k mo (.var i)):=by
 intro cf n C A γ s env ae g fl ae' g' R I Er
 refine cC λob g1 e1=>cC λv g2 e2=>cC λks vs e3=>c9 λhkk=>gZ λy e5=>gZ λg3 e4=>cE.of' ?_
 refine cu e2 λu hi=>?_
 clear e2
 intro e2
 clear ae' fl g'
 cases e2
 refine cu hi λsl hi e2=>cu e3 λsl3 e3 e6=>cu e5 λo e5 e7=>?_
 have hi:=cX hi
 have e3:=jT e6 ▸ e3
 clear e6
 cases (e7:o=some y)
 intro Q Ex q
 obtain ⟨z,rz,rsz⟩:=Er.get x i _ hx hi
 have rsz:bM P γ s.heap v z:=(d5 e2 ▸ rsz:bT P γ s.heap (.own i) (.val v) z)
 refine wpAny_Expr_any (k7 PySem.F.plainAttrs_dict PySem.F.slot_dict_pop PySem.F.type_dict_pop he (λzz=>rfl) (λzz zz=>rfl) ?_) (dF Er) rfl
 refine Attribute_any_ (T.run C R I Er e1 λov γ1 h1 t1 f1 I1 E1 r1=>ow Kn I1 r1 e3 rfl hn λm a hr rs B=>?_) (ha env)
 obtain ⟨a',kx,vx',ea,zz,X,rk,rv⟩:=rs
 clear C I Kn T e1 e2 e3 g ha he hi hn o r1
 cases ea
 refine ⟨bJ.typeIs (s:=(Sh s h1 (t1+1))) X,λb hb=>?_,?_⟩
 ·clear Ex cf e3 hi ov sl3
  cases hb
  obtain ⟨o',zz,zz,ho,hc,zz⟩:=X
  exact ⟨o',ho,hc.2.1⟩
 ·refine args_cons (wpAny_Name (cS (s:=(Sh s h1 (t1+1))) (by rw [Er.sc]; exact Er.kind) (rz.ev f1 Er.loc.1 λx c e=>(Er.cel x c e).1) (args_nil ?_)) (Er.nd x i hx).2) rfl
  have rz':=rsz.ev f1
  have hxr:∃ b,z=.ref b:=by
   clear Er Ex cf e3 hi hx ov rsz rz sl3 x
   cases v with
   | tup=>obtain ⟨b,zz,e,zz⟩:=rz'; exact ⟨b,e⟩
   | _=>exact iU hkk.2.1
  refine zr (s:=(Sh s h1 (t1+1))) (R.line (by decide)) (I1.notSys (by rw [hr]; exact λq=>nomatch q)) X rk rv hkk.1 hkk.2.2 rz' hxr e5 λz' h2 t2 ch=>?_
  obtain ⟨kx2,vx2,X2,ks2,rk2,rv2⟩:=ch
  have f2:=Ev.butG ks2 hr
  exact B (sl:=.od _ _) .refl .refl I1 ks2 hr X2.there ⟨a,kx2,vx2,rfl,hr,X2,rk2.ev f2,rv2.ev f2⟩ e4 |>.elim λf2 I2=>q _ γ1 h2 _ (f1.trans f2).es I2 (.nxt (E1.ev f2))
theorem b0.setDA {o vx kx:Expr}{nm:Str}{ap tp pos:Pos}{mo mv mk:E}{c k:Nat}(Kn:ft P K) (S:bE P fm vx mv) (T:bE P fm o mo) (U:bE P fm kx mk) (hn:(bH c)[k]?=some nm)
  (ha:eJ o nm ap:=by intro _; with_unfolding_all rfl) (hsw:∀ env,swapsWithSole [.Subscript (.Attribute o nm ap) kx tp] vx pos.line env=pure false)
  (hst:∀ env,swappedStores [.Subscript (.Attribute o nm ap) kx tp] vx env=pure none):
  b0 P fm W (.Assign [.Subscript (.Attribute o nm ap) kx tp] vx pos) (.setDA c k mo mk mv):=by
 intro cf n C A γ s env ae g fl ae' g' R I Er
 refine cC λy g1 e1=>cC λob g2 e2=>cC λz g0 e3=>cC λks vs e4=>c9 λhkk=>gZ λg3 e5=>cE.of' ?_
 refine cu e4 λsl3 e4 e6=>?_
 have e4:=jT e6 ▸ e4
 clear ae' e6 fl g'
 cases (hkk.2:g0=[])
 intro Q Ex q
 refine wpAny_Assign_stores (S.run C R I Er e1 λyv γ1 h1 t1 f1 I1 E1 r1=>?_) (hsw env) (hst env)
 show wpAny _ _ (assign (.Subscript (.Attribute o nm ap) kx tp) env yv) _ _ _
 rw [assign_Subscript]
 refine ad (aH (Attribute_any_ (T.run C R I1 E1 e2 λov γ2 h2 t2 f2 I2 E2 r2=>ow Kn I2 r2 e4 rfl hn λm a hr rs B=>?_) (ha env)))
 obtain ⟨a',kx1,vx1,ea,zz,X,rk,rv⟩:=rs
 clear E1 Er I I1 Kn S T e1 e2 e4 g ha hn hst hsw r2
 cases ea
 refine ad (aH (zd (s:=(Sh s h2 (t2+1))) U C R I2 E2 e3 λkv γ3 h3 t3 f3 kp hgn hga I3 E3 r3=>ad (bp (ad (aH ?_)))))
 have X3:=X.to (γ':=γ3) (h':=h3) (r':=.glob m (k+2)) (λo=>kp a o _ _ hr) (rk.ev f3).toK
 refine td (s:=(Sh s h3 t3)) (R.line (by decide)) X3.2 (rk.ev f3) (rv.ev f3) hkk.1.1 hkk.1.2 r3 ((r1.ev f2).ev f3) λh4 t4 ch=>?_
 obtain ⟨kx2,vx2,X4,ks4,rk4,rv4⟩:=ch
 have f4:=Ev.butG ks4 X3.1
 exact B (sl:=.od _ _) f3 kp I3 ks4 X3.1 X4.there ⟨a,kx2,vx2,rfl,X3.1,X4,rk4.ev f4,rv4.ev f4⟩ e5 |>.elim λf4 I4=>wpAny_release (q _ γ3 h4 t4 (f1.trans (f2.trans (f3.trans f4))).es I4 (.nxt (E3.ev f4)))
end
section
variable {P:Pm}{K:Frag}{γ γ':Gh}{h h':Heap}{fm:Fm}{env:Env}{ae:En}{g g':G}{A:Around}{s:Shared}{Ex:Value->Shared->Prop}{cf:Cf}{n:Nat}{W:Nat}{Pl:Addr->Prop}
theorem y4 {n:Nat}{xs:List V}(e:yS g n=some xs):n < g.length:=cu e λzz e zz=>eo e
theorem b0.setG {x:Str}{p tp ip pos:Pos}{k:Nat}{j:Nat}{vx:Expr}{mv:E}{i:Nat}(hx:fm.vis.lookup x=some i) (S:bE P fm vx mv) (hk:k<=800)
  (hsw:∀ env,swapsWithSole [.Subscript (.Name x p) (.Constant (.int k) j ip) tp] vx pos.line env=pure false) (hst:∀ env,swappedStores [.Subscript (.Name x p) (.Constant (.int k) j ip) tp] vx env=pure none):
  b0 P fm W (.Assign [.Subscript (.Name x p) (.Constant (.int k) j ip) tp] vx pos) (.setG (.var i) k mv):=by
 intro cf n C A γ s env ae g fl ae' g' R I Er
 refine cC λv g1 e1=>cC λu g2 e2=>gZ λm hm=>gZ λxs hg=>c9 λhlt=>cE.of' ?_
 obtain ⟨hi,hg2⟩:=oU e2
 rw [show u=.gl m from tS hm] at hi
 intro Q Ex q
 refine wpAny_Assign_stores (S.run C R I Er e1 λyv γ1 h1 t1 f1 I1 E1 r1=>?_) (hsw env) (hst env)
 show wpAny _ _ (assign (.Subscript (.Name x p) (.Constant (.int k) j ip) tp) env yv) _ _ _
 rw [assign_Subscript]
 have I1:bP P γ1 h1 g2:=hg2 ▸ I1
 obtain ⟨z,rz,hz,zz⟩:=E1.get x i _ hx hi
 obtain ⟨its,ro,ti,li⟩:=I1.lstAt (s:=Sh s h1 t1) hg
 rw [hz] at rz
 refine ad (aH (wpAny_Name (cS (s:=(Sh s h1 t1)) (by rw [Er.sc]; exact Er.kind) rz (ad (aH (wpAny_Constant_int (ad (bp (ad (aH ?_)))))))) (Er.nd x i hx).2))
 refine wpAny_setItem_list (s:=(Sh s h1 (t1+1))) ti (Int.natCast_nonneg k) (Int.ofNat_lt.mpr (aI hk (by decide:800 < 2 ^ 63))) (Int.ofNat_lt.mpr (by rw [show its.size=xs.length from li.length]; exact hlt)) λh2 ti2 ks=>?_
 have f2:=Ev.butG ks ro
 refine wpAny_release (q _ γ1 h2 _ (f1.trans f2).es (I1.part ks ro (let ⟨o,ho,_⟩:=ti2; by rw [ho]; rfl) (y4 hg) ⟨_,ro,ti2,?_⟩) (.nxt (E1.ev f2)))
 rw [Array.toList_setIfInBounds]
 exact (li.ev f2).set k (r1.ev f2)
theorem wB {o:Expr}{nm:Str}{apos pos:Pos}{T id:String}{Q:Value->Shared->Prop}{pl:Env->Sem Bool}(pa:PlainAttrs T) (slot:PySem.Slot T nm id) (hty:typeOf (.builtin id)=pure (.type "method_descriptor"))
  (he:cq o nm apos pos [] pl)
  (h:wpAny (model P.prog P.w) A (eval o env) (λov s₁=>s₁.TypeIs ov T/\(∀ a,ov=.ref a->∃ ob,s₁.heap.get? a=some ob/\ob.dict=none)/\wpAny (model P.prog P.w) A (call (.builtin id) [ov]) Q Ex s₁) Ex s):
  wpAny (model P.prog P.w) A (eval (.Call (.Attribute o nm apos) [] [] pos) env) Q Ex s:=by
 refine methodCall_KW (wpAny_mono h (λov s₁ h₁=>?_) λzz zz e=>e) (he env)
 obtain ⟨hT,hd,hc⟩:=h₁
 refine getMethod_builtin hT pa slot hty hd ?_
 show wpAny _ _ (callWith pos (.builtin id) [ov] [] []) _ _ _
 exact callWith_builtin rfl (evalArgs_nil3 (by simpa using hc))
theorem bI.getLast {vs:List V}{xs:List Value}{v:V}(r:bI P γ h vs xs) (e:vs.getLast?=some v):∃ x,xs[xs.length - 1]?=some x/\bM P γ h v x/\bI P γ h vs.dropLast xs.dropLast:=by
 rw [List.getLast?_eq_getElem?] at e
 obtain ⟨x,hx,rx⟩:=r.get e
 refine ⟨x,by rw [r.length]; exact hx,rx,?_⟩
 rw [List.dropLast_eq_take,List.dropLast_eq_take,r.length]
 exact r.take _
theorem o8 {its:Array Value}{n k:Nat}:∃ m,Obj.mapSeq (λxs=>xs.eraseIdxIfInBounds k) { cls:=.type "list",dict:=none,data:=.seq its n,slots:=#[] }={ cls:=.type "list",dict:=none,data:=.seq (its.eraseIdxIfInBounds k) m,slots:=#[] }:=⟨_,rfl⟩
theorem rZ (its:Array Value):(its.eraseIdxIfInBounds (its.size - 1)).toList=its.toList.dropLast:=by
 obtain ⟨l⟩:=its
 cases l with
 | nil=>rfl
 | cons a l=>
  simp only [Array.eraseIdxIfInBounds,List.size_toArray]
  rw [dif_pos (by simp)]
  rw [List.eraseIdx_toArray]; exact List.eraseIdx_length_sub_one (l:=a::l)
theorem b0.popUnp {y1 y2 x:Str}{p1 p2 p tp apos cp pos:Pos}{c i j w:Nat}(hx:fm.vis.lookup x=some w) (t:mQ fm [y1,y2] [i,j]) (hnd:[y1,y2].Nodup) (hwi:w≠i) (hwj:w≠j)
  {pl:Env->Sem Bool}(he:cq (.Name x p) "pop" apos cp [] pl)
  (hsw:∀ env,swapsWithSole [.Tuple [.Name y1 p1,.Name y2 p2] c tp] (.Call (.Attribute (.Name x p) "pop" apos) [] [] cp) pos.line env=pure false)
  (hst:∀ env,swappedStores [.Tuple [.Name y1 p1,.Name y2 p2] c tp] (.Call (.Attribute (.Name x p) "pop" apos) [] [] cp) env=pure none):
  b0 P fm W (.Assign [.Tuple [.Name y1 p1,.Name y2 p2] c tp] (.Call (.Attribute (.Name x p) "pop" apos) [] [] cp) pos) (.popUnp i j w):=by
 intro cf n C A γ s env ae g fl ae' g' R I Er
 refine gZ λxs hi=>cC λa b hp=>c9 λhl=>cE.of' (cu hp λl hlast hab=>?_)
 clear C ae' cf fl g' hp hwi hwj
 cases iO hab
 intro Q Ex q
 obtain ⟨o,its,rv,ro,⟨k,ti⟩,li⟩:=iu Er hx hi
 have hsz:its.size=xs.length:=(aM (xs:=its)).symm.trans li.length
 obtain ⟨z,hz,rz,rl⟩:=li.getLast hlast
 rw [exec_Assign_arm]
 refine ad (bp ?_)
 rw [hsw env]
 refine ad (af ?_)
 rw [if_neg (by decide)]
 refine ad (wB PySem.F.plainAttrs_list PySem.F.slot_list_pop PySem.F.type_list_pop he (wpAny_Name (cS (by rw [Er.sc]; exact Er.kind) rv ⟨⟨_,ti,rfl⟩,λb hb=>by cases hb; exact ⟨_,ti,rfl⟩,?_⟩) (Er.nd x w hx).2))
 refine call_meets PySem.F.slot_list_pop ⟨_,ti,rfl⟩ PySem.F.entry_list_pop (PySem.F.args_list_pop_1 _) (MeetsSeq.list_pop_last o its k z (by rw [← aK,← aM]; exact hz) (by rw [hsz]; exact sz _ hl)) ⟨ti,?_⟩
 have ks:Heap.SameBut o s.heap (s.heap.update o (Obj.mapSeq λxs=>xs.eraseIdxIfInBounds (its.size - 1))):=bb ..
 obtain ⟨m,hm⟩:=o8 (its:=its) (n:=k) (k:=its.size - 1)
 have ho':(s.heap.update o (Obj.mapSeq λxs=>xs.eraseIdxIfInBounds (its.size - 1))).get? o=some { cls:=.type "list",dict:=none,data:=.seq (its.eraseIdxIfInBounds (its.size - 1)) m,slots:=#[] }:=by
  rw [aX _ ti (by rw [hm]; rfl),hm]
 generalize hh1:s.heap.update o (Obj.mapSeq λxs=>xs.eraseIdxIfInBounds (its.size - 1))=h1 at ks ho'
 have ite:=rZ its
 have I1:bP P γ h1 g:=I.own ks ro (by rw [ho']; rfl)
 have E1:bG P γ h1 fm env (ae.set w (some (.ol xs.dropLast))):=Er.own hx (fY hi) ks ro (λv rw=>rw.inj rv) ⟨o,_,rfl,ro,⟨m,ho'⟩,by rw [ite]; exact rl.evO ks ro⟩
 have rz1:=rz.evO ks ro
 rw [hst env]
 refine ad (af ?_)
 clear Er I hab he hi hl hlast hm ho' hst hsw hsz hx hz ite li m rl rv rz ti
 obtain ⟨T,its2,rfl,rT,tT,lT⟩:=rz1
 refine h9 (s:=(ey s h1)) (ids:=[y1,y2]) R.hd t hnd ⟨[p1,p2],rfl,rfl⟩ (.inl rfl) E1 I1 tT (fe.vals (is:=[i,j]) lT rfl) λh2 t2 f2 I2 E2=>?_
 rw [iN] at E2
 exact q _ γ h2 t2 ((il.own ks ro).trans f2.es) I2 (.nxt E2)
theorem rq {m c k:Nat}{slots:List bN}{xs:List V}(I:bP P γ s.heap g) (hg:dZ g m=some (c,slots)) (hs:slots[k]?=some (.ol xs)):∃ a,Ev γ s.heap (γ.put a .frozen) s.heap/\bP P (γ.put a .frozen) s.heap (g.set m (.inst c (slots.set k (.val (.lst xs))))):=by
 have hk:=eo hs
 obtain ⟨d,vx,r1,r2,hl,X,S⟩:=I.instAt hg
 have hy:=aN (S.1 ▸ hk)
 obtain ⟨a,its,hya,hr,ti,li⟩:=S.2 k _ _ hs hy
 have ne:∀ {b:Addr}{r:cQ},γ.role b=r->r≠.glob m (k+2)->(γ.put a .frozen).role b=r:=λrb n=>by rw [cD (by rw [rb,hr]; exact n)]; exact rb
 have f:Ev γ s.heap (γ.put a .frozen) s.heap:=⟨λb o rb e=>⟨ne rb (λq=>nomatch q),e⟩,λb o rb e=>⟨ne rb (λq=>nomatch q),e⟩,λb o j rb e=>⟨ne rb (λq=>nomatch q),e⟩,ak _,λzz zz=>rfl⟩
 refine ⟨a,f,⟨by rw [bt]; exact I.gn,λb hb=>?_,λm' ob e=>?_,λb o e=>?_,I.tab.keep f.fro λo rb e=>⟨ne rb (λq=>nomatch q),e⟩,⟨ne I.sys.1 (λq=>nomatch q),I.sys.2⟩⟩⟩
 ·by_cases hba:b=a
  ·obtain ⟨zz,ti⟩:=ti
   rw [hba,ti]; rfl
  ·rw [bK hba] at hb; exact I.wf b hb
 ·by_cases hm:m=m'
  ·clear hr hs
   subst hm
   rw [bD (eo (gP hg))] at e
   clear hg
   cases e
   refine ⟨d,vx,ne r1 (λq=>nomatch q),ne r2 (λq=>nomatch q),by rw [bt]; exact hl,by rw [bt]; exact X,by rw [bt]; exact S.1,λj sl1 z h1 h2=>?_⟩
   by_cases hj:k=j
   ·clear X hl r1 r2
    subst hj
    rw [bD hk] at h1
    clear d
    cases h1
    cases hy.symm.trans h2
    exact ⟨a,its,hya,cz,ti,li.ev f⟩
   ·rw [bh hj] at h1
    exact (S.2 j sl1 z h1 h2).glob f.fro f.gn f.ga λb o rb e=>⟨ne rb λq=>by cases q; exact hj rfl,e⟩
  ·rw [bh hm] at e
   exact (I.objs m' ob e).keep f.fro f.gn f.ga (by rw [I.gn]; exact eo e) λb o t rb e=>⟨ne rb λq=>by cases q; exact hm rfl,e⟩
 ·obtain ⟨r,q⟩:=I.base b o e
  exact ⟨r.imp (λr=>ne r (λq=>nomatch q)) λr=>ne r (λq=>nomatch q),q⟩
theorem wW.freezeA {x:Str}{i c k:Nat}{nm:Str}(hx:fm.vis.lookup x=some i) (hn:(bH c)[k]?=some nm):wW P fm W (.freezeA c k (.var i)):=by
 intro cf γ s env ae g fl ae' g' I Er
 refine cC λv g1 e1=>gZ λxs e3=>gZ λg3 e4 e=>cu e3 λsl e3 e5=>?_
 have hg1:g1=g:=(oU e1).2
 rw [jQ e5] at e3
 obtain ⟨m,hv,p⟩:=jc e4
 rcases jU e3 with ⟨zz,zz,zz,zz,hs⟩ | ⟨m',slots,hv',hg,hs⟩
 ·exact nomatch hs
 clear e1 e3 e4 e5 hn hx sl
 cases hv.symm.trans hv'
 rw [← hg1] at I
 obtain ⟨a,f,J⟩:=rq (s:=s) I hg hs
 clear I cf e3 hg1 hv hv'
 cases e
 refine ⟨_,f.es,?_,rfl,Er.ev f⟩
 clear Er ae env f g
 cases p with
 | new hg' q=>cases hg.symm.trans hg'; exact absurd (q ▸ eo hs) (Nat.lt_irrefl _)
 | old hg' q=>cases hg.symm.trans hg'; exact J
end
section
variable {P:Pm}{K:Frag}{γ γ':Gh}{h h':Heap}{fm:Fm}{env:Env}{ae:En}{g g':G}{A:Around}{s:Shared}{Ex:Value->Shared->Prop}{cf:Cf}{n:Nat}{W:Nat}{Pl:Addr->Prop}
theorem b0.takeAttr {x y:Str}{nm:Str}{p1 p2 p3 tp ap ttp lp vp pos:Pos}{ct kt:Nat}{i j c k:Nat}{pes:List Expr}{mes:List E}(Kn:ft P K) (hx:fm.vis.lookup x=some j) (hy:fm.vis.lookup y=some i) (hk:fm.sc.names.lookup y=some .local\/fm.sc.names.lookup y=some .cell) (hij:i≠j)
  (hn:(bH c)[k]?=some nm) (S:dM P fm pes mes) (hl:mes.length<=lim) (ha:eJ (.Name x p3) nm ap:=by intro _; with_unfolding_all rfl)
  (hsw:∀ env,swapsWithSole [.Tuple [.Name y p1,.Attribute (.Name x p2) nm tp] ct ttp] (.Tuple [.Attribute (.Name x p3) nm ap,.List pes lp] kt vp) pos.line env=pure false)
  (hst:∀ env,swappedStores [.Tuple [.Name y p1,.Attribute (.Name x p2) nm tp] ct ttp] (.Tuple [.Attribute (.Name x p3) nm ap,.List pes lp] kt vp) env=pure none):
  b0 P fm W (.Assign [.Tuple [.Name y p1,.Attribute (.Name x p2) nm tp] ct ttp] (.Tuple [.Attribute (.Name x p3) nm ap,.List pes lp] kt vp) pos) (.takeAttr i c k (.var j) mes):=by
 intro cf n C A γ s env ae g fl ae' g' R I Er
 refine cC λu g1 e0=>gZ λv e1'=>cC λvs g2 e2=>gZ λg3 e3=>cE.of' (cu e1' λsl e1 hsl=>?_)
 obtain ⟨hj,hg⟩:=oU e0
 obtain ⟨m,hu,zz⟩:=jc e3
 have I:bP P γ s.heap g1:=hg.symm ▸ I
 intro Q Ex q
 have hkk:env.scope.kind=.function:=by rw [Er.sc]; exact Er.kind
 rw [exec_Assign_arm]
 refine ad (bp ?_)
 rw [hsw env]
 refine ad (af ?_)
 rw [if_neg (by decide)]
 obtain ⟨xv,rx,rsx⟩:=Er.get x j _ hx hj
 refine ad (wpAny_Tuple (args_cons (Attribute_any_ (wpAny_Name (cS hkk rx (ly Kn I rsx e1 hn λyv ro rsy zz=>?_)) (Er.nd x j hx).2) (ha env)) rfl))
 refine args_cons (wpAny_List (S cf n C A γ { s with toks:=s.toks+1 } env ae g1 vs g2 R I Er e2 lp _ Ex λxs γ1 h1 t1 f1 I1 E1 r1=>⟨by rw [r1.length,t9 e2]; exact sz _ hl,args_nil ⟨by show 2<=sizeLine; exact sz 2 (by decide),?_⟩⟩)) rfl
 rw [hst env]
 refine ad (af ?_)
 have gr1:∀ b o,h1.get? b=some o->(h1.push (gI xs)).get? b=some o:=λb o e=>ag _ e
 have gr2:∀ b o,(h1.push (gI xs)).get? b=some o->((h1.push (gI xs)).push (kM [yv,.ref h1.objs.size])).get? b=some o:=λb o e=>ag _ e
 have gr:∀ b o,h1.get? b=some o->((h1.push (gI xs)).push (kM [yv,.ref h1.objs.size])).get? b=some o:=λb o e=>gr2 b o (gr1 b o e)
 show wpAny _ _ (assignAll (.ref _) [assign (.Tuple _ ct ttp) env] >>= λzz=>pure Flow.next) _ _ _
 refine ad ?_
 show wpAny _ _ (assign (.Tuple _ ct ttp) env (.ref (h1.push (gI xs)).objs.size)) _ _ _
 refine wpAny_assign_Tuple (items:=#[yv,.ref h1.objs.size]) R.hd ⟨_,ah _ rfl,rfl,0,rfl⟩ rfl rfl λh4 k4=>?_
 have gr4:∀ b o,h1.get? b=some o->h4.get? b=some o:=λb o e=>k4 b o (cT (gr b o e)) (gr b o e)
 have hL:h4.get? h1.objs.size=some (gI xs):=by
  have h0:=ah h1 (o:=gI xs) rfl
  exact k4 _ _ (cT (gr2 _ _ h0)) (gr2 _ _ h0)
 have I4:=I1.grow gr4
 have E4:=E1.ev (Ev.grow gr4)
 have rsy:bT P γ s.heap ro (.val v) yv:=d5 hsl ▸ rsy
 have ry:bM P γ1 h4 v yv:=(bM.ev f1 rsy).ev (Ev.grow gr4)
 refine wpAny_assignInOrder_more (t:=assign (.Name y p1) env) (wpAny_assign_Name (dO (s:=(Sh s h4 t1)) (Pl:=cc env) (sl:=.val v) E4 I4 hy (qc.place E4 y (hk.imp id λh=>⟨rfl,h⟩)) ry λh5 t5 f5 I5 E5=>?_))
 refine wpAny_assignInOrder_more (t:=assign (.Attribute (.Name x p2) nm tp) env) ?_
 rw [assign_Attribute]
 have hj5:(ae.set i (some (.val v)))[j]?=some (some (.val u)):=by rw [dQ hij]; exact hj
 obtain ⟨xv5,rx5,rsx5⟩:=E5.get x j _ hx hj5
 refine ad (aH (wpAny_Name (cS (s:=(Sh s h5 t5)) hkk rx5 (ad (bp (ad (aH ?_))))) (Er.nd x j hx).2))
 have npL:¬ cc env h1.objs.size:=λhp=>by
  obtain ⟨o',ho',zz⟩:=E1.there hp
  rw [dm] at ho'; cases ho'
 have rL:γ1.role h1.objs.size=.other:=I1.role_new
 have hL5:=(f5.oth _ _ rL npL hL).2
 obtain ⟨f6,I6⟩:=I5.give (r:=.glob m (k+2)) rL (dB I1) (by rw [hL5]; rfl)
 refine sH (s:=(Sh s h5 t5)) Kn I6 (bM.evP f6 rsx5) e3 hn (λn' hn'=>?_) λh7 t7 f7 I7=>wpAny_release (wpAny_assignInOrder_none (af (q _ _ h7 t7 ?_ I7 (.nxt ?_))))
 ·cases hn'.symm.trans hu
  exact ⟨_,xs.toArray,rfl,cz,⟨0,hL5⟩,((r1.ev (Ev.grow gr4)).evP f5).evP f6⟩
 ·have f8:il (λa=>cc env a\/a=h1.objs.size) γ s.heap (γ1.put h1.objs.size (.glob m (k+2))) h7:=
   f1.es.trans ((Ev.grow gr4).es.trans ((f5.es.sub λa ha=>.inl (.inl ha)).trans ((f6.es.sub λa ha=>.inl (.inr ha)).trans f7.es)))
  exact f8.sub λa ha=>ha.imp id λq hr=>by subst q; exact f1.fresh _ rfl hr
 ·exact (E5.p f6 λa hp hq=>npL (hq ▸ hp)).ev f7
theorem og {x:Str}{p apos pos:Pos}{kx dx:Expr}{mk md:E}{w:Nat}{ks vs:List V}{g1 g2:G}{a b r:V}{ks' vs':List V}{Q:Value->Shared->Prop}(hx:fm.vis.lookup x=some w) (T:bE P fm kx mk) (U:bE P fm dx md)
  {pl:Env->Sem Bool}(he:cq (.Name x p) "setdefault" apos pos [kx,dx] pl) (h1:∀ env,starEach [kx,dx] env=(false,eval kx env)::starEach [dx] env) (h1':∀ env,starEach [dx] env=(false,eval dx env)::starEach [] env) (h2:dD [dx])
  (C:cx P cf n) (R:cU A n) (I:bP P γ s.heap g) (Er:bG P γ s.heap fm env ae) (e1:mk cf ae g=some (a,g1)) (e2:md cf ae g1=some (b,g2)) (hi:(c7 ae w).bind i5=some (ks,vs)) (e3:fT a b ks vs=some (r,(ks',vs')))
  (q:∀ z γ' h' tk,il Pl γ s.heap γ' h'->bP P γ' h' g2->bG P γ' h' fm env (ae.set w (some (.od ks' vs')))->bM P γ' h' r z->(∀ b o j,j≠w->γ.role b=.own j->s.heap.get? b=some o->γ'.role b=.own j/\h'.get? b=some o)->Q z (Sh s h' tk)):
  wpAny (model P.prog P.w) A (eval (.Call (.Attribute (.Name x p) "setdefault" apos) [kx,dx] [] pos) env) Q Ex s:=by
 obtain ⟨o,kx',vx',rv,ro,X,rk,rvs⟩:=tJ Er hx hi
 have hT:=bJ.typeIs X
 refine k7 PySem.F.plainAttrs_dict PySem.F.slot_dict_setdefault PySem.F.type_dict_setdefault he h1 h2 (wpAny_Name (cS (by rw [Er.sc]; exact Er.kind) rv ⟨hT,?_,?_⟩) (Er.nd x w hx).2)
 ·rintro b hb
  cases hb
  obtain ⟨o',zz,zz,ho,hc,zz⟩:=X
  exact ⟨o',ho,hc.2.1⟩
 ·refine args_cons (T.run C R I Er e1 λy γ1 h3 t3 f3 I3 E3 r3=>args_cons (U.run C R I3 E3 e2 λz γ2 h4 t4 f4 I4 E4 r4=>args_nil ?_) (h1' env)) (h1 env)
  have f:=f3.trans f4
  have X2:=X.steady (.inr ⟨w,ro⟩) f (rk.ev f)
  have ro2:=X.own f ro
  have rv2:dy env h4 x (.ref o):=rv.ev f Er.loc.1 (λx c e=>(Er.cel x c e).1)
  refine su (s:=(Sh s h4 t4)) (R.line (by decide)) (I4.notSys (by rw [ro2]; exact λq=>nomatch q)) X2 (rk.ev f) (rvs.ev f) (r3.ev f4) r4 e3 λz' h5 t5 rz ch=>?_
  obtain ⟨kx2,vx2,X3,ks3,rk3,rv3⟩:=ch
  refine q z' γ2 h5 t5 (f.es.trans (il.own ks3 ro2)) (I4.own ks3 ro2 X3.there) (E4.own hx (rK hi) ks3 ro2 (λv rw=>rw.inj rv2) ⟨o,kx2,vx2,rfl,ro2,X3,rk3.evO ks3 ro2,rv3.evO ks3 ro2⟩) (rz.evO ks3 ro2) λb o' j hj hb e=>?_
  obtain ⟨hb2,e2⟩:=f.own b o' j hb e
  exact ⟨hb2,ks3.extBut b o' (eF ro2 hb2 (λq=>hj (by cases q; rfl))) e2⟩
end
section
variable {P:Pm}{K:Frag}{γ γ':Gh}{h h':Heap}{fm:Fm}{env:Env}{ae:En}{g g':G}{A:Around}{s:Shared}{Ex:Value->Shared->Prop}{cf:Cf}{n:Nat}{W:Nat}{Pl:Addr->Prop}
theorem uD {x:Str}{p apos pos cpos:Pos}{kx dx rx:Expr}{mk md mr:E}{w:Nat}{ks vs:List V}{g1 g2 g3:G}{a b r z:V}{ks' vs':List V}{t:Bool}{Q:Bool->Shared->Prop}{whole:Sem Value}(hx:fm.vis.lookup x=some w) (T:bE P fm kx mk) (U:bE P fm dx md) (V:bE P fm rx mr)
  {pl:Env->Sem Bool}(he:cq (.Name x p) "setdefault" apos pos [kx,dx] pl) (h1:∀ env,starEach [kx,dx] env=(false,eval kx env)::starEach [dx] env) (h1':∀ env,starEach [dx] env=(false,eval dx env)::starEach [] env) (h2:dD [dx]) (hm:behindInMarks .NotEq rx=false)
  (C:cx P cf n) (R:cU A n) (I:bP P γ s.heap g) (Er:bG P γ s.heap fm env ae) (e1:mk cf ae g=some (a,g1)) (e2:md cf ae g1=some (b,g2)) (hi:(c7 ae w).bind i5=some (ks,vs)) (e3:fT a b ks vs=some (r,(ks',vs')))
  (e4:mr cf (ae.set w (some (.od ks' vs'))) g2=some (z,g3)) (e5:fU r z=some t)
  (q:∀ γ' h' tk,il Pl γ s.heap γ' h'->bP P γ' h' g3->bG P γ' h' fm env (ae.set w (some (.od ks' vs')))->Q (!t) (Sh s h' tk)):
  wpAny (model P.prog P.w) A (isTrue (.Compare (.Call (.Attribute (.Name x p) "setdefault" apos) [kx,dx] [] pos) [.NotEq] [rx] cpos) env whole) Q Ex s:=by
 refine wpAny_isTrue_Compare1 (og (Pl:=Pl) hx T U he h1 h1' h2 C R I Er e1 e2 hi e3 λy γ1 h3 t3 f3 I3 E3 r3 zz=>V.run C R I3 E3 e4 λy' γ2 h4 t4 f4 I4 E4 r4=>?_) hm
 exact wR R.k e5 (r3.ev f4).toK r4.toK (bl (q γ2 h4 t4 (f3.trans f4.es) I4 E4))
theorem b0.sdA {x:Str}{p apos pos cpos spos:Pos}{kx dx rx:Expr}{mk md mr:E}{w:Nat}{b:List Stmt}{m:List Mine.S}(hx:fm.vis.lookup x=some w) (T:bE P fm kx mk) (U:bE P fm dx md) (V:bE P fm rx mr) (B:bX P fm W b m)
  {pl:Env->Sem Bool}(he:cq (.Name x p) "setdefault" apos pos [kx,dx] pl) (h1:∀ env,starEach [kx,dx] env=(false,eval kx env)::starEach [dx] env) (h1':∀ env,starEach [dx] env=(false,eval dx env)::starEach [] env) (h2:dD [dx]) (hm:behindInMarks .NotEq rx=false:=by with_unfolding_all rfl):
  b0 P fm W (.If (.Compare (.Call (.Attribute (.Name x p) "setdefault" apos) [kx,dx] [] pos) [.NotEq] [rx] cpos) b [] spos) (.ifSetdef w mk md none mr none m):=by
 intro cf n C A γ s env ae g fl ae' g' R I Er
 refine cC λa g1 e1=>cC λd g2 e2=>cC λks vs hi=>xN λr ks' vs' e3=>gZ λu e6=>cC λz g3 e4=>gZ λt e5 e Q Ex q=>?_
 cases e6
 refine wpAny_If (uD (Pl:=cc env) hx T U V he h1 h1' h2 hm C R I Er e1 e2 hi e3 e4 e5 λγ1 h3 t3 f3 I3 E3=>?_)
 clear Er I T U V e1 e2 e3 e4 e5 g g1 g2 h1 h1' h2 he hi hm hx ks vs
 cases t with
 | false=>exact B cf n C A γ1 _ env _ g3 fl ae' g' R I3 E3 e Q Ex λf γ2 h4 t4 f4 I4 r4=>q f γ2 h4 t4 (f3.trans f4) I4 r4
 | true=>exact wpAny_execs_nil (q.of e _ γ1 h3 t3 f3 I3 (.nxt E3))
theorem b0.sdC {x:Str}{p apos pos cpos bpos spos:Pos}{kx dx rx ax:Expr}{mk md mr ma:E}{w:Nat}{b:List Stmt}{m:List Mine.S}(hx:fm.vis.lookup x=some w) (T:bE P fm kx mk) (U:bE P fm dx md) (V:bE P fm rx mr) (L:cZ P fm ax ma) (B:bX P fm W b m)
  {pl:Env->Sem Bool}(he:cq (.Name x p) "setdefault" apos pos [kx,dx] pl) (h1:∀ env,starEach [kx,dx] env=(false,eval kx env)::starEach [dx] env) (h1':∀ env,starEach [dx] env=(false,eval dx env)::starEach [] env) (h2:dD [dx]) (hm:behindInMarks .NotEq rx=false:=by with_unfolding_all rfl):
  b0 P fm W (.If (.BoolOp .Or [.Compare (.Call (.Attribute (.Name x p) "setdefault" apos) [kx,dx] [] pos) [.NotEq] [rx] cpos,ax] bpos) b [] spos) (.ifSetdef w mk md none mr (some ma) m):=by
 intro cf n C A γ s env ae g fl ae' g' R I Er
 refine cC λa g1 e1=>cC λd g2 e2=>cC λks vs hi=>xN λr ks' vs' e3=>gZ λu e6=>cC λz g3 e4=>gZ λt e5 e Q Ex q=>?_
 cases e6
 refine wpAny_If (wpAny_isTrue_BoolOp (wpAny_allTrue_Or_cons (uD (Pl:=cc env) hx T U V he h1 h1' h2 hm C R I Er e1 e2 hi e3 e4 e5 λγ1 h3 t3 f3 I3 E3=>?_)))
 clear Er I U V e1 e2 e3 e4 e5 g1 g2 h1 h1' h2 he hi hm hx ks vs
 cases t with
 | false=>exact B cf n C A γ1 _ env _ g3 fl ae' g' R I3 E3 e Q Ex λf γ2 h4 t4 f4 I4 r4=>q f γ2 h4 t4 (f3.trans f4) I4 r4
 | true=>
  have e:fu (ma cf (ae.set w (some (.od ks' vs'))) g3) (λb g=>cond b (dE W cf m (ae.set w (some (.od ks' vs'))) g) (some (.nxt,ae.set w (some (.od ks' vs')),g)))=some (fl,ae',g'):=e
  refine gO e λt g4 e6 e=>wpAny_allTrue_Or_cons (L cf n C A γ1 _ env _ g3 t g4 R I3 E3 e6 _ Ex λγ4 h4 t4 f4 I4 E4=>?_)
  clear E3 I3 L a e6 g
  cases t with
  | true=>exact B cf n C A γ4 _ env _ g4 fl ae' g' R I4 E4 e Q Ex λf γ5 h5 t5 f5 I5 r5=>q f γ5 h5 t5 (f3.trans (f4.es.trans f5)) I5 r5
  | false=>exact wpAny_allTrue_Or_nil (wpAny_execs_nil (q.of e _ γ4 h4 t4 (f3.trans f4.es) I4 (.nxt E4)))
theorem b0.sdB {x y:Str}{p py apos pos cpos sp spos:Pos}{kx dx rx:Expr}{mk md mr:E}{w i:Nat}{b:List Stmt}{m:List Mine.S}(hx:fm.vis.lookup x=some w) (hy:fm.vis.lookup y=some i) (hiw:i≠w) (T:bE P fm kx mk) (U:bE P fm dx md) (V:bE P fm rx mr) (B:bX P fm W b m)
  {pl:Env->Sem Bool}(hns:eZ (.Call (.Attribute (.Name x p) "setdefault" apos) [kx,dx] [] pos)) (he:cq (.Name x p) "setdefault" apos pos [kx,dx] pl) (h1:∀ env,starEach [kx,dx] env=(false,eval kx env)::starEach [dx] env) (h1':∀ env,starEach [dx] env=(false,eval dx env)::starEach [] env) (h2:dD [dx]) (hm:behindInMarks .NotEq rx=false:=by with_unfolding_all rfl):
  b0 P fm W (.If (.Compare (.Subscript (.Name y py) (.Call (.Attribute (.Name x p) "setdefault" apos) [kx,dx] [] pos) sp) [.NotEq] [rx] cpos) b [] spos) (.ifSetdef w mk md (some (.var i)) mr none m):=by
 intro cf n C A γ s env ae g fl ae' g' R I Er
 refine cC λa g1 e1=>cC λd g2 e2=>cC λks vs hi=>xN λr ks' vs' e3=>cC λu g3' e6=>cC λz g3 e4=>gZ λt e5 e Q Ex q=>?_
 refine dC e6 λd4 g4 e7 e8=>cu e7 λdd e9 e10=>cu e9 λsl hsl hsd=>cu e8 λy e11 e12=>cu e11 λo e13 e14=>bU e13 λhk2 e15=>?_
 clear e11 e13 e6 e7 e8 e9
 cases e10; cases e12
 cases (e14:o=some u)
 have hsl:=cX hsl
 rw [dQ (Ne.symm hiw)] at hsl
 obtain ⟨yv,ry,rsy⟩:=Er.get y i _ hy hsl
 clear hsl
 obtain ⟨o,kx2,vx2,rfl,hro,X,rk,rv⟩:=bN.dict rsy hsd
 refine wpAny_If (wpAny_isTrue_Compare1 (Subscript_ (wpAny_Name (cS (by rw [Er.sc]; exact Er.kind) ry (og (Pl:=cc env) hx T U he h1 h1' h2 C R I Er e1 e2 hi e3 λyk γ1 h3 t3 f3 I3 E3 r3 kw=>?_)) (Er.nd y i hy).2)) hm)
 have X3:=(X.to (r':=.other) (γ':=⟨λzz=>.other,γ.ga,γ.gn⟩) (h':=h3) (λob ho=>⟨rfl,hro.elim (λhro=>(kw o ob i hiw hro ho).2) λhro=>(f3.fro o ob hro ho).2⟩) (rk.es f3).toK).2
 refine eX (bJ.typeIs (s:=(Sh s h3 t3)) X3) slot_dict_getitem.lookup ⟨_,hns _ _⟩ ?_
 refine oS (s:=(Sh s h3 t3)) (R.line (by decide)) X3 (rv.es f3) hk2 r3.toK e15 λy' ry'=>?_
 refine V.run (s:=(Sh s h3 _)) C R I3 E3 e4 λy2 γ2 h4 t4 f4 I4 E4 r4=>?_
 refine wR R.k e5 (ry'.ev f4).toK r4.toK (bl ?_)
 clear E3 Er I I3 T U V X X3 e1 e15 e2 e3 e4 e5 g g1 h1 h1' h2 he hi hiw hk2 hm hns hro hsd hsl hx hy ks kw r3 r4 rk rsy rv ry ry' sl u vs vx2 y y' y2 yk
 cases t with
 | false=>exact B cf n C A γ2 _ env _ g3 fl ae' g' R I4 E4 e Q Ex λf γ5 h5 t5 f5 I5 r5=>q f γ5 h5 t5 (f3.trans (f4.es.trans f5)) I5 r5
 | true=>exact wpAny_execs_nil (q.of e _ γ2 h4 t4 (f3.trans f4.es) I4 (.nxt E4))
end
theorem u8:typeLookup (.type "list") (Str.ofString "keys")=pure none:=am_miss_of_fast (by decide +kernel)
section
variable {prog:Program}{w:World}{A:Around}{E:Value->Shared->Prop}{s:Shared}
theorem vm {a:Addr}{xs:Array Value}{k:Nat}{Q:Option Value->Shared->Prop}(hx:s.heap.get? a=some { cls:=.type "list",dict:=none,data:=.seq xs k,slots:=#[] }) (hA:A.handled=none)
  (h:∀ h' tk,(∀ b o,s.heap.get? b=some o->h'.get? b=some o)->Q none (Sh s h' tk)):wpAny (model prog w) A (getAttr? (.ref a) "keys") Q E s:=by
 obtain ⟨hp,g,d,tk,os⟩:=s
 have hT:∀ tk',(⟨hp,g,d,tk',os⟩:Shared).TypeIs (.ref a) "list":=λzz=>⟨_,hx,rfl⟩
 have f1:=sub_AttributeError
 have f3:=PySem.F.slot_list_getattribute.lookup
 have f4:=PySem.F.slot_list_getattribute.bind (.ref a)
 have f5:=am_list_getattr_none
 unfold getAttr? getAttrBy? getAttrBy
 repeat (any_goals (first | assumption | exact hT _ | ((with_reducible show wpAny _ _ (call (Value.builtin "list.__getattribute__") _ _) _ _ _); refine call_meets PySem.F.slot_list_getattribute (hT _) am_entry_list_getattribute (PySem.F.args_list_getattribute_2 _ _) (meets_getattribute_miss_list a xs k #[] (Str.ofString "keys") _ u8 (by decide +kernel) (by rw [sizeLine_eq]; decide)) ⟨hx,hA,λh' tk' e hx'=>?_⟩) | wp_step))
 obtain ⟨t',u',he⟩:=hx'.there
 show wpAny _ _ (getattributeRaised _ _ _ _ _ _ _) _ _ _
 unfold getattributeRaised
 repeat (any_goals (first | assumption | wp_step))
 exact h _ _ hx'.keeps
end
theorem gX:entryFor table "dict.update.loop"=some Builtin.«dict.update.loop»:=entryFor_of_tree (by kernel_rfl)
theorem dW:plainId "dict.update.loop"=true:=by decide +kernel
section
variable {P:Pm}{K:Frag}{γ γ':Gh}{h h':Heap}{fm:Fm}{env:Env}{ae:En}{g g':G}{A:Around}{s:Shared}{Ex:Value->Shared->Prop}{cf:Cf}{n:Nat}{W:Nat}{Pl:Addr->Prop}
theorem iH {x:V}{r:List V}{d e:List V × List V}(h:di (x::r) d=some e):∃ k v,x=.tup [k,v]/\(gc k=true\/skey k=true)/\di r (db k v d.1 d.2)=some e:=
 dC h λk v hp h=>bU h λhk h=>⟨k,v,iO hp,Bool.or_eq_true_iff.mp hk,h⟩
theorem lr {k v:V}:∀ {ks vs:List V},∀ x∈ks,x∈(db k v ks vs).1
 | y::ys,vs,x,hx=>by
  unfold db
  split
  ·exact hx
  ·simp only
   rcases az.mp hx with rfl | hx
   ·exact aa
   ·exact ai _ (lr x hx)
 | [],_,x,hx=>by cases hx
theorem pT {k v:V}:∀ {ks vs:List V},(db k v ks vs).1.length<=ks.length+1
 | [],_=>by simp [db]
 | y::ys,vs=>by
  unfold db
  split
  ·simp
  ·simp only [aO]
   have:=pT (k:=k) (v:=v) (ks:=ys) (vs:=vs.tail)
   lia
set_option tactic.hygienic true in
theorem qK {k v:V}:∀ {ks vs:List V},(∃ x∈ks,fU x k=some true)\/k∈(db k v ks vs).1
 | [],_=>.inr (by simp [db])
 | y::ys,vs=>by
  unfold db
  split
  ·rename_i h; exact .inl ⟨y,aa,h⟩
  ·rcases qK (k:=k) (v:=v) (ks:=ys) (vs:=vs.tail) with ⟨x,hx,e⟩ | h
   ·exact .inl ⟨x,ai _ hx,e⟩
   ·exact .inr (ai _ h)
theorem ff:∀ {l:List V}{d e:List V × List V},di l d=some e->∀ x∈d.1,x∈e.1
 | [],d,e,h,x,hx=>by cases h; exact hx
 | y::ys,d,e,h,x,hx=>by
  obtain ⟨k,v,rfl,zz,h⟩:=iH h
  exact ff h x (lr x hx)
theorem ku {y z:V}(h1:gc y=true) (h2:skey z=true):fU y z≠some true/\fU z y≠some true:=by
 obtain ⟨zz,zz,zz,zz,rfl,zz⟩:=gp h1
 obtain ⟨zz,rfl⟩:=iS h2
 exact ⟨(λq=>no q),λq=>no q⟩
theorem qB {k v:V}{r:List V}{d e:List V × List V}(h:di r (db k v d.1 d.2)=some e) (hk:gc k=true\/skey k=true) (ha:qk e.1=true):de d.1 k=true:=by
 have hsub:∀ x∈d.1,x∈e.1:=λx hx=>ff h x (lr x hx)
 have dA:=(qK (k:=k) (v:=v) (ks:=d.1) (vs:=d.2)).imp_left λ⟨x,hx,hxe⟩=>And.intro (hsub x hx) hxe |> Exists.intro x
 rcases (Bool.or_eq_true_iff.mp ha) with ha | ha
 ·have ha:=aG.mp ha
  have hk:gc k=true:=hk.elim id λhk=>dA.elim (λ⟨x,hx,hxe⟩=>absurd hxe (ku (ha x hx) hk).1) λhin=>ha k (ff h k hin)
  rw [de,hk,aG.mpr λx hx=>ha x (hsub x hx)]; rfl
 ·have ha:=aG.mp ha
  have hk:skey k=true:=hk.elim (λhk=>dA.elim (λ⟨x,hx,hxe⟩=>absurd hxe (ku hk (ha x hx)).2) λhin=>ha k (ff h k hin)) id
  rw [de,hk,aG.mpr λx hx=>ha x (hsub x hx),Bool.and_self,Bool.or_true]
theorem vy {d J:Addr}{ks' vs':List V}{R:Result->Shared->Prop}(hh:A.handled=none) (hu:A.units+60 < cLine) (hJ:γ.role J=.other) (hJ0:P.h0.get? J=none) (hd:γ.role d=.other) (hd0:P.h0.get? d=none) (hne:d≠J) (ha:qk ks'=true):
  ∀ (xs ks vs:List V) (kx vx:List Value) (s:Shared) (i:Int) (t:Tok),bP P γ s.heap g->fj P γ s.heap J xs->bJ P s.heap d ks kx vx->bI P γ s.heap ks kx->bI P γ s.heap vs vx->di xs (ks,vs)=some (ks',vs')->ks.length+xs.length<=lim ->
   (∀ h' tk kx' vx',dw (λa=>a=d\/a=J) γ s.heap γ h'->bP P γ h' g->bJ P h' d ks' kx' vx'->bI P γ h' ks' kx'->bI P γ h' vs' vx'->R (.ok (.ret .none)) (Sh s h' tk)) ->
   codeAny (model P.prog P.w) A (.builtin "dict.update.loop" ⟨[.ref d,.ref J,.int i t,.none],[]⟩) R s:=by
 intro xs
 induction xs with
 | nil=>
  intro ks vs kx vx s i t I b X rk rv e hl q
  cases e
  refine codeAny_builtin gX ?_
  rw [Around.under_plainId dW _]
  show wpAny _ A.in1 (pyNext (.ref J) >>= _) _ _ s
  refine ad (b.done hh λh1 t1 ke=>?_)
  have f:=dw.ext (Pl:=λa=>a=d\/a=J) ke hJ (.inr rfl)
  refine ad (m:=Builtin.Dict.addKeywords d []) (af (af (q h1 t1 kx vx f (I.ext ke hJ hJ0) ?_ (rk.evP f) (rv.evP f))))
  exact (X.to (r':=.other) (γ':=γ) (λo ho=>⟨hd,ke d o hne ho⟩) (rk.evP f).toK).2
 | cons x xs ih=>
  intro ks vs kx vx s i t I b X rk rv e hl q
  obtain ⟨k,v,rfl,hk,e⟩:=iH e
  have hko:de ks k=true:=qB (d:=(ks,vs)) e hk ha
  refine codeAny_builtin gX ?_
  rw [Around.under_plainId dW _]
  show wpAny _ A.in1 (pyNext (.ref J) >>= _) _ _ s
  refine ad (b.next hJ λy h1 t1 ry ke b1=>?_)
  have f:=dw.ext (Pl:=λa=>a=d\/a=J) ke.extBut hJ (.inr rfl)
  have I1:=I.ext ke.extBut hJ hJ0
  have X1:=(X.to (r':=.other) (γ':=γ) (λo ho=>⟨hd,ke.extBut d o hne ho⟩) (rk.evP f).toK).2
  cases (ry.evP f).pairI with | @mk T its kv vv rT tT e1 rk1 rv1=>
  dsimp only
  refine ad (aH (ad ?_))
  refine wpAny_tryCatch ?_
  unfold Builtin.Dict.pairItems
  have hTT:((Sh s h1 t1):Shared).TypeIs (.ref T) "tuple":=tT.typeIs (s:=(Sh s h1 t1))
  refine ad (wpAny_typeOf hTT ?_)
  rw [if_pos (by decide)]
  obtain ⟨oT,hoT,zz,nT,hdT⟩:=tT
  refine ad (wpAny_seqItems (s:=(Sh s h1 t1)) hoT hdT (af ?_))
  rw [Option.getD_some,e1]
  dsimp only
  refine aH ?_
  refine ml (A:=A.in1) (s:=(Sh s h1 t1)) (aI (bu (by decide:41<=60) _) hu) X1 (rk.evP f) (rv.evP f) hko (br (Nat.lt_add_of_pos_right (Nat.succ_pos _)) hl) rk1 rv1 λh2 t2 ch=>?_
  obtain ⟨kx2,vx2,X2,ks2,rk2,rv2⟩:=ch
  have f2:=dw.but (Pl:=λa=>a=d\/a=J) ks2 hd (.inl rfl)
  refine af ⟨plainId_quiet dW _,?_⟩
  refine ih _ _ kx2 vx2 (Sh s h2 t2) (i+1) 0 (I1.but ks2 hd hd0) (b1.keep (λo ho=>ks2.extBut J o (Ne.symm hne) ho) f2.fro f2.gn f2.ga) X2 (rk2.evP f2) (rv2.evP f2) e (aj (bB pT _) (by rw [Nat.add_assoc,Nat.add_comm 1]; exact hl)) λh3 t3 kx3 vx3 f3 I3 X3 r3 r4=>q h3 t3 kx3 vx3 (f.trans (f2.trans f3)) I3 X3 r3 r4
end
section
variable {P:Pm}{K:Frag}{γ γ':Gh}{h h':Heap}{fm:Fm}{env:Env}{ae:En}{g g':G}{A:Around}{s:Shared}{Ex:Value->Shared->Prop}{cf:Cf}{n:Nat}{W:Nat}{Pl:Addr->Prop}
theorem ph {l:Addr}{its:Array Value}{xs ks' vs':List V}{Q:Value->Shared->Prop}(hh:A.handled=none) (hu:A.units+70 < cLine) (I:bP P γ s.heap g) (hr:γ.role l=.frozen) (ti:s.heap.PlainList l its) (li:bI P γ s.heap xs its.toList)
  (e:di xs ([],[])=some (ks',vs')) (ha:qk ks'=true) (hlen:xs.length<=lim)
  (q:∀ h' tk kx vx,Ev γ s.heap γ h'->bP P γ h' g->γ.role s.heap.objs.size=.other->bJ P h' s.heap.objs.size ks' kx vx->bI P γ h' ks' kx->bI P γ h' vs' vx->Q (.ref s.heap.objs.size) (Sh s h' tk)):
  wpAny (model P.prog P.w) A (call (.type "dict") [.ref l]) Q Ex s:=by
 refine callType_codes (Q₁:=λobj s₁=>obj=.ref s.heap.objs.size/\s₁=(ey s (s.heap.push { cls:=.type "dict",data:=.dict #[] }))) PySem.F.kt_called_dict (PySem.F.kt_typeCall_dict_1 _) PySem.F.entry_dict_init (kt_code_dict_new _ ⟨rfl,rfl⟩) ?_
 rintro obj s₁ ⟨rfl,rfl⟩
 have gr1:∀ b o,s.heap.get? b=some o->(s.heap.push emptyDict).get? b=some o:=λb o e=>ag _ e
 have hD:(s.heap.push emptyDict).get? s.heap.objs.size=some emptyDict:=ah _ rfl
 have hT:((ey s (s.heap.push emptyDict)):Shared).TypeIs (.ref s.heap.objs.size) "dict":=⟨_,hD,rfl⟩
 refine ⟨hT,PySem.F.args_dict_init_2 _ _,?_⟩
 unfold Builtin.«dict.__init__»
 refine ad ?_
 unfold Builtin.Dict.selfAndRest
 refine ad (wpAny_notOrdered_dict hT ?_)
 show wpAny _ _ (pure (s.heap.objs.size,[Value.ref l])) _ _ _
 refine af ?_
 show wpAny _ _ (Builtin.Dict.updateFrom "dict.__init__" s.heap.objs.size (.ref l) [] .none) _ _ _
 unfold Builtin.Dict.updateFrom
 have ti1:(s.heap.push emptyDict).PlainList l its:=PlainList.push ti _
 have hTl:((ey s (s.heap.push emptyDict)):Shared).TypeIs (.ref l) "list":=let ⟨k,ho⟩:=ti1; ⟨_,ho,rfl⟩
 refine ad (wpAny_typeOf hTl ?_)
 rw [if_pos (by decide)]
 obtain ⟨k,ho⟩:=ti1
 refine ad (vm (s:=(ey s (s.heap.push emptyDict))) ho hh λh2 t2 gr2=>?_)
 have gr12:∀ b o,s.heap.get? b=some o->h2.get? b=some o:=λb o e=>gr2 b o (gr1 b o e)
 rw [if_pos (by rfl)]
 refine ad (wpAny_rule (ad ?_))
 have ti2:h2.PlainList l its:=⟨k,gr2 _ _ ho⟩
 refine wpAny_pyIter_list ti2.isList ?_
 have gr3:∀ b o,h2.get? b=some o->(h2.push { cls:=.type "list_iterator",data:=.fields #[.ref l,.int 0 0] }).get? b=some o:=λb o e=>ag _ e
 generalize hh3:h2.push { cls:=.type "list_iterator",data:=.fields #[.ref l,.int 0 0] }=h3 at gr3
 have hJ:h3.get? h2.objs.size=some { cls:=.type "list_iterator",data:=.fields #[.ref l,.int 0 0] }:=by rw [← hh3]; exact ah _ rfl
 have gr:∀ b o,s.heap.get? b=some o->h3.get? b=some o:=λb o e=>gr3 b o (gr12 b o e)
 have I3:bP P γ h3 g:=I.grow gr
 have li3:=li.ev (Ev.grow gr)
 have rD:γ.role s.heap.objs.size=.other:=I.role_new
 have rJ:γ.role h2.objs.size=.other:=(I.grow gr12).role_new
 have hne:s.heap.objs.size≠h2.objs.size:=cT (gr2 _ _ hD)
 have hb:fj P γ h3 h2.objs.size xs:=by
  have b:=fj.list (P:=P) (γ:=γ) (h:=h3) (I:=h2.objs.size) (i:=0) hr ⟨_,hJ,rfl,rfl⟩ ⟨k,gr3 _ _ (gr2 _ _ ho)⟩ li3
  rwa [List.drop_zero] at b
 refine af ⟨plainId_quiet dW _,?_⟩
 refine vy (A:=A.in1) (s:=(Sh s h3 t2)) (g:=g) hh (aI (bu (by decide:61<=70) _) hu) rJ (dB (I.grow gr12)) rD (dB I) hne ha xs [] [] [] [] 0 0 I3 hb ⟨_,#[],0,gr3 _ _ (gr2 _ _ hD),⟨rfl,rfl,rfl⟩,rfl,.nil,List.nodup_nil,rfl⟩ .nil .nil e ((Nat.zero_add _).symm ▸ hlen) λh4 t4 kx vx f4 I4 X4 r4 r5=>⟨rfl,?_⟩
 refine q h4 t4 kx vx ?_ I4 rD X4 r4 r5
 refine ((Ev.grow gr).p.trans f4).ev λa ha' hra=>?_
 clear I I3 I4 X4 f4 gr gr1 gr2 gr3 hD hJ hT hTl ha hb hh hlen hne ho hr hra hu k li li3 q r4 r5 rD rJ t2 t4 ti ti2 vx
 rcases ha' with rfl | rfl
 ·exact dm _
 ·clear h4 kx
  cases e:s.heap.get? h2.objs.size with
  | none=>rfl
  | some o=>have:=gr12 _ _ e; rw [dm] at this; cases this
end
section
variable {P:Pm}{K:Frag}{γ γ':Gh}{h h':Heap}{fm:Fm}{env:Env}{ae:En}{g g':G}{A:Around}{s:Shared}{Ex:Value->Shared->Prop}{cf:Cf}{n:Nat}{W:Nat}{Pl:Addr->Prop}
theorem l9 {x:Str}{p pos:Pos}{pe:Expr}{me:E}{v:V}{ks vs:List V}{ro:cQ}{Q:Value->Shared->Prop}(r:jE P fm x (.type "dict")) (S:bE P fm pe me) (he:∀ env,starEach [pe] env=(false,eval pe env)::starEach [] env)
  (C:cx P cf n) (R:cU A n) (I:bP P γ s.heap g) (Er:bG P γ s.heap fm env ae) (e1:me cf ae g=some (v,g')) (e:pY v=some (ks,vs))
  (q:∀ a kx vx γ' h' tk,Ev γ s.heap γ' h'->bP P γ' h' g'->bG P γ' h' fm env ae->γ'.role a=ro->bJ P h' a ks kx vx->bI P γ' h' ks kx->bI P γ' h' vs vx->Q (.ref a) (Sh s h' tk)):
  wpAny (model P.prog P.w) A (eval (.Call (.Name x p) [pe] [] pos) env) Q Ex s:=by
 refine gv r (.inr ⟨_,rfl⟩) S he C R I Er e1 λy γ1 h1 t1 f1 I1 E1 r1=>?_
 refine cu e λxs hx e2=>bU e2 λhl e2=>cu e2 λd' e2 e3=>bU e3 λha e3=>?_
 cases e3
 cases (r1.lst hx).lstI with | @mk l its rl tl ll=>
 refine ph (s:=(Sh s h1 t1)) R.hd (R.line (by decide)) I1 rl tl ll e2 ha hl λh2 t2 kx vx f2 I2 rD X rk rv=>?_
 obtain ⟨f3,I3⟩:=I2.give (r:=ro) rD (dB I1) X.there
 have f4:Ev γ1 h1 (γ1.put h1.objs.size ro) h2:=(f2.p.trans f3).ev λa ha zz=>by subst ha; exact dm _
 exact q _ kx vx _ h2 t2 (f1.trans f4) I3 (E1.ev f4) cz (X.to (γ':=γ1.put h1.objs.size ro) (r':=ro) (λo ho=>⟨cz,ho⟩) (rk.evP f3).toK).2 (rk.evP f3) (rv.evP f3)
theorem bE.dictOf {x:Str}{p pos:Pos}{pe:Expr}{me:E}(r:jE P fm x (.type "dict")) (S:bE P fm pe me) (he:∀ env,starEach [pe] env=(false,eval pe env)::starEach [] env):bE P fm (.Call (.Name x p) [pe] [] pos) (.dictOf me):=by
 intro cf n C A γ s env ae g v g' R I Er e
 refine zV e λx e1 e2=>cu e2 λd e2 e3=>cb.v e3 ?_
 intro Q Ex q
 exact l9 (ro:=.frozen) r S he C R I Er e1 e2 λa kx vx γ1 h1 t1 f1 I1 E1 ra X rk rv=>q _ γ1 h1 t1 f1 I1 ⟨a,kx,vx,rfl,ra,X,rk,rv⟩
theorem b0.ownDictOf {y x:Str}{py p pos cp:Pos}{pe:Expr}{me:E}{i:Nat}(hy:fm.vis.lookup y=some i) (hk:fm.sc.names.lookup y=some .local\/fm.sc.names.lookup y=some .cell) (r:jE P fm x (.type "dict")) (S:bE P fm pe me)
  (he:∀ env,starEach [pe] env=(false,eval pe env)::starEach [] env):b0 P fm W (.Assign [.Name y py] (.Call (.Name x p) [pe] [] cp) pos) (.ownDictOf i me):=by
 intro cf n C A γ s env ae g fl ae' g' R I Er
 refine cC λv g1 e1=>cC λks vs e2=>cE.of' ?_
 intro Q Ex q
 exact wpAny_Assign_Name (l9 (ro:=.own i) r S he C R I Er e1 e2 λa kx vx γ1 h1 t1 f1 I1 E1 ra X rk rv=>dO (Pl:=cc env) (sl:=.od ks vs) E1 I1 hy (qc.place E1 y (hk.imp id λh=>⟨rfl,h⟩)) ⟨a,kx,vx,rfl,ra,X,rk,rv⟩ λh2 t2 f2 I2 E2=>
  q _ γ1 h2 t2 (f1.es.trans f2.es) I2 (.nxt E2))
end
section
variable {P:Pm}{K:Frag}{γ γ':Gh}{h h':Heap}{fm:Fm}{env:Env}{ae:En}{g g':G}{A:Around}{s:Shared}{Ex:Value->Shared->Prop}{cf:Cf}{n:Nat}{W:Nat}{Pl:Addr->Prop}
theorem uY (t:String):Str.empty++Str.ofString "made"++Str.ofString t=Str.ofString ("made"++t):=by
 rw [Str.ofString_eq_toList "made",Str.ofString_eq_toList t,Str.ofString_eq_toList ("made"++t)]
 show Str.mk ((#[]++_)++_)=Str.mk _
 rw [String.toList_append,List.map_append]
 congr 1
 simp
theorem vk {k:Int}(h0:0<=k) (h:k < 1000000):k.natAbs < 2 ^ 20:=by lia
theorem vq {k:Int}(h:0<=k/\k < 1000000):k.natAbs.log2 < 1920:=by
 by_cases h0:k.natAbs=0
 ·rw [h0]; decide
 ·exact Nat.lt_trans ((Nat.log2_lt h0).mpr (vk h.1 h.2)) (by decide)
theorem yC {k:Int}(h0:0<=k) (h:k < 1000000):(Str.empty++Str.ofString "made"++Str.ofString (toString k)).length<=sizeLine:=by
 rw [strLen_append,strLen_append,PySem.ofString_length]
 exact aj (bu (toString_length_le h0 (k:=6) (by decide) (Int.lt_of_lt_of_le h (by decide))) _) (sz _ (by decide))
theorem bE.fmade {pe:Expr}{me:E}{j:Nat}{p1 p2 pos:Pos}(S:bE P fm pe me):bE P fm (.JoinedStr [.Constant (.str (Str.ofString "made")) j p1,.FormattedValue pe (-1) Option.none p2] pos) (.fmade me):=by
 intro cf n C A γ s env ae g v g' R I Er
 refine B9 λx0 e1=>gZ λk ek=>c9 λhk=>cb.v' ?_
 intro Q Ex q
 refine wpAny_JoinedStr ?_
 show Joins _ _ _ [eval _ env,eval _ env] _ _ _
 refine wpAny_Constant_str ⟨_,_,rfl,by rw [sizeLine_eq]; decide,?_⟩
 refine wpAny_FormattedValue_plain (S.run (s:={ s with toks:=s.toks+1 }) C R I Er e1 λx γ1 h1 t1 f1 I1 E1 r1=>?_)
 obtain ⟨t,rfl⟩:=r1.int ek
 have hlen:=yC hk.1 hk.2
 refine wpAny_formatField_int (vq hk) ⟨_,_,rfl,hlen,hlen,?_⟩
 exact q _ γ1 h1 _ f1 I1 ⟨t1+1+1,by rw [uY]⟩
end
section
variable {prog:Program}{w:World}{A:Around}{E:Value->Shared->Prop}{s:Shared}
theorem dk {it l:Addr}{i:Nat}{items:Array Value}{x:Value}{Q:Value->Shared->Prop}(hit:s.heap.IsTupleIter it l i) (hl:s.heap.IsTuple l items) (hx:items[i]?=some x)
  (hQ:∀ h',h'.IsTupleIter it l (i+1)->Heap.SameBut it s.heap h'->Q x (ey s h')):wpAny (model prog w) A (Builtin.SmallTypes.nextOf (.ref it)) Q E s:=by
 obtain ⟨o,ho,hc,hd⟩:=id hit
 obtain ⟨ol,hol,zz,nl,hdl⟩:=hl
 unfold Builtin.SmallTypes.nextOf
 refine ad (bc (name:=Str.ofString "__next__") hit.typeIs PySem.F.slot_tuple_iterator_next
  (aL PySem.F.slot_tuple_iterator_next hit.typeIs PySem.F.entry_tuple_iterator_next ?_ (PySem.F.args_tuple_iterator_next_1 _)))
 show wpAny _ _ (field (.ref it) 0 >>= _) _ _ s
 refine ad (bf ho hd (x:=.ref l) rfl ?_)
 show wpAny _ _ (if (Value.ref l == Value.none)=true then _ else _) _ _ s
 rw [if_neg (show ¬ ((Value.ref l == Value.none)=true) from aF)]
 show wpAny _ _ (field (.ref it) 1 >>= _) _ _ s
 refine ad (bf ho hd (x:=.int i 0) rfl ?_)
 show wpAny _ _ (seqItems? (.ref l) >>= _) _ _ s
 refine ad (wpAny_seqItems hol hdl ?_)
 simp only [Int.toNat_natCast,hx]
 refine ad (wpAny_setField ho hd (by simp) (af ⟨x,rfl,af (hQ _ ?_ (bb ..))⟩))
 exact ⟨_,aX _ ho (Obj.isFreed_of_fields (Obj.data_mapFields hd _)),(Obj.cls_mapFields ..).trans hc,by
  rw [Obj.data_mapFields hd]; simp [rawInt]⟩
theorem iW {Q:Fin->Shared->Prop}(hh:A.handled=none) (hE:∀ o1 o2 e,(∃ o,((s.heap.push o1).push o2).get? e=some o/\o.cls=.type "StopIteration")->E (.ref e) (ey s ((s.heap.push o1).push o2))):
  wpAny (model prog w) A (newExc (.type "StopIteration") [] >>= raiseNew) Q E s:=by
 refine ad ?_
 simp -iota only [newExc,newTuple]
 refine ad (aV ?_ (by size_fits))
 refine ad (m:=firstArgMember _ _) (wpAny_of_eq (a:=Value.none) (by first | rfl | (simp -iota only [firstArgMember]; rfl)) ?_)
 refine aV ?_ (by size_fits)
 unfold raiseNew
 refine ad (wpAny_handled ?_)
 rw [hh]
 refine ad (af (wpAny_throw ?_))
 exact hE _ _ _ ⟨_,ah _ rfl,rfl⟩
theorem fE {it l:Addr}{i:Nat}{items:Array Value}{Q:Value->Shared->Prop}(hh:A.handled=none) (hit:s.heap.IsTupleIter it l i) (hl:s.heap.IsTuple l items) (hx:items[i]?=none)
  (hE:∀ h' e,Heap.ExtBut it s.heap h'->(∃ o,h'.get? e=some o/\o.cls=.type "StopIteration")->E (.ref e) (ey s h')):
  wpAny (model prog w) A (Builtin.SmallTypes.nextOf (.ref it)) Q E s:=by
 obtain ⟨o,ho,hc,hd⟩:=id hit
 obtain ⟨ol,hol,zz,nl,hdl⟩:=hl
 unfold Builtin.SmallTypes.nextOf
 refine ad (bc (name:=Str.ofString "__next__") hit.typeIs PySem.F.slot_tuple_iterator_next
  (aL PySem.F.slot_tuple_iterator_next hit.typeIs PySem.F.entry_tuple_iterator_next ?_ (PySem.F.args_tuple_iterator_next_1 _)))
 show wpAny _ _ (field (.ref it) 0 >>= _) _ _ s
 refine ad (bf ho hd (x:=.ref l) rfl ?_)
 show wpAny _ _ (if (Value.ref l == Value.none)=true then _ else _) _ _ s
 rw [if_neg (show ¬ ((Value.ref l == Value.none)=true) from aF)]
 show wpAny _ _ (field (.ref it) 1 >>= _) _ _ s
 refine ad (bf ho hd (x:=.int i 0) rfl ?_)
 show wpAny _ _ (seqItems? (.ref l) >>= _) _ _ s
 refine ad (wpAny_seqItems hol hdl ?_)
 simp only [Int.toNat_natCast,hx]
 refine ad (wpAny_rule (ad (wpAny_setField ho hd (by simp) ?_)))
 show wpAny _ _ (newExc (.type "StopIteration") [] >>= _) _ _ _
 exact iW hh λzz zz zz x=>hE _ _ (((bb ..).extBut.push _).push _) x
theorem ve {e it l:Addr}{i:Nat}{items:Array Value}{x old:Value}{Q:Option Value->Shared->Prop}(he:IsEnum s.heap e it i old) (hit:s.heap.IsTupleIter it l i) (hl:s.heap.IsTuple l items) (hx:items[i]?=some x) (hne:e≠it)
  (hQ:∀ h',IsEnumOut h' e it ((i:Int)+1) x s.heap.objs.size->h'.IsTupleIter it l (i+1) ->
   h'.get? s.heap.objs.size=some { cls:=.type "tuple",data:=.seq #[.int i s.toks,x] } ->
   (∀ b o,b≠e->b≠it->s.heap.get? b=some o->h'.get? b=some o)->Q (some (.ref s.heap.objs.size)) (Sh s h' (s.toks+1))):
  wpAny (model prog w) A (pyNext (.ref e)) Q E s:=by
 have hT:s.TypeIs (.ref e) "enumerate":=⟨_,he,rfl⟩
 unfold pyNext
 refine ad (wpAny_attempt (bc (name:=Str.ofString "__next__") hT PySem.F.slot_enumerate_next
  (aL PySem.F.slot_enumerate_next hT PySem.F.entry_enumerate_next ?_ (PySem.F.args_enumerate_next_1 _))))
 obtain ⟨hp,g,d,tk,os⟩:=s
 show wpAny _ _ (field (.ref e) 2 >>= _) _ _ _
 refine ad (bf he rfl (x:=.ref it) rfl ?_)
 refine ad (dk hit hl hx λh₁ hit₁ hs₁=>?_)
 replace hs₁:Heap.SameBut it hp h₁:=hs₁
 have he₁:IsEnum h₁ e it i old:=(hs₁.2 e hne).trans he
 show wpAny _ _ (field (.ref e) 3 >>= _) _ _ ⟨h₁,g,d,tk,os⟩
 refine ad (bf he₁ rfl (x:=rawInt i) rfl ?_)
 show wpAny _ _ (field (.ref e) 4 >>= _) _ _ ⟨h₁,g,d,tk,os⟩
 refine ad (bf he₁ rfl (x:=.none) rfl ?_)
 show wpAny _ _ (mkInt i >>= _) _ _ ⟨h₁,g,d,tk,os⟩
 refine ad (wpAny_mkInt ?_)
 show wpAny _ _ (setField (.ref e) 3 (rawInt ((i:Int)+1)) >>= _) _ _ ⟨h₁,g,d,tk+1,os⟩
 refine ad (bv he₁ (by simp) λh₂ he₂ hs₂=>?_)
 replace hs₂:Heap.SameBut e h₁ h₂:=hs₂
 replace he₂:IsEnum h₂ e it ((i:Int)+1) old:=he₂
 show wpAny _ _ (setField (.ref e) 4 .none >>= _) _ _ ⟨h₂,g,d,tk+1,os⟩
 refine ad (bv he₂ (by simp) λh₃ he₃ hs₃=>?_)
 replace hs₃:Heap.SameBut e h₂ h₃:=hs₃
 replace he₃:IsEnum h₃ e it ((i:Int)+1) old:=he₃
 show wpAny _ _ (newTuple [.int i tk,x] >>= _) _ _ ⟨h₃,g,d,tk+1,os⟩
 refine ad (wpAny_newTuple ?_)
 have he₄:IsEnum (h₃.push { cls:=.type "tuple",data:=.seq #[.int i tk,x] }) e it ((i:Int)+1) old:=ag _ he₃
 generalize hh₄:h₃.push { cls:=.type "tuple",data:=.seq #[.int i tk,x] }=h₄ at he₄
 have hsz:h₃.objs.size=hp.objs.size:=by rw [hs₃.1,hs₂.1,hs₁.1]
 have hel:e < hp.objs.size:=Heap.lt_size he
 have ht₄:h₄.get? hp.objs.size=some { cls:=.type "tuple",data:=.seq #[.int i tk,x] }:=by rw [← hh₄,← hsz]; exact ah _ rfl
 have hk₄:∀ b o,b≠e->b≠it->hp.get? b=some o->h₄.get? b=some o:=λb o hbe hbi hb=>by
  rw [← hh₄]; exact ag _ (hs₃.extBut b o hbe (hs₂.extBut b o hbe (hs₁.extBut b o hbi hb)))
 have hit₄:h₄.IsTupleIter it l (i+1):=by
  rw [← hh₄]; obtain ⟨o,ho,r⟩:=(hit₁.extBut hs₂.extBut (Ne.symm hne)).extBut hs₃.extBut (Ne.symm hne); exact ⟨o,ag _ ho,r⟩
 show wpAny _ _ (Builtin.SmallTypes.ownedTupleIsFree (.ref e) >>= _) _ _ ⟨h₄,g,d,tk+1,os⟩
 rw [hsz]
 clear hh₄ he₃ hs₃ he₂ hs₂ he₁ hs₁ hit₁ hsz h₃ h₂ h₁
 refine ad ?_
 ·unfold Builtin.SmallTypes.ownedTupleIsFree
  refine ad (bf he₄ rfl (x:=.none) rfl (af ?_))
  simp -iota only [if_true]
  refine ad (wpAny_rule ?_)
  refine ad (bf he₄ rfl (x:=old) rfl ?_)
  refine ad (bv he₄ (by simp) λh₅ he₅ hs₅=>?_)
  replace hs₅:Heap.SameBut e h₄ h₅:=hs₅
  replace he₅:IsEnum h₅ e it ((i:Int)+1) x:=he₅
  show wpAny _ _ (Builtin.SmallTypes.ownedTupleHandOut (.ref e) (.ref hp.objs.size) >>= _) _ _ ⟨h₅,g,d,tk+1,os⟩
  refine ad ?_
  ·unfold Builtin.SmallTypes.ownedTupleHandOut
   refine ad (bv he₅ (by simp) λh₆ he₆ hs₆=>?_)
   replace hs₆:Heap.SameBut e h₅ h₆:=hs₆
   replace he₆:IsEnumOut h₆ e it ((i:Int)+1) x hp.objs.size:=he₆
   refine bv he₆ (by simp) λh₇ he₇ hs₇=>?_
   replace hs₇:Heap.SameBut e h₆ h₇:=hs₇
   replace he₇:IsEnumOut h₇ e it ((i:Int)+1) x hp.objs.size:=he₇
   refine ad (wpAny_letGo (af ⟨_,rfl,af (hQ h₇ he₇ ?_ ?_ ?_)⟩))
   ·exact ((hit₄.extBut hs₅.extBut (Ne.symm hne)).extBut hs₆.extBut (Ne.symm hne)).extBut hs₇.extBut (Ne.symm hne)
   ·exact hs₇.extBut _ _ (Nat.ne_of_gt hel) (hs₆.extBut _ _ (Nat.ne_of_gt hel) (hs₅.extBut _ _ (Nat.ne_of_gt hel) ht₄))
   ·exact λb o hbe hbi hb=>hs₇.extBut b o hbe (hs₆.extBut b o hbe (hs₅.extBut b o hbe (hk₄ b o hbe hbi hb)))
theorem v8 {e it l:Addr}{i:Nat}{items:Array Value}{old:Value}{Q:Option Value->Shared->Prop}(hh:A.handled=none) (he:IsEnum s.heap e it i old) (hit:s.heap.IsTupleIter it l i) (hl:s.heap.IsTuple l items) (hx:items[i]?=none)
  (hQ:∀ h',Heap.ExtBut it s.heap h'->Q none (ey s h')):wpAny (model prog w) A (pyNext (.ref e)) Q E s:=by
 have hT:s.TypeIs (.ref e) "enumerate":=⟨_,he,rfl⟩
 unfold pyNext
 refine ad (wpAny_attempt (bc (name:=Str.ofString "__next__") hT PySem.F.slot_enumerate_next
  (aL PySem.F.slot_enumerate_next hT PySem.F.entry_enumerate_next ?_ (PySem.F.args_enumerate_next_1 _))))
 show wpAny _ _ (field (.ref e) 2 >>= _) _ _ _
 refine ad (bf he rfl (x:=.ref it) rfl ?_)
 refine ad (fE hh hit hl hx λh' x he' hx'=>?_)
 obtain ⟨o,ho,hc⟩:=hx'
 refine ad (wpAny_isInstance (T:="StopIteration") (b:=true) ⟨o,ho,hc⟩ isSubtype_stop ?_)
 exact af (hQ _ he')
end
section
open PySem.AutoSeq1 (wpAny_loadPart')
theorem rH {prog:Program}{w:World}{A:Around}{E E':Value->Shared->Prop}{s:Shared}{f:List (Code × _)->Bool}{R:Bool->Shared->Prop}(h:∀ b,R b s):
  wpAny (model prog w) A stack (λa s'=>wpAny (model prog w) A (pure (f a)) R E' s') E s:=wpAny_stack_any λzz=>af (h _)
theorem mn (l:Addr) (items:Array Value) (o:Obj) (n:Nat):
  Meets (Builtin.«enumerate.__new__» ⟨[.type "enumerate",.ref l],[]⟩) (λzz R s=>(s.heap.get? l=some o/\o.cls=.type "tuple"/\o.data=.seq items n) /\
   R (.ok (.ret (.ref (s.heap.push { cls:=.type "tuple_iterator",data:=.fields #[.ref l,.int 0 0] }).objs.size)))
    (ey s ((s.heap.push { cls:=.type "tuple_iterator",data:=.fields #[.ref l,.int 0 0] }).push { cls:=.type "enumerate",data:=.fields #[.none,.bool false,.ref s.heap.objs.size,rawInt 0,.none,.none] }))):=
 .of_wp λprog w A R s h=>by
  obtain ⟨hp,g,d,tk,os⟩:=s
  obtain ⟨⟨hl,hc,hd⟩,h⟩:=h
  have hsub:=sub_enumerate
  have hL:Heap.IsTuple (Shared.heap ⟨hp,g,d,tk,os⟩) l items:=⟨o,hl,hc,n,hd⟩
  obtain ⟨c,dc,dt,sl⟩:=o
  cases hc
  cases hd
  wp_walk using wpAny_loadPart' hl
  refine rH λb=>?_
  cases b
  ·wp_walk using wpAny_loadPart' hl,wpAny_pyIter_tuple hL
   exact ⟨_,rfl,h⟩
  ·wp_walk using wpAny_loadPart' hl,wpAny_pyIter_tuple hL
   exact ⟨_,rfl,h⟩
section
variable {prog:Program}{w:World}{A:Around}{E:Value->Shared->Prop}{s:Shared}
theorem mX {l:Addr}{items:Array Value}{Q:Value->Shared->Prop}(hL:s.heap.IsTuple l items)
  (h:∀ h',IsEnum h' (s.heap.objs.size+1) s.heap.objs.size 0 .none->h'.IsTupleIter s.heap.objs.size l 0->(∀ b o,s.heap.get? b=some o->h'.get? b=some o)->Q (.ref (s.heap.objs.size+1)) (ey s h')):
  wpAny (model prog w) A (call (.type "enumerate") [.ref l]) Q E s:=by
 obtain ⟨o,hl,hc,n,hd⟩:=hL
 refine callType_new F.called_enumerate (by decide) (F.typeCall_enumerate_1 _) (F.newCall_enumerate_1 _) (λobj=>F.args_object_init_2 obj _) F.entry_enumerate_new (mn l items o n) ⟨⟨hl,hc,hd⟩,?_⟩
 have hz:(s.heap.push { cls:=.type "tuple_iterator",data:=.fields #[.ref l,.int 0 0] }).objs.size=s.heap.objs.size+1:=Heap.size_push ..
 show _/\_
 rw [hz]
 have he:IsEnum ((s.heap.push { cls:=.type "tuple_iterator",data:=.fields #[.ref l,.int 0 0] }).push { cls:=.type "enumerate",data:=.fields #[.none,.bool false,.ref s.heap.objs.size,rawInt 0,.none,.none] }) (s.heap.objs.size+1) s.heap.objs.size 0 .none:=by
  have:=ah (s.heap.push { cls:=.type "tuple_iterator",data:=.fields #[.ref l,.int 0 0] }) (o:={ cls:=.type "enumerate",data:=.fields #[.none,.bool false,.ref s.heap.objs.size,rawInt 0,.none,.none] }) rfl
  rw [hz] at this; exact this
 exact ⟨⟨_,he,rfl⟩,h _ he ⟨_,ag _ (ah _ rfl),rfl,rfl⟩ λb o x=>ag _ (ag _ x)⟩
end
section
variable {P:Pm}{K:Frag}{γ γ':Gh}{h h':Heap}{fm:Fm}{env:Env}{ae:En}{g:G}{A:Around}{s:Shared}
theorem sv {i:Nat}{vs:List V}{it:List V}{r:List (List V)}(e:it::r=kq i (vs.drop i)):∃ x,vs[i]?=some x/\it=[.int i,x]/\r=kq (i+1) (vs.drop (i+1)):=by
 cases h:vs.drop i with
 | nil=>rw [h] at e; cases e
 | cons x xs=>
  rw [h] at e
  cases e
  refine ⟨x,by rw [← List.head?_drop,h]; rfl,rfl,?_⟩
  rw [← List.tail_drop,h]; rfl
theorem vN {i:Nat}{vs:List V}(e:[]=kq i (vs.drop i)):vs.length<=i:=by
 cases h:vs.drop i with
 | nil=>exact List.drop_eq_nil_iff.mp h
 | cons x xs=>rw [h] at e; cases e
inductive DS (P:Pm) (e it:Addr) (r:List (List V)) (γ:Gh) (h:Heap):Prop
 | mk (hw:∀ a,a=e\/a=it->dY P γ a) (hne:e≠it) (i:Nat) (vs:List V) (items:Array Value) (old:Value) (l:Addr) (hr:r=kq i (vs.drop i)) (ro:γ.role l=.frozen) (he:IsEnum h e it i old) (hit:h.IsTupleIter it l i) (hl:h.IsTuple l items) (rl:bI P γ h vs items.toList)
theorem Wk.enum {e it:Addr}(hh:A.handled=none) {es:List Expr}{c:Nat}{p:Pos}:Wk P A (.Tuple es c p) e (λa=>a=e\/a=it) (DS P e it) where
 keep:=λr γ h γ' h' ⟨hw,hne,i,vs,items,old,l,hr,ro,he,hit,hl,rl⟩ k f hg hga=>by
  obtain ⟨o,ho,q⟩:=id hit
  have k1:=k e _ (.inl rfl) (hw e (.inl rfl)).1 he
  have k2:=k it o (.inr rfl) (hw it (.inr rfl)).1 ho
  exact ⟨λa ha=>⟨ha.elim (λq=>by rw [q]; exact k1.1) λq=>by rw [q]; exact k2.1,(hw a ha).2⟩,hne,i,vs,items,old,l,hr,(f.tuple ro hl).1,k1.2,⟨o,k2.2,q⟩,(f.tuple ro hl).2,rl.mono f hg hga⟩
 item:=λw r γ s g K Q Ex IV ⟨hw,hne,i,vs,items,old,l,hr,ro,he,hit,hl,rl⟩ hK q=>by
  obtain ⟨x,hx,rfl,hr'⟩:=sv hr
  obtain ⟨y,hy,ry⟩:=rl.get hx
  refine ve he hit hl (by rw [← aK]; exact hy) hne λh1 he1 hit1 ht1 ks1=>hK _ _ (wpAny_letOwnedTupleGo_enum he1 λh2 he2 hs2=>?_)
  have sz:=cT he
  have ks:∀ b o,¬ (b=e\/b=it)->s.heap.get? b=some o->h2.get? b=some o:=λb o n z=>hs2.extBut b o (λq=>n (.inl q)) (ks1 b o (λq=>n (.inl q)) (λq=>n (.inr q)) z)
  have f:dw (λa=>a=e\/a=it) γ s.heap γ h2:=gE ks hw
  refine q _ γ h2 _ f (IV.set ks hw) ⟨hw,hne,i+1,vs,items,y,l,hr',(f.fro.tuple ro hl).1,he2,hit1.extBut hs2.extBut (Ne.symm hne),(f.fro.tuple ro hl).2,rl.evP f⟩ (.many (its:=#[.int i s.toks,y]) ⟨_,hs2.extBut _ _ (Ne.symm sz) ht1,rfl,_,rfl⟩ ?_)
  exact .cons (⟨_,rfl⟩) (.cons (ry.evP f) .nil)
 done:=λγ s g Q Ex IV ⟨hw,hne,i,vs,items,old,l,hr,ro,he,hit,hl,rl⟩ q=>by
  have hn:=vN hr
  have hlen:=rl.length
  refine v8 hh he hit hl (by rw [← aK]; exact List.getElem?_eq_none (by lia)) λh' ks=>q γ h' s.toks ?_ ?_
  ·exact gE (λb o n z=>ks b o (λq=>n (.inr q)) z) hw
  ·exact IV.set (λb o n z=>ks b o (λq=>n (.inr q)) z) hw
 self:=λr γ s Q Ex ⟨_,_,i,vs,items,old,l,_,_,he,_,_,_⟩ q=>wpAny_pyIter_enum he q
theorem dK.enum {x:Str}{p pos p2:Pos}{pe:Expr}{e1:E}{es:List Expr}{c:Nat}{is:List Nat}(r:jE P fm x (.type "enumerate")) (S:bE P fm pe e1) (he:∀ env,starEach [pe] env=(false,eval pe env)::starEach [] env):dK P fm (.Call (.Name x p) [pe] [] pos) .enum e1 .none (.Tuple es c p2) is:=by
 intro cf n C A γ s env ae g a b g1 g2 its R I Er e1 e2 e3 Q Ex q
 cases e2
 refine cu e3 λvs hv=>?_
 clear e3
 intro e3
 refine bU e3 λhk e4=>?_
 clear e3 hk
 cases e4
 refine gv r (.inr ⟨_,rfl⟩) S he C R I Er e1 λy γ1 h1 t1 f1 I1 E1 r1=>?_
 clear C Er I S e1 g he r
 cases (r1.tup hv).tupI with | @mk l items ro ti li=>
 refine mX ti λh2 hE hI gr=>wpAny_pyIter_enum hE ?_
 have k0:=I1.fresh (ak _)
 have k1:=I1.fresh (Nat.le_succ _)
 have G:=Ev.grow (γ:=γ1) gr
 refine q _ _ _ γ1 h2 t1 (f1.trans G) (I1.grow gr) (E1.ev G) (Wk.enum (it:=h1.objs.size) R.hd) ⟨λz hz=>hz.elim (λq=>by rw [q]; exact k1.1) λq=>by rw [q]; exact k0.1,Nat.succ_ne_self _,0,vs,items,.none,l,rfl,ro,hE,hI,(G.fro.tuple ro ti).2,li.ev G⟩ ?_
 rintro z (rfl | rfl)
 ·exact ⟨f1.none k1.2,by rw [hE]; rfl⟩
 ·obtain ⟨o,ho,zz⟩:=hI
  exact ⟨f1.none k0.2,by rw [ho]; rfl⟩
end
end
abbrev vU (h:Heap) (z TI TO:Addr) (f0:Value) (f1:Bool):Prop:=
 h.get? z=some { cls:=.type "zip",dict:=none,data:=.fields #[f0,.bool f1,.bool false,.ref TI,.ref TO],slots:=#[] }
structure ZS (h:Heap) (z TI TO i1 i2 l1 l2:Addr) (k:Nat) (xs ys:Array Value) (f0:Value) (f1:Bool):Prop where
 hz:vU h z TI TO f0 f1
 ti:IsPair h TI (.ref i1) (.ref i2)
 to:∃ a b,IsPair h TO a b
 t1:h.IsTupleIter i1 l1 k
 t2:h.IsTupleIter i2 l2 k
 s1:h.IsTuple l1 xs
 s2:h.IsTuple l2 ys
section
variable {prog:Program}{w:World}{A:Around}{E:Value->Shared->Prop}{s:Shared}
theorem rY {a:Addr}{Q:Option Obj->Shared->Prop}(h:Q (s.heap.get? a) s):wpAny (model prog w) A (loadIfAlive a) Q E s:=λΓ p hΓ=>by
 show Sem.wp _ _ (.loadIfAlive a _) _ _ _ _
 rw [Sem.wp_loadIfAlive]; exact h
theorem gW.ext {h h':Heap}{a b:Addr}{xs:Array Value}(x:h.IsTuple a xs) (ks:Heap.ExtBut b h h') (n:a≠b):h'.IsTuple a xs:=let ⟨o,ho,r⟩:=x; ⟨o,ks _ _ n ho,r⟩
variable {z TI TO i1 i2 l1 l2:Addr}{k:Nat}{xs ys:Array Value}{x y:Value}{f0:Value}{f1:Bool}
theorem xm {Q:Value->Shared->Prop}(D:ZipApart z TI TO i1 i2 l1 l2) (Z:ZS s.heap z TI TO i1 i2 l1 l2 k xs ys .none f1) (hx:xs[k]?=some x) (hy:ys[k]?=some y)
  (hQ:∀ h',ZS h' z TI TO i1 i2 l1 l2 (k+1) xs ys (rawInt s.heap.objs.size) false->IsPair h' s.heap.objs.size x y ->
   (∀ c o,c≠z->c≠TO->c≠i1->c≠i2->s.heap.get? c=some o->h'.get? c=some o)->Q (.ref s.heap.objs.size) (ey s h')):
  wpAny (model prog w) A (Builtin.«zip.__next__» ⟨[.ref z],[]⟩) (λeQ s'=>∃ v,eQ=.done (.ret v)/\Q v s') E s:=by
 obtain ⟨hz,hTI,⟨a,b,hTO⟩,h1,h2,hl1,hl2⟩:=Z
 show wpAny _ _ (field (.ref z) 2 >>= _) _ _ _
 refine ad (bf hz rfl (x:=.bool false) rfl ?_)
 show wpAny _ _ (field (.ref z) 3 >>= _) _ _ _
 refine ad (bf hz rfl (x:=.ref TI) rfl ?_)
 refine ad (wpAny_seqItems hTI rfl ?_)
 show wpAny _ _ (Builtin.SmallTypes.ownedTupleIsFree (.ref z) >>= _) _ _ _
 refine ad ?_
 unfold Builtin.SmallTypes.ownedTupleIsFree
 refine ad (bf hz rfl (x:=.none) rfl (af ?_))
 simp -iota only [if_true]
 refine ad (wpAny_rule ?_)
 refine ad (bf hz rfl (x:=.ref TO) rfl ?_)
 refine ad (bv hz (by simp) λh₁ hz₁ hs₁=>?_)
 replace hz₁:vU h₁ z TI TO .ellipsis f1:=hz₁
 refine ad ?_
 simp -iota only [List.zipIdx_cons,List.zipIdx_nil,List.forIn_cons,List.forIn_nil]
 refine ad (ad (wpAny_onRaise ?_))
 show wpAny _ _ (Builtin.SmallTypes.nextOf (.ref i1) >>= _) _ _ _
 refine ad (dk (h1.extBut hs₁.extBut D.i1z) (gW.ext hl1 hs₁.extBut D.l1z) hx λh₂ h1₂ hs₂=>af ?_)
 have hTO₂:IsPair h₂ TO a b:=hs₂.extBut _ _ D.TOi1 (hs₁.extBut _ _ D.TOz hTO)
 refine ad (wpAny_seqItems hTO₂ rfl ?_)
 refine ad (wpAny_updateSeq_pair hTO₂ λh₃ hTO₃ hs₃=>?_)
 replace hTO₃:IsPair h₃ TO x b:=hTO₃
 refine ad (wpAny_letGo (af ?_))
 refine ad (ad (wpAny_onRaise ?_))
 show wpAny _ _ (Builtin.SmallTypes.nextOf (.ref i2) >>= _) _ _ _
 refine ad (dk (((h2.extBut hs₁.extBut D.i2z).extBut hs₂.extBut D.i12.symm).extBut hs₃.extBut D.TOi2.symm)
  (gW.ext (gW.ext (gW.ext hl2 hs₁.extBut D.l2z) hs₂.extBut D.l2i1) hs₃.extBut D.l2TO) hy λh₄ h2₄ hs₄=>af ?_)
 have hTO₄:IsPair h₄ TO x b:=hs₄.extBut _ _ D.TOi2 hTO₃
 refine ad (wpAny_seqItems hTO₄ rfl ?_)
 refine ad (wpAny_updateSeq_pair hTO₄ λh₅ hTO₅ hs₅=>?_)
 replace hTO₅:IsPair h₅ TO x y:=hTO₅
 refine ad (wpAny_letGo (af (af ?_)))
 refine ad (wpAny_seqItems hTO₅ rfl ?_)
 refine ad (wpAny_newTuple ?_)
 have hsz:h₅.objs.size=s.heap.objs.size:=by rw [hs₅.1,hs₄.1,hs₃.1,hs₂.1,hs₁.1]
 have hz₅:vU h₅ z TI TO .ellipsis f1:=hs₅.extBut _ _ D.TOz.symm (hs₄.extBut _ _ D.i2z.symm (hs₃.extBut _ _ D.TOz.symm (hs₂.extBut _ _ D.i1z.symm hz₁)))
 have hk₅:∀ c o,c≠z->c≠TO->c≠i1->c≠i2->s.heap.get? c=some o->h₅.get? c=some o:=λc o c1 c2 c3 c4 e=>
  hs₅.extBut _ _ c2 (hs₄.extBut _ _ c4 (hs₃.extBut _ _ c2 (hs₂.extBut _ _ c3 (hs₁.extBut _ _ c1 e))))
 have h1₅:h₅.IsTupleIter i1 l1 (k+1):=((h1₂.extBut hs₃.extBut D.TOi1.symm).extBut hs₄.extBut D.i12).extBut hs₅.extBut D.TOi1.symm
 have h2₅:h₅.IsTupleIter i2 l2 (k+1):=h2₄.extBut hs₅.extBut D.TOi2.symm
 have hzlt:z < h₅.objs.size:=Heap.lt_size hz₅
 clear hs₅ hs₄ hs₃ hs₂ hs₁ hTO₄ hTO₃ hTO₂ hz₁ h1₂ h2₄
 show wpAny _ _ (Builtin.SmallTypes.ownedTupleHandOut (.ref z) (.ref h₅.objs.size) >>= _) _ _ _
 refine ad ?_
 unfold Builtin.SmallTypes.ownedTupleHandOut
 have hz₆:vU (h₅.push { cls:=.type "tuple",data:=.seq #[x,y] }) z TI TO .ellipsis f1:=ag _ hz₅
 refine ad (bv hz₆ (by simp) λh₇ hz₇ hs₇=>?_)
 replace hz₇:vU h₇ z TI TO (rawInt h₅.objs.size) f1:=hz₇
 refine bv hz₇ (by simp) λh₈ hz₈ hs₈=>?_
 replace hz₈:vU h₈ z TI TO (rawInt h₅.objs.size) false:=hz₈
 have up:∀ c o,c≠z->h₅.get? c=some o->h₈.get? c=some o:=λc o c1 e=>hs₈.extBut _ _ c1 (hs₇.extBut _ _ c1 (ag _ e))
 have hT₈:IsPair h₈ h₅.objs.size x y:=hs₈.extBut _ _ (Nat.ne_of_gt hzlt) (hs₇.extBut _ _ (Nat.ne_of_gt hzlt) (ah _ rfl))
 rw [hsz] at hz₈ hT₈
 refine af ⟨_,rfl,?_⟩
 show Q (.ref h₅.objs.size) _
 rw [hsz]
 exact hQ h₈ ⟨hz₈,up _ _ D.TIz (hk₅ _ _ D.TIz D.TITO D.TIi1 D.TIi2 hTI),⟨_,_,up _ _ D.TOz hTO₅⟩,h1₅.at λo e=>up _ o D.i1z e,h2₅.at λo e=>up _ o D.i2z e,
  (let ⟨o,e,r⟩:=hl1; ⟨o,up _ _ D.l1z (hk₅ _ _ D.l1z D.l1TO D.l1i1 D.l1i2 e),r⟩),(let ⟨o,e,r⟩:=hl2; ⟨o,up _ _ D.l2z (hk₅ _ _ D.l2z D.l2TO D.l2i1 D.l2i2 e),r⟩)⟩ hT₈ λc o c1 c2 c3 c4 e=>up c o c1 (hk₅ c o c1 c2 c3 c4 e)
theorem nW {T:Addr}{Q:Bool->Shared->Prop}(hz:vU s.heap z TI TO (rawInt T) f1) (hT:(s.heap.get? T).isSome=true)
  (h:∀ h',vU h' z TI TO (rawInt T) true->Heap.SameBut z s.heap h'->Q false (ey s h')):wpAny (model prog w) A (Builtin.SmallTypes.ownedTupleIsFree (.ref z)) Q E s:=by
 unfold Builtin.SmallTypes.ownedTupleIsFree
 refine ad (bf hz rfl (x:=rawInt T) rfl ?_)
 obtain ⟨o,ho⟩:=aq.mp hT
 show wpAny _ _ (loadIfAlive T >>= _) _ _ _
 refine ad (rY ?_)
 rw [ho]
 simp -iota only [Option.isNone_some,Bool.false_eq_true,if_false]
 refine ad (bf hz rfl (x:=.bool f1) rfl ?_)
 cases f1 with
 | true=>
  refine af ?_
  exact h s.heap hz ⟨rfl,λzz zz=>rfl⟩
 | false=>
  show wpAny _ _ (setField (.ref z) 1 (.bool true) >>= _) _ _ _
  refine ad (bv hz (by simp) λh₁ hz₁ hs₁=>af (h h₁ hz₁ hs₁))
theorem wT {T:Addr}{Q:Value->Shared->Prop}(D:ZipApart z TI TO i1 i2 l1 l2) (Z:ZS s.heap z TI TO i1 i2 l1 l2 k xs ys (rawInt T) f1) (hT:(s.heap.get? T).isSome=true) (hx:xs[k]?=some x) (hy:ys[k]?=some y)
  (hQ:∀ h',ZS h' z TI TO i1 i2 l1 l2 (k+1) xs ys (rawInt T) true->IsPair h' s.heap.objs.size x y ->
   (∀ c o,c≠z->c≠TO->c≠i1->c≠i2->s.heap.get? c=some o->h'.get? c=some o)->Q (.ref s.heap.objs.size) (ey s h')):
  wpAny (model prog w) A (Builtin.«zip.__next__» ⟨[.ref z],[]⟩) (λeQ s'=>∃ v,eQ=.done (.ret v)/\Q v s') E s:=by
 obtain ⟨hz,hTI,⟨a,b,hTO⟩,h1,h2,hl1,hl2⟩:=Z
 show wpAny _ _ (field (.ref z) 2 >>= _) _ _ _
 refine ad (bf hz rfl (x:=.bool false) rfl ?_)
 show wpAny _ _ (field (.ref z) 3 >>= _) _ _ _
 refine ad (bf hz rfl (x:=.ref TI) rfl ?_)
 refine ad (wpAny_seqItems hTI rfl ?_)
 show wpAny _ _ (Builtin.SmallTypes.ownedTupleIsFree (.ref z) >>= _) _ _ _
 refine ad (nW hz hT λh₁ hz₁ hs₁=>?_)
 simp -iota only [Bool.false_eq_true,if_false]
 refine ad ?_
 rw [← Array.forIn_toList]
 simp -iota only [List.forIn_cons,List.forIn_nil]
 refine ad (ad (aH ?_))
 show wpAny _ _ (Builtin.SmallTypes.nextOf (.ref i1) >>= _) _ _ _
 refine ad (dk (h1.extBut hs₁.extBut D.i1z) (gW.ext hl1 hs₁.extBut D.l1z) hx λh₂ h1₂ hs₂=>af (af ?_))
 refine ad (ad (aH ?_))
 show wpAny _ _ (Builtin.SmallTypes.nextOf (.ref i2) >>= _) _ _ _
 refine ad (dk ((h2.extBut hs₁.extBut D.i2z).extBut hs₂.extBut D.i12.symm) (gW.ext (gW.ext hl2 hs₁.extBut D.l2z) hs₂.extBut D.l2i1) hy λh₃ h2₃ hs₃=>af (af (af ?_)))
 show wpAny _ _ (newTuple [x,y] >>= _) _ _ _
 refine ad (wpAny_newTuple (af ⟨_,rfl,?_⟩))
 have hsz:h₃.objs.size=s.heap.objs.size:=by rw [hs₃.1,hs₂.1,hs₁.1]
 have up:∀ c o,c≠z->c≠i1->c≠i2->s.heap.get? c=some o->(h₃.push { cls:=.type "tuple",data:=.seq #[x,y] }).get? c=some o:=λc o c1 c3 c4 e=>
  ag _ (hs₃.extBut _ _ c4 (hs₂.extBut _ _ c3 (hs₁.extBut _ _ c1 e)))
 have hp:=ah h₃ (o:={ cls:=.type "tuple",data:=.seq #[x,y] }) rfl
 rw [hsz] at hp
 show Q (.ref h₃.objs.size) _
 rw [hsz]
 exact hQ (h₃.push { cls:=.type "tuple",data:=.seq #[x,y] }) ⟨ag _ (hs₃.extBut _ _ D.i2z.symm (hs₂.extBut _ _ D.i1z.symm hz₁)),up _ _ D.TIz D.TIi1 D.TIi2 hTI,⟨a,b,up _ _ D.TOz D.TOi1 D.TOi2 hTO⟩,
  (h1₂.extBut hs₃.extBut D.i12).at λo e=>ag _ e,h2₃.at λo e=>ag _ e,
  (let ⟨o,e,r⟩:=hl1; ⟨o,up _ _ D.l1z D.l1i1 D.l1i2 e,r⟩),(let ⟨o,e,r⟩:=hl2; ⟨o,up _ _ D.l2z D.l2i1 D.l2i2 e,r⟩)⟩ hp λc o c1 c2 c3 c4 e=>up c o c1 c3 c4 e
abbrev ZF (h:Heap) (f0:Value):Prop:=f0=.none\/∃ T:Addr,f0=rawInt T/\(h.get? T).isSome=true
theorem yw {Q:Fin->Shared->Prop}(hh:A.handled=none) (D:ZipApart z TI TO i1 i2 l1 l2) (Z:ZS s.heap z TI TO i1 i2 l1 l2 k xs ys f0 f1) (Fz:ZF s.heap f0) (hx:xs[k]?=none)
  (hE:∀ h' e,(∀ c o,c≠z->c≠TO->c≠i1->c≠i2->s.heap.get? c=some o->h'.get? c=some o)->(∃ o,h'.get? e=some o/\o.cls=.type "StopIteration")->E (.ref e) (ey s h')):
  wpAny (model prog w) A (Builtin.«zip.__next__» ⟨[.ref z],[]⟩) Q E s:=by
 obtain ⟨hz,hTI,⟨a,b,hTO⟩,h1,h2,hl1,hl2⟩:=Z
 show wpAny _ _ (field (.ref z) 2 >>= _) _ _ _
 refine ad (bf hz rfl (x:=.bool false) rfl ?_)
 show wpAny _ _ (field (.ref z) 3 >>= _) _ _ _
 refine ad (bf hz rfl (x:=.ref TI) rfl ?_)
 refine ad (wpAny_seqItems hTI rfl ?_)
 show wpAny _ _ (Builtin.SmallTypes.ownedTupleIsFree (.ref z) >>= _) _ _ _
 rcases Fz with rfl | ⟨T,rfl,hT⟩
 ·refine ad ?_
  unfold Builtin.SmallTypes.ownedTupleIsFree
  refine ad (bf hz rfl (x:=.none) rfl (af ?_))
  simp -iota only [if_true]
  refine ad (wpAny_rule ?_)
  refine ad (bf hz rfl (x:=.ref TO) rfl ?_)
  refine ad (bv hz (by simp) λh₁ hz₁ hs₁=>?_)
  replace hz₁:vU h₁ z TI TO .ellipsis f1:=hz₁
  refine ad ?_
  simp -iota only [List.zipIdx_cons,List.zipIdx_nil,List.forIn_cons,List.forIn_nil]
  refine ad (ad (wpAny_onRaise ?_))
  show wpAny _ _ (Builtin.SmallTypes.nextOf (.ref i1) >>= _) _ _ _
  refine ad (fE hh (h1.extBut hs₁.extBut D.i1z) (gW.ext hl1 hs₁.extBut D.l1z) hx λh₂ e hs₂ he=>?_)
  obtain ⟨oe,hoe,hce⟩:=he
  have hz₂:vU h₂ z TI TO .ellipsis f1:=hs₂ _ _ D.i1z.symm hz₁
  have hez:e≠z:=λx=>by subst x; rw [hz₂] at hoe; cases hoe; simp at hce
  refine bv hz₂ (by simp) λh₃ zz hs₃=>hE h₃ e (λc o c1 zz c3 zz x=>hs₃.extBut _ _ c1 (hs₂ _ _ c3 (hs₁.extBut _ _ c1 x))) ⟨oe,hs₃.extBut _ _ hez hoe,hce⟩
 ·refine ad (nW hz hT λh₁ hz₁ hs₁=>?_)
  simp -iota only [Bool.false_eq_true,if_false]
  refine ad ?_
  rw [← Array.forIn_toList]
  simp -iota only [List.forIn_cons,List.forIn_nil]
  refine ad (ad (aH ?_))
  show wpAny _ _ (Builtin.SmallTypes.nextOf (.ref i1) >>= _) _ _ _
  exact ad (fE hh (h1.extBut hs₁.extBut D.i1z) (gW.ext hl1 hs₁.extBut D.l1z) hx λh₂ e hs₂ he=>hE h₂ e (λc o c1 zz c3 zz x=>hs₂ _ _ c3 (hs₁.extBut _ _ c1 x)) he)
theorem xP {Q:Option Value->Shared->Prop}(D:ZipApart z TI TO i1 i2 l1 l2) (Z:ZS s.heap z TI TO i1 i2 l1 l2 k xs ys f0 f1) (Fz:ZF s.heap f0) (hx:xs[k]?=some x) (hy:ys[k]?=some y)
  (hQ:∀ h' f0' f1',ZS h' z TI TO i1 i2 l1 l2 (k+1) xs ys f0' f1'->(f0=.none->f0'=rawInt s.heap.objs.size/\f1'=false)->ZF h' f0'->IsPair h' s.heap.objs.size x y ->
   (∀ c o,c≠z->c≠TO->c≠i1->c≠i2->s.heap.get? c=some o->h'.get? c=some o)->Q (some (.ref s.heap.objs.size)) (ey s h')):wpAny (model prog w) A (pyNext (.ref z)) Q E s:=by
 have hT:s.TypeIs (.ref z) "zip":=⟨_,Z.hz,rfl⟩
 unfold pyNext
 refine ad (wpAny_attempt (bc (name:=Str.ofString "__next__") hT F.slot_zip_next (aL F.slot_zip_next hT F.entry_zip_next ?_ (F.args_zip_next_1 _))))
 rcases Fz with rfl | ⟨T,rfl,hT⟩
 ·exact xm D Z hx hy λh' Z' p k=>af (hQ h' _ _ Z' (λzz=>⟨rfl,rfl⟩) (.inr ⟨_,rfl,by rw [p]; rfl⟩) p k)
 ·refine wT D Z hT hx hy λh' Z' p k=>af (hQ h' _ _ Z' (λq=>nomatch q) (.inr ⟨T,rfl,?_⟩) p k)
  obtain ⟨oT,hoT⟩:=aq.mp hT
  by_cases c1:T=z
  ·rw [c1,Z'.hz]; rfl
  ·by_cases c2:T=TO
   ·obtain ⟨zz,zz,q⟩:=Z'.to; rw [c2,q]; rfl
   ·by_cases c3:T=i1
    ·obtain ⟨zz,q,zz⟩:=Z'.t1; rw [c3,q]; rfl
    ·by_cases c4:T=i2
     ·obtain ⟨zz,q,zz⟩:=Z'.t2; rw [c4,q]; rfl
     ·rw [k T oT c1 c2 c3 c4 hoT]; rfl
theorem xE {Q:Option Value->Shared->Prop}(hh:A.handled=none) (D:ZipApart z TI TO i1 i2 l1 l2) (Z:ZS s.heap z TI TO i1 i2 l1 l2 k xs ys f0 f1) (Fz:ZF s.heap f0) (hx:xs[k]?=none)
  (hQ:∀ h',(∀ c o,c≠z->c≠TO->c≠i1->c≠i2->s.heap.get? c=some o->h'.get? c=some o)->Q none (ey s h')):wpAny (model prog w) A (pyNext (.ref z)) Q E s:=by
 have hT:s.TypeIs (.ref z) "zip":=⟨_,Z.hz,rfl⟩
 unfold pyNext
 refine ad (wpAny_attempt (bc (name:=Str.ofString "__next__") hT F.slot_zip_next (aL F.slot_zip_next hT F.entry_zip_next (yw hh D Z Fz hx λh' e hk he=>?_) (F.args_zip_next_1 _))))
 obtain ⟨o,ho,hc⟩:=he
 refine ad (wpAny_isInstance (T:="StopIteration") (b:=true) ⟨o,ho,hc⟩ isSubtype_stop ?_)
 exact af (hQ _ hk)
theorem mi {Q:Value->Shared->Prop}(hz:vU s.heap z TI TO f0 f1) (h:Q (.ref z) s):wpAny (model prog w) A (pyIter (.ref z)) Q E s:=by
 have hT:s.TypeIs (.ref z) "zip":=⟨_,hz,rfl⟩
 refine wpAny_pyIter_slot hT F.slot_zip_iter (aL F.slot_zip_iter hT F.entry_zip_iter ?_ (F.args_zip_iter_1 _))
 show wpAny _ _ (ret (.ref z)) _ _ s
 exact af ⟨_,rfl,"zip",_,hT,F.slot_zip_next.lookup,h⟩
noncomputable abbrev C9 (h:Heap) (l1:Addr):Heap:=h.push { cls:=.type "tuple_iterator",data:=.fields #[.ref l1,.int 0 0] }
noncomputable abbrev Cr (h:Heap) (l1 l2:Addr):Heap:=(C9 h l1).push { cls:=.type "tuple_iterator",data:=.fields #[.ref l2,.int 0 0] }
noncomputable abbrev Cp (h:Heap) (l1 l2:Addr):Heap:=(Cr h l1 l2).push { cls:=.type "tuple",data:=.seq #[.ref h.objs.size,.ref (C9 h l1).objs.size] }
noncomputable abbrev CU (h:Heap) (l1 l2:Addr):Heap:=(Cp h l1 l2).push { cls:=.type "tuple",data:=.seq #[.none,.none] }
noncomputable abbrev yx (h:Heap) (l1 l2:Addr):Heap:=(CU h l1 l2).push { cls:=.type "zip",data:=.fields #[.none,.bool false,.bool false,.ref (Cr h l1 l2).objs.size,.ref (Cp h l1 l2).objs.size] }
theorem mY (l1 l2:Addr) (xs ys:Array Value):
  Meets (Builtin.«zip.__new__» ⟨[.type "zip",.ref l1,.ref l2],[]⟩) (λzz R s=>s.heap.IsTuple l1 xs/\s.heap.IsTuple l2 ys/\R (.ok (.ret (.ref (CU s.heap l1 l2).objs.size))) (ey s (yx s.heap l1 l2))):=
 .of_wp λprog w A R s h=>by
  obtain ⟨hp,g,d,tk,os⟩:=s; obtain ⟨hl1,hl2,h⟩:=h
  have hsub:=sub_zip
  have hL1:Heap.IsTuple (Shared.heap ⟨hp,g,d,tk,os⟩) l1 xs:=hl1
  have hL2:Heap.IsTuple (Shared.heap ⟨hp.push { cls:=.type "tuple_iterator",data:=.fields #[.ref l1,.int 0 0] },g,d,tk,os⟩) l2 ys:=let ⟨o,e,r⟩:=hl2; ⟨o,ag _ e,r⟩
  wp_walk using wpAny_pyIter_tuple hL1,wpAny_pyIter_tuple hL2
  exact ⟨_,rfl,h⟩
theorem Bh (n l1 l2:Nat) (b1:l1 < n) (b2:l2 < n):ZipApart (n+4) (n+2) (n+3) n (n+1) l1 l2:=by
 constructor <;> (intro e; have e:(_:Nat)=_:=e; lia)
theorem yt {xs ys:Array Value}{Q:Value->Shared->Prop}(hl1:s.heap.IsTuple l1 xs) (hl2:s.heap.IsTuple l2 ys)
  (h:∀ h',ZS h' (s.heap.objs.size+4) (s.heap.objs.size+2) (s.heap.objs.size+3) s.heap.objs.size (s.heap.objs.size+1) l1 l2 0 xs ys .none false->ZipApart (s.heap.objs.size+4) (s.heap.objs.size+2) (s.heap.objs.size+3) s.heap.objs.size (s.heap.objs.size+1) l1 l2 ->
   (∀ c o,s.heap.get? c=some o->h'.get? c=some o)->Q (.ref (s.heap.objs.size+4)) (ey s h')):
  wpAny (model prog w) A (call (.type "zip") [.ref l1,.ref l2]) Q E s:=by
 refine callType_new F.called_zip (by decide) (F.typeCall_zip_2 _ _) (F.newCall_zip_2 _ _) (λobj=>F.args_object_init_3 obj _ _) F.entry_zip_new (mY l1 l2 xs ys) ⟨hl1,hl2,?_⟩
 have z1:(C9 s.heap l1).objs.size=s.heap.objs.size+1:=Heap.size_push ..
 have z2:(Cr s.heap l1 l2).objs.size=s.heap.objs.size+2:=by rw [Heap.size_push,z1]
 have z3:(Cp s.heap l1 l2).objs.size=s.heap.objs.size+3:=by rw [Heap.size_push,z2]
 have z4:(CU s.heap l1 l2).objs.size=s.heap.objs.size+4:=by rw [Heap.size_push,z3]
 have up5:∀ {c o},(CU s.heap l1 l2).get? c=some o->(yx s.heap l1 l2).get? c=some o:=ag _
 have up4:∀ {c o},(Cp s.heap l1 l2).get? c=some o->(yx s.heap l1 l2).get? c=some o:=λe=>up5 (ag _ e)
 have up3:∀ {c o},(Cr s.heap l1 l2).get? c=some o->(yx s.heap l1 l2).get? c=some o:=λe=>up4 (ag _ e)
 have up2:∀ {c o},(C9 s.heap l1).get? c=some o->(yx s.heap l1 l2).get? c=some o:=λe=>up3 (ag _ e)
 have up1:∀ {c o},s.heap.get? c=some o->(yx s.heap l1 l2).get? c=some o:=λe=>up2 (ag _ e)
 have g5:(yx s.heap l1 l2).get? (CU s.heap l1 l2).objs.size=some _:=ah _ rfl
 have g4:(yx s.heap l1 l2).get? (Cp s.heap l1 l2).objs.size=some _:=up5 (ah _ rfl)
 have g3:(yx s.heap l1 l2).get? (Cr s.heap l1 l2).objs.size=some _:=up4 (ah _ rfl)
 have g2:(yx s.heap l1 l2).get? (C9 s.heap l1).objs.size=some _:=up3 (ah _ rfl)
 have g1:(yx s.heap l1 l2).get? s.heap.objs.size=some _:=up2 (ah _ rfl)
 have b1:l1 < s.heap.objs.size:=let ⟨o,e,_⟩:=hl1; Heap.lt_size e
 have b2:l2 < s.heap.objs.size:=let ⟨o,e,_⟩:=hl2; Heap.lt_size e
 show _/\_
 rw [z2,z3,z4] at g5
 rw [z1,z2] at g3
 rw [z3] at g4
 rw [z1] at g2
 rw [z4]
 exact ⟨⟨_,g5,rfl⟩,h _ ⟨g5,g3,⟨_,_,g4⟩,⟨_,g1,rfl,rfl⟩,⟨_,g2,rfl,rfl⟩,(let ⟨o,e,r⟩:=hl1; ⟨o,up1 e,r⟩),(let ⟨o,e,r⟩:=hl2; ⟨o,up1 e,r⟩)⟩ (Bh _ _ _ b1 b2) λc o x=>up1 x⟩
end
section
variable {P:Pm}{K:Frag}{γ γ':Gh}{h h':Heap}{fm:Fm}{env:Env}{ae:En}{g:G}{A:Around}{s:Shared}{W:Nat}
theorem vO {xs ys:List V}{it:List V}{r:List (List V)}(e:it::r=iJ xs ys):∃ x y,xs[0]?=some x/\ys[0]?=some y/\it=[x,y]/\r=iJ xs.tail ys.tail:=by
 match xs,ys,e with
 | x::xs,y::ys,e=>cases e; exact ⟨x,y,rfl,rfl,rfl,rfl⟩
theorem wi {xs ys:List V}(e:[]=iJ xs ys):xs[0]?=none\/ys[0]?=none:=by
 match xs,ys,e with
 | [],_,_=>exact .inl rfl
 | _::_,[],_=>exact .inr rfl
abbrev ZW (z TI TO i1 i2:Addr) (a:Addr):Prop:=a=z\/a=TI\/a=TO\/a=i1\/a=i2
theorem ZS.keep {z TI TO i1 i2 l1 l2:Addr}{k:Nat}{xs ys:Array Value}{f0:Value}{f1:Bool}(Z:ZS h z TI TO i1 i2 l1 l2 k xs ys f0 f1) (kk:∀ a o,ZW z TI TO i1 i2 a\/a=l1\/a=l2->h.get? a=some o->h'.get? a=some o):ZS h' z TI TO i1 i2 l1 l2 k xs ys f0 f1:=by
 obtain ⟨a,b,⟨x,y,c⟩,d,e,f,g⟩:=Z
 exact ⟨kk _ _ (.inl (.inl rfl)) a,kk _ _ (.inl (.inr (.inl rfl))) b,⟨x,y,kk _ _ (.inl (.inr (.inr (.inl rfl)))) c⟩,d.at λo q=>kk _ _ (.inl (.inr (.inr (.inr (.inl rfl))))) q,e.at λo q=>kk _ _ (.inl (.inr (.inr (.inr (.inr rfl))))) q,
  (let ⟨o,q,r⟩:=f; ⟨o,kk _ _ (.inr (.inl rfl)) q,r⟩),(let ⟨o,q,r⟩:=g; ⟨o,kk _ _ (.inr (.inr rfl)) q,r⟩)⟩
theorem ZS.there {z TI TO i1 i2 l1 l2:Addr}{k:Nat}{xs ys:Array Value}{f0:Value}{f1:Bool}(Z:ZS h z TI TO i1 i2 l1 l2 k xs ys f0 f1) {a:Addr}(ha:ZW z TI TO i1 i2 a):∃ o,h.get? a=some o:=by
 obtain ⟨q1,q2,⟨zz,zz,q3⟩,⟨zz,q4,zz⟩,⟨zz,q5,zz⟩,zz,zz⟩:=Z
 rcases ha with rfl | rfl | rfl | rfl | rfl
 ·exact ⟨_,q1⟩
 ·exact ⟨_,q2⟩
 ·exact ⟨_,q3⟩
 ·exact ⟨_,q4⟩
 ·exact ⟨_,q5⟩
inductive ZO (P:Pm) (z TI TO i1 i2 l1 l2:Addr) (k:Nat) (vs us:List V) (f0:Value) (f1:Bool) (γ:Gh) (h:Heap):Prop
 | mk (hw:∀ a,ZW z TI TO i1 i2 a->dY P γ a) (D:ZipApart z TI TO i1 i2 l1 l2) (r1:γ.role l1=.frozen) (r2:γ.role l2=.frozen) (xs ys:Array Value) (Z:ZS h z TI TO i1 i2 l1 l2 k xs ys f0 f1) (R1:bI P γ h vs xs.toList) (R2:bI P γ h us ys.toList)
theorem ZO.hz {P:Pm}{z TI TO i1 i2 l1 l2:Addr}{k:Nat}{vs us:List V}{f0:Value}{f1:Bool}{γ:Gh}{h:Heap}(Z:ZO P z TI TO i1 i2 l1 l2 k vs us f0 f1 γ h):vU h z TI TO f0 f1:=let ⟨_,_,_,_,_,_,Z,_,_⟩:=Z; Z.hz
theorem ZO.there {P:Pm}{z TI TO i1 i2 l1 l2:Addr}{k:Nat}{vs us:List V}{f0:Value}{f1:Bool}{γ:Gh}{h:Heap}(Z:ZO P z TI TO i1 i2 l1 l2 k vs us f0 f1 γ h) {a:Addr}(ha:ZW z TI TO i1 i2 a):∃ o,h.get? a=some o:=let ⟨_,_,_,_,_,_,Z,_,_⟩:=Z; Z.there ha
theorem ZO.keep {z TI TO i1 i2 l1 l2:Addr}{k:Nat}{vs us:List V}{f0:Value}{f1:Bool}(Z:ZO P z TI TO i1 i2 l1 l2 k vs us f0 f1 γ h) (kk:∀ a o,ZW z TI TO i1 i2 a->γ.role a=.other->h.get? a=some o->γ'.role a=.other/\h'.get? a=some o)
  (f:fo γ h γ' h') (hg:γ.gn<=γ'.gn) (hga:∀ n,n < γ.gn->γ'.ga n=γ.ga n):ZO P z TI TO i1 i2 l1 l2 k vs us f0 f1 γ' h':=by
 obtain ⟨hw,D,r1,r2,xs,ys,Z,R1,R2⟩:=Z
 refine ⟨λa ha=>⟨?_,(hw a ha).2⟩,D,(f.tuple r1 Z.s1).1,(f.tuple r2 Z.s2).1,xs,ys,Z.keep λa o ha ho=>?_,R1.mono f hg hga,R2.mono f hg hga⟩
 ·obtain ⟨o,ho⟩:=Z.there ha
  exact (kk a o ha (hw a ha).1 ho).1
 ·clear D R1 R2 Z hg hga xs ys
  rcases ha with ha | rfl | rfl
  ·exact (kk a o ha (hw a ha).1 ho).2
  ·exact (f _ o r1 ho).2
  ·exact (f _ o r2 ho).2
theorem ZO.next {z TI TO i1 i2 l1 l2:Addr}{k:Nat}{vs us:List V}{u v:V}{f0:Value}{f1:Bool}{Q:Option Value->Shared->Prop}{Ex:Value->Shared->Prop}(Z:ZO P z TI TO i1 i2 l1 l2 k vs us f0 f1 γ s.heap) (Fz:ZF s.heap f0) (I:bP P γ s.heap g) (hu:vs[k]?=some u) (hv:us[k]?=some v)
  (q:∀ h' f0' f1' x y,(f0=.none->f0'=rawInt s.heap.objs.size/\f1'=false)->ZF h' f0'->IsPair h' s.heap.objs.size x y->bM P γ h' u x->bM P γ h' v y->dw (ZW z TI TO i1 i2) γ s.heap γ h'->bP P γ h' g->ZO P z TI TO i1 i2 l1 l2 (k+1) vs us f0' f1' γ h'->Q (some (.ref s.heap.objs.size)) (ey s h')):
  wpAny (model P.prog P.w) A (pyNext (.ref z)) Q Ex s:=by
 obtain ⟨hw,D,r1,r2,xs,ys,Z,R1,R2⟩:=Z
 obtain ⟨x,hx,rx⟩:=R1.get hu
 obtain ⟨y,hy,ry⟩:=R2.get hv
 refine xP D Z Fz (by rw [← aK]; exact hx) (by rw [← aK]; exact hy) λh' f0' f1' Z' c1 c2 p ks=>?_
 have ks':∀ b o,¬ ZW z TI TO i1 i2 b->s.heap.get? b=some o->h'.get? b=some o:=λb o n=>ks b o (λq=>n (.inl q)) (λq=>n (.inr (.inr (.inl q)))) (λq=>n (.inr (.inr (.inr (.inl q))))) λq=>n (.inr (.inr (.inr (.inr q))))
 have f:=gE (γ:=γ) ks' hw
 exact q h' f0' f1' x y c1 c2 p (rx.evP f) (ry.evP f) f (I.set ks' hw) ⟨hw,D,r1,r2,xs,ys,Z',R1.evP f,R2.evP f⟩
theorem ZO.stop {z TI TO i1 i2 l1 l2:Addr}{k:Nat}{vs us:List V}{f0:Value}{f1:Bool}{Q:Option Value->Shared->Prop}{Ex:Value->Shared->Prop}(hh:A.handled=none) (Z:ZO P z TI TO i1 i2 l1 l2 k vs us f0 f1 γ s.heap) (Fz:ZF s.heap f0) (I:bP P γ s.heap g) (hu:vs[k]?=none)
  (q:∀ h',dw (ZW z TI TO i1 i2) γ s.heap γ h'->bP P γ h' g->Q none (ey s h')):wpAny (model P.prog P.w) A (pyNext (.ref z)) Q Ex s:=by
 obtain ⟨hw,D,r1,r2,xs,ys,Z,R1,R2⟩:=Z
 have hx:xs[k]?=none:=by
  rw [← aK]
  clear R2 r1 r2
  cases e:xs.toList[k]? with
  | none=>rfl
  | some x=>obtain ⟨v,hv,zz⟩:=R1.get' e; rw [hu] at hv; cases hv
 refine xE hh D Z Fz hx λh' ks=>?_
 have ks':∀ b o,¬ ZW z TI TO i1 i2 b->s.heap.get? b=some o->h'.get? b=some o:=λb o n=>ks b o (λq=>n (.inl q)) (λq=>n (.inr (.inr (.inl q)))) (λq=>n (.inr (.inr (.inr (.inl q))))) λq=>n (.inr (.inr (.inr (.inr q))))
 exact q h' (gE ks' hw) (I.set ks' hw)
theorem qV {l1 l2:Addr}{xs ys:Array Value}{vs us:List V}{Q:Value->Shared->Prop}{Ex:Value->Shared->Prop}(I:bP P γ s.heap g) (r1:γ.role l1=.frozen) (r2:γ.role l2=.frozen) (hl1:s.heap.IsTuple l1 xs) (hl2:s.heap.IsTuple l2 ys) (R1:bI P γ s.heap vs xs.toList) (R2:bI P γ s.heap us ys.toList)
  (q:∀ h' z TI TO i1 i2,(∀ b o,s.heap.get? b=some o->h'.get? b=some o)->(∀ a,ZW z TI TO i1 i2 a->s.heap.get? a=none/\(h'.get? a).isSome=true)->ZO P z TI TO i1 i2 l1 l2 0 vs us .none false γ h'->Q (.ref z) (ey s h')):
  wpAny (model P.prog P.w) A (call (.type "zip") [.ref l1,.ref l2]) Q Ex s:=by
 refine yt hl1 hl2 λh' Z D gr=>?_
 have G:=Ev.grow (γ:=γ) gr
 have ge:∀ a,ZW (s.heap.objs.size+4) (s.heap.objs.size+2) (s.heap.objs.size+3) s.heap.objs.size (s.heap.objs.size+1) a->s.heap.objs.size<=a:=by
  rintro a (rfl | rfl | rfl | rfl | rfl)
  ·exact bn _ 4
  ·exact bn _ 2
  ·exact bn _ 3
  ·exact ak _
  ·exact bn _ 1
 exact q h' _ _ _ _ _ gr (λa ha=>⟨(I.fresh (ge a ha)).2,by obtain ⟨o,ho⟩:=Z.there ha; rw [ho]; rfl⟩) ⟨λa ha=>(I.fresh (ge a ha)).1,D,r1,r2,xs,ys,Z,R1.ev G,R2.ev G⟩
inductive DN (P:Pm) (z TI TO i1 i2:Addr) (r:List (List V)) (γ:Gh) (h:Heap):Prop
 | mk (l1 l2:Addr) (k:Nat) (vs us:List V) (f1:Bool) (hr:r=iJ (vs.drop k) (us.drop k)) (hl:vs.length=us.length) (Z:ZO P z TI TO i1 i2 l1 l2 k vs us .none f1 γ h)
theorem Wk.zip {z TI TO i1 i2:Addr}(hh:A.handled=none) {es:List Expr}{c:Nat}{p:Pos}:Wk P A (.Tuple es c p) z (ZW z TI TO i1 i2) (DN P z TI TO i1 i2) where
 keep:=λr γ h γ' h' ⟨l1,l2,k,vs,us,f1,hr,hl,Z⟩ kk f hg hga=>⟨l1,l2,k,vs,us,f1,hr,hl,Z.keep kk f hg hga⟩
 item:=λw r γ s g K Q Ex IV ⟨l1,l2,k,vs,us,f1,hr,hl,Z⟩ hK q=>by
  obtain ⟨u,v,hu,hv,rfl,hr'⟩:=vO hr
  rw [List.getElem?_drop,Nat.add_zero] at hu hv
  rw [List.tail_drop,List.tail_drop] at hr'
  refine Z.next (.inl rfl) IV hu hv λh1 f0' f1' x y c1 zz pr rx ry f I1 Z1=>hK _ _ ?_
  clear hu hv
  obtain ⟨rfl,rfl⟩:=c1 rfl
  obtain ⟨hw,D,r1,r2,xs,ys,Z1,R1,R2⟩:=Z1
  refine wpAny_letOwnedTupleGo_zip Z1.hz λh2 hz2 hs2=>?_
  have nz:∀ {a},a≠z->∀ o,h1.get? a=some o->h2.get? a=some o:=λn o e=>hs2.extBut _ _ n e
  have ks':∀ b o,¬ ZW z TI TO i1 i2 b->h1.get? b=some o->h2.get? b=some o:=λb o n=>nz (λq=>n (.inl q)) o
  have f2:=gE (γ:=γ) ks' hw
  have hzo:s.heap.objs.size≠z:=λq=>by
   have e:=Z1.hz
   rw [← q] at e
   injection pr.symm.trans e with e
   injection e with e
   injection e with e
   exact absurd e (by decide)
  refine q _ γ h2 _ (f.trans f2) (I1.set ks' hw) ⟨l1,l2,k+1,vs,us,false,hr',hl,hw,D,r1,r2,xs,ys,?_,R1.evP f2,R2.evP f2⟩ (.many (its:=#[x,y]) ⟨_,nz hzo _ pr,rfl,_,rfl⟩ (.cons (rx.evP f2) (.cons (ry.evP f2) .nil)))
  obtain ⟨zz,q2,⟨a,b,q3⟩,q4,q5,q6,q7⟩:=Z1
  exact ⟨hz2,nz D.TIz _ q2,⟨a,b,nz D.TOz _ q3⟩,q4.at λo e=>nz D.i1z o e,q5.at λo e=>nz D.i2z o e,(let ⟨o,e,r⟩:=q6; ⟨o,nz D.l1z o e,r⟩),(let ⟨o,e,r⟩:=q7; ⟨o,nz D.l2z o e,r⟩)⟩
 done:=λγ s g Q Ex IV ⟨l1,l2,k,vs,us,f1,hr,hl,Z⟩ q=>by
  have hn:vs[k]?=none:=by
   have:=wi hr
   rw [List.getElem?_drop,List.getElem?_drop,Nat.add_zero] at this
   rcases this with h | h
   ·exact h
   ·rw [List.getElem?_eq_none_iff] at h ⊢; lia
  exact Z.stop hh (.inl rfl) IV hn λh' f I=>q γ h' s.toks f I
 self:=λr γ s Q Ex ⟨l1,l2,k,vs,us,f1,hr,hl,Z⟩ q=>mi Z.hz q
theorem dK.zip {x:Str}{p pos p2:Pos}{pe1 pe2:Expr}{e1 e2:E}{es:List Expr}{c:Nat}{is:List Nat}(r:jE P fm x (.type "zip")) (S:bE P fm pe1 e1) (T:bE P fm pe2 e2)
  (he1:∀ env,starEach [pe1,pe2] env=(false,eval pe1 env)::starEach [pe2] env) (he2:∀ env,starEach [pe2] env=(false,eval pe2 env)::starEach [] env) (hp:dD [pe2]):
  dK P fm (.Call (.Name x p) [pe1,pe2] [] pos) .zip e1 e2 (.Tuple es c p2) is:=by
 intro cf n C A γ s env ae g a b g1 g2 its R I Er h1 h2 e3 Q Ex q
 refine cu e3 λvs hvs=>?_
 clear e3
 intro e3
 refine cu e3 λus hus=>?_
 clear e3
 intro e3
 refine bU e3 λhk e4=>?_
 clear e3
 cases e4
 refine oH (g':=g2) (mes:=[e1,e2]) (vs:=[a,b]) r (.cons S (.cons T .nil he2) he1) (.inr ⟨_,rfl⟩) he1 hp C R I Er (bL h1 (bL (bL h2 rfl) rfl)) λxs γ1 h1' t1 f1 I1 E1 r1=>?_
 clear C Er I S T h1 h2 he1 he2 hp r
 cases r1.twoI with | @mk y y2 ry ry2=>
 clear cf g g1 r1
 cases (ry.tup hvs).tupI with | @mk l1 xs ro1 ti1 li1=>
 clear hvs ry
 cases (ry2.tup hus).tupI with | @mk l2 ys ro2 ti2 li2=>
 refine qV I1 ro1 ro2 ti1 ti2 li1 li2 λh2' z TI TO i1 i2 gr hz Z=>?_
 refine mi Z.hz ?_
 have G:=Ev.grow (γ:=γ1) gr
 exact q _ _ _ γ1 h2' t1 (f1.trans G) (I1.grow gr) (E1.ev G) (Wk.zip R.hd) ⟨l1,l2,0,vs,us,false,rfl,hk.2.2.symm,Z⟩ λa ha=>⟨f1.none (hz a ha).1,(hz a ha).2⟩
end
theorem rV:typeLookup (.type "zip") "__len__"=pure none:=by rw [typeLookup_type,builtinLookup_eq_fast]; kernel_rfl
theorem re:typeLookup (.type "zip") "__length_hint__"=pure none:=by rw [typeLookup_type,builtinLookup_eq_fast]; kernel_rfl
section
variable {P:Pm}{K:Frag}{γ γ':Gh}{h h':Heap}{fm:Fm}{env:Env}{ae:En}{g:G}{A:Around}{s:Shared}{W:Nat}{Pl:Addr->Prop}
theorem BL {n:Nat}(h:n<=lim):n+1<=sizeLine:=aj (aR h) (by rw [sizeLine_eq]; decide)
theorem dw.freeze {a:Addr}(f:dw Pl γ h γ' h') (ha:h.get? a=none) (n:γ'.role a=.other):dw Pl γ h (γ'.put a .frozen) h':=by
 have ne:∀ {b:Addr}{o:Obj},h.get? b=some o->b≠a:=λe q=>by rw [q,ha] at e; cases e
 exact ⟨λb o r e=>⟨by rw [bK (ne e)]; exact (f.fro b o r e).1,(f.fro b o r e).2⟩,λb o r m e=>⟨by rw [bK (ne e)]; exact (f.oth b o r m e).1,(f.oth b o r m e).2⟩,
  λb o i r e=>⟨by rw [bK (ne e)]; exact (f.own b o i r e).1,(f.own b o i r e).2⟩,f.gn,f.ga⟩
theorem dy.at {x:Str}{v:Value}(r:dy env h x v) (k:∀ a o,cc env a->h.get? a=some o->h'.get? a=some o):dy env h' x v:=by
 rcases r with ⟨a,m,b,d⟩ | ⟨a,n,c,b,d⟩
 ·exact .inl ⟨a,m,Ns.keep b λo e=>k _ o (.inl rfl) e,d⟩
 ·exact .inr ⟨a,n,c,b,IsCell.keep d λo e=>k _ o (.inr ⟨x,b⟩) e⟩
theorem ZF.keep {f0:Value}(z:ZF h f0) (k:∀ a,(h.get? a).isSome=true->(h'.get? a).isSome=true):ZF h' f0:=z.imp id λ⟨T,a,b⟩=>⟨T,a,k T b⟩
theorem o7 {S z TI TO i1 i2 l1 l2:Addr}{x:Str}{i:Nat}{vs us:List V}{R:Result->Shared->Prop}(hh:A.handled=none) (hx:fm.vis.lookup x=some i) (hl:vs.length=us.length):∀ (m k:Nat) (γ:Gh) (s:Shared) (ae:En) (cur:List V) (f0:Value) (f1:Bool),m+k=vs.length ->
  bP P γ s.heap g->bG P γ s.heap fm env ae->(c7 ae i).bind hO=some cur->dy env s.heap x (.ref S)->ZO P z TI TO i1 i2 l1 l2 k vs us f0 f1 γ s.heap->ZF s.heap f0->(∀ a,ZW z TI TO i1 i2 a->¬ cc env a)->cur.length+m<=lim ->
  (∀ γ' h' tk,il (λa=>cc env a\/ZW z TI TO i1 i2 a) γ s.heap γ' h'->bP P γ' h' g->bG P γ' h' fm env (ae.set i (some (.ol (cur++(iJ (vs.drop k) (us.drop k)).map .tup))))->R (.ok (.ret .none)) (Sh s h' tk)) ->
  codeAny (model P.prog P.w) A (.builtin "list.extend.loop" ⟨[.ref S,.ref z,.none],[]⟩) R s:=by
 intro m
 induction m with
 | zero=>
  intro k γ s ae cur f0 f1 hm I E hi rv Z Fz np hle q
  refine codeAny_builtin F.entry_extend_loop ?_
  rw [Around.under_plainId F.plain_extend_loop _]
  have hk:vs.length<=k:=Nat.le_of_eq (hm.symm.trans (Nat.zero_add k))
  have hn:vs[k]?=none:=List.getElem?_eq_none hk
  show wpAny _ _ (pyNext (.ref z) >>= _) _ _ _
  refine ad (Z.stop hh Fz I hn λh' f I'=>af (q γ h' s.toks (f.es.sub λa ha=>.inl (.inr ha)) I' ?_))
  have hd:iJ (vs.drop k) (us.drop k)=[]:=by rw [List.drop_eq_nil_of_le hk]; rfl
  have E':=E.p f λa ha hw=>np a hw ha
  rw [hd,List.map_nil,bA]
  have:ae.set i (some (.ol cur))=ae:=by
   obtain ⟨hlt,e⟩:=aA.mp (fY hi)
   rw [← e]; exact List.set_getElem_self hlt
  rw [this]; exact E'
 | succ m ih=>
  intro k γ s ae cur f0 f1 hm I E hi rv Z Fz np hle q
  have hk1:k < vs.length:=hm ▸ Nat.lt_add_of_pos_left (Nat.succ_pos m)
  have hk2:k < us.length:=hl ▸ hk1
  refine codeAny_builtin F.entry_extend_loop ?_
  rw [Around.under_plainId F.plain_extend_loop _]
  show wpAny _ _ (pyNext (.ref z) >>= _) _ _ _
  refine ad (Z.next Fz I (aN hk1) (aN hk2) λh1 f0' f1' a b zz Fz1 pr ra rb f I1 Z1=>?_)
  have N:=I.fresh (ak _)
  have I2:=I1.freeze N.1 (by rw [pr]; rfl)
  have f2:=f.freeze N.2 N.1.1
  have E2:=E.p f2 λa ha hw=>np a hw ha
  have rv2:dy env h1 x (.ref S):=rv.at λb o hb e=>(f.oth b o (E.there hb).choose_spec.2 (λhw=>np b hw hb) e).2
  obtain ⟨S',its,rv',ro,ti,li⟩:=iu E2 hx hi
  clear Fz hh hl
  cases rv'.inj rv2
  have Z2:ZO P z TI TO i1 i2 l1 l2 (k+1) vs us f0' f1' (γ.put s.heap.objs.size .frozen) h1:=by
   have nw:∀ b,γ.role b≠.other\/ZW z TI TO i1 i2 b->b≠s.heap.objs.size:=λb hb e=>by
    rcases hb with hb | hb
    ·exact hb (by rw [e]; exact N.1.1)
    ·obtain ⟨o,ho⟩:=Z.there hb
     rw [e,N.2] at ho; cases ho
   exact Z1.keep (λb o hw r e=>⟨by rw [bK (nw b (.inr hw))]; exact r,e⟩) (λb o r e=>⟨by rw [bK (nw b (.inl (by rw [r]; exact λq=>nomatch q)))]; exact r,e⟩) (ak _) λzz zz=>rfl
  have rp:bM P (γ.put s.heap.objs.size .frozen) h1 (.tup [vs[k],us[k]]) (.ref s.heap.objs.size):=by
   have fr:fo γ h1 (γ.put s.heap.objs.size .frozen) h1:=λb o r e=>⟨by rw [bK (λz=>by rw [z,N.1.1] at r; cases r)]; exact r,e⟩
   exact ⟨_,#[a,b],rfl,cz,⟨_,pr,rfl,_,rfl⟩,.cons (ra.mono fr (ak _) λzz zz=>rfl) (.cons (rb.mono fr (ak _) λzz zz=>rfl) .nil)⟩
  clear Z1 I1 f ra rb Z I rv rv' E
  generalize γ.put s.heap.objs.size .frozen=γ2 at *
  obtain ⟨kt,hS⟩:=ti
  have hsz:its.size=cur.length:=(aM (xs:=its)).symm.trans li.length
  have hle2:its.size+1<=sizeLine:=by rw [hsz]; exact sz _ (aj (bu (aR (aZ m)) _) hle)
  show wpAny _ _ (updateSeq S (·.push (.ref s.heap.objs.size)) >>= _) _ _ _
  refine ad (wpAny_updateSeq (hz:=aJ hle2) (_hz':=by rw [Array.size_push]; exact Nat.le_succ_of_le hle2) hS rfl (af ⟨plainId_quiet F.plain_extend_loop _,?_⟩))
  have ks:Heap.SameBut S h1 (h1.update S (Obj.mapSeq (·.push (.ref s.heap.objs.size)))):=bb ..
  have hS3:=aX (Obj.mapSeq (·.push (Value.ref s.heap.objs.size))) hS rfl
  generalize h1.update S (Obj.mapSeq (·.push (.ref s.heap.objs.size)))=h3 at ks hS3
  have nS:∀ {b:Addr},γ2.role b≠.own i->b≠S:=λhb e=>hb (by rw [e]; exact ro)
  have kp:∀ b o,γ2.role b≠.own i->h1.get? b=some o->h3.get? b=some o:=λb o n e=>ks.extBut b o (nS n) e
  have alive:∀ b,(h1.get? b).isSome=true->(h3.get? b).isSome=true:=λb hb=>by
   by_cases hbS:b=S
   ·rw [hbS,hS3]; rfl
   ·obtain ⟨o,ho⟩:=aq.mp hb
    rw [ks.extBut b o hbS ho]; rfl
  have hlt:=eo (fY hi)
  have e1:cur++(iJ (vs.drop k) (us.drop k)).map V.tup=(cur++[.tup [vs[k],us[k]]])++(iJ (vs.drop (k+1)) (us.drop (k+1))).map V.tup:=by
   rw [← List.getElem_cons_drop hk1,← List.getElem_cons_drop hk2]; exact (List.append_assoc cur [_] _).symm
  refine ih (k+1) γ2 (ey s h3) (ae.set i (some (.ol (cur++[.tup [vs[k],us[k]]])))) (cur++[.tup [vs[k],us[k]]]) f0' f1' ((Nat.succ_add_eq_add_succ m k).symm.trans hm) (I2.own ks ro (by rw [hS3]; rfl)) (E2.own hx (fY hi) ks ro (λv rw=>rw.inj rv2) ⟨S,_,rfl,ro,⟨_,hS3⟩,?_⟩) (by rw [c7,bD hlt]; rfl) (rv2.at λb o hb e=>kp b o (by rw [(E2.there hb).choose_spec.2]; exact λq=>nomatch q) e)
   (Z2.keep (λb o hw r e=>⟨r,kp b o (by rw [r]; exact λq=>nomatch q) e⟩) (λb o r e=>⟨r,kp b o (by rw [r]; exact λq=>nomatch q) e⟩) (ak _) λzz zz=>rfl) (Fz1.keep alive) np (by rw [aB,List.length_singleton,Nat.add_assoc,Nat.add_comm 1]; exact hle) λγ' h' tk f' I' E'=>?_
  ·show bI P γ2 h3 _ (its.push _).toList
   rw [Array.toList_push]
   exact (li.evO ks ro).append (.cons (rp.evO ks ro) .nil)
  ·rw [List.set_set,← e1] at E'
   exact q γ' h' tk ((f2.es.sub λa ha=>.inl (.inr ha)).trans ((il.own ks ro).trans f')) I' E'
theorem b0.extZip {x y:Str}{p apos pos spos zp zpos:Pos}{pe1 pe2:Expr}{e1 e2:E}{i:Nat}(hx:fm.vis.lookup x=some i) (r:jE P fm y (.type "zip")) (S:bE P fm pe1 e1) (T:bE P fm pe2 e2) {pl:Env->Sem Bool}
  (he:cq (.Name x p) "extend" apos pos [.Call (.Name y zp) [pe1,pe2] [] zpos] pl) (h1:∀ env,starEach [.Call (.Name y zp) [pe1,pe2] [] zpos] env=(false,eval (.Call (.Name y zp) [pe1,pe2] [] zpos) env)::starEach [] env)
  (he1:∀ env,starEach [pe1,pe2] env=(false,eval pe1 env)::starEach [pe2] env) (he2:∀ env,starEach [pe2] env=(false,eval pe2 env)::starEach [] env) (hp:dD [pe2]):
  b0 P fm W (.Expr (.Call (.Attribute (.Name x p) "extend" apos) [.Call (.Name y zp) [pe1,pe2] [] zpos] [] pos) spos) (.extZip i e1 e2):=by
 intro cf n C A γ s env ae g fl ae' g' R I Er
 refine cC λv1 g1 h1'=>gZ λvs hvs=>cC λv2 g2 h2'=>gZ λus hus=>gZ λcur hi=>c9 λhl=>cE.of' ?_
 intro Q Ex q
 obtain ⟨S',its,rv,ro,ti,li⟩:=iu Er hx hi
 refine wpAny_Expr_any (k7 PySem.F.plainAttrs_list PySem.F.slot_list_extend PySem.F.type_list_extend he h1 (λzz zz=>rfl) (wpAny_Name (cS (by rw [Er.sc]; exact Er.kind) rv ⟨(cW ti).1,(cW ti).2,?_⟩) (Er.nd x i hx).2)) (dF Er) rfl
 refine args_cons (oH (g':=g2) (mes:=[e1,e2]) (vs:=[v1,v2]) r (.cons S (.cons T .nil he2) he1) (.inr ⟨_,rfl⟩) he1 hp C R I Er (bL h1' (bL (bL h2' rfl) rfl)) λxs γ1 h2 t1 f1 I1 E1 r1=>?_) (h1 env)
 clear C I S T ae' fl g' h1 h1' h2' he he1 he2 li ro ti
 cases r1.twoI with | @mk y y2 ry ry2=>
 clear cf g its r1
 cases (ry.tup hvs).tupI with | @mk l1 xs ro1 ti1 li1=>
 clear hvs ry v1
 cases (ry2.tup hus).tupI with | @mk l2 ys ro2 ti2 li2=>
 refine qV I1 ro1 ro2 ti1 ti2 li1 li2 λh3 z TI TO i1 i2 gr hz Z=>args_nil ?_
 have G:=Ev.grow (γ:=γ1) gr
 have E3:=E1.ev G
 have I3:=I1.grow gr
 have F:=f1.trans G
 have rv3:dy env h3 x (.ref S'):=rv.ev F Er.loc.1 (λx c e=>(Er.cel x c e).1)
 have hzw:∀ a,ZW z TI TO i1 i2 a->¬ cc env a:=λa ha hp=>by
  obtain ⟨o,ho,zz⟩:=E1.there hp
  rw [(hz a ha).1] at ho; cases ho
 obtain ⟨S2,its3,rv3',ro3,⟨kt,hS⟩,li3⟩:=iu E3 hx hi
 clear E1 Er G I1 g1 gr hp hus li1 li2 ro1 ro2 rv ry2 ti1 ti2 ys
 cases rv3'.inj rv3
 have hsz:its3.size=cur.length:=(aM (xs:=its3)).symm.trans li3.length
 have hle2:its3.size+1<=sizeLine:=by rw [hsz]; exact BL (Nat.le_of_add_right_le hl.1)
 have Z':=Z.hz
 have hzS:S'≠z:=λe=>by
  have e2:=Z'
  rw [← e] at e2
  injection hS.symm.trans e2 with e2
  injection e2 with e2
  injection e2 with e2
  exact absurd e2 (by decide)
 have hTz:Shared.TypeIs (Sh s h3 t1) (.ref z) "zip":=⟨_,Z',rfl⟩
 refine wpAny_call (codeAny_call_builtin PySem.F.slot_list_extend.plain PySem.F.entry_list_extend (PySem.F.slot_list_extend.check _ _ _ _ _ _ _ _ ⟨_,hS,rfl⟩ (PySem.F.args_list_extend_2 _ _) ?_))
 show wpAny _ _ (Builtin.List.listExtendWith (.ref S') (.ref z) .none) _ _ _
 unfold Builtin.List.listExtendWith
 refine ad (wpAny_typeOf hTz ?_)
 have b1:Builtin.List.listSameRef (.ref S') (.ref z)=false:=by simp [Builtin.List.listSameRef,hzS]
 have b2:(Value.type "zip" == Value.type "list")=false:=by decide
 have b3:(Value.type "zip" == Value.type "tuple")=false:=by decide
 simp -iota only [b1,b2,b3,Bool.or_false,Bool.false_eq_true,if_false]
 refine ad (mi Z' (ad (aH ?_)))
 unfold Builtin.List.listLengthHint
 refine ad (wpAny_specialOf hTz rV ?_)
 show wpAny _ _ (specialOf (Value.ref z) (Str.ofString "__length_hint__") >>= _) _ _ _
 refine ad (wpAny_specialOf hTz re (af ?_))
 show wpAny _ _ (rule "list.extend.makes-room" >>= λzz=>Builtin.List.listTouch (.ref S') >>= λzz=>again (.builtin "list.extend.loop" ⟨[.ref S',.ref z,.none],[]⟩)) _ _ _
 refine ad (wpAny_rule (ad ?_))
 show wpAny _ _ (updateSeq S' (·.push .none) >>= λzz=>updateSeq S' (·.pop)) _ _ _
 refine ad (wpAny_updateSeq (hz:=aJ hle2) (_hz':=by rw [Array.size_push]; exact Nat.le_succ_of_le hle2) hS rfl ?_)
 have k1:Heap.SameBut S' h3 (h3.update S' (Obj.mapSeq (·.push .none))):=bb ..
 have hS2:=aX (Obj.mapSeq (·.push Value.none)) hS rfl
 generalize h3.update S' (Obj.mapSeq (·.push .none))=h4 at k1 hS2
 refine wpAny_updateSeq (hz:=by rw [Array.size_push]; exact hle2) (_hz':=by rw [Array.size_pop,Array.size_push]; exact Nat.le_succ_of_le (aJ hle2)) hS2 rfl ?_
 have k2:Heap.SameBut S' h4 (h4.update S' (Obj.mapSeq (·.pop))):=bb ..
 have hS3:=aX (Obj.mapSeq (·.pop)) hS2 rfl
 generalize h4.update S' (Obj.mapSeq (·.pop))=h5 at k2 hS3
 have ks:Heap.SameBut S' h3 h5:=⟨k2.1.trans k1.1,λb hb=>(k2.2 b hb).trans (k1.2 b hb)⟩
 have kp:∀ b o,γ1.role b≠.own i->h3.get? b=some o->h5.get? b=some o:=λb o n e=>ks.extBut b o (λq=>n (by rw [q]; exact ro3)) e
 have sl5:bT P γ1 h5 (.own i) (.ol cur) (.ref S'):=⟨S',_,rfl,ro3,⟨_,hS3⟩,by rw [Array.toList_pop,Array.toList_push,List.dropLast_concat]; exact li3.evO ks ro3⟩
 have E5:=E3.own hx (fY hi) ks ro3 (λv rw=>rw.inj rv3) sl5
 have hae:ae.set i (some (.ol cur))=ae:=by
  obtain ⟨hlt,e⟩:=aA.mp (fY hi)
  rw [← e]; exact List.set_getElem_self hlt
 rw [hae] at E5
 have Z5:ZO P z TI TO i1 i2 l1 l2 0 vs us .none false γ1 h5:=Z.keep (λb o hw r e=>⟨r,kp b o (by rw [r]; exact λq=>nomatch q) e⟩) (λb o r e=>⟨r,kp b o (by rw [r]; exact λq=>nomatch q) e⟩) (ak _) λzz zz=>rfl
 refine af ⟨plainId_quiet PySem.F.plain_extend_loop _,o7 R.hd hx hl.2.symm vs.length 0 γ1 (Sh s h5 t1) ae cur .none false rfl (I3.own ks ro3 (by rw [hS3]; rfl)) E5 hi (rv3.at λb o hb e=>kp b o (by rw [(E3.there hb).choose_spec.2]; exact λq=>nomatch q) e) Z5 (.inl rfl) hzw hl.1 λγ' h' tk f' I' E'=>?_⟩
 rw [List.drop_zero,List.drop_zero] at E'
 exact q _ γ' h' tk ((F.es.trans ((il.own ks ro3).trans f')).sub λa ha=>ha.imp id λhw r=>f1.none (hz a hw).1 r) I' (.nxt E')
end
set_option tactic.hygienic true in
theorem fq {x:Str}:∀ (ns:List (Str × NameKind)) (n:Nat) (acc:List (Str × Addr)),(x,NameKind.cell)∈ns\/(acc.lookup x).isSome=true->((cellsFrom n ns acc).lookup x).isSome=true
 | [],n,acc,h=>h.elim (λq=>nomatch q) id
 | (y,k)::r,n,acc,h=>by
  unfold cellsFrom
  split
  ·rename_i hk
   refine fq r (n+1) _ ?_
   rcases h with h | h
   ·rcases az.mp h with h | h
    ·cases h
     exact .inr (by rw [aS,beq_self_eq_true]; rfl)
    ·exact .inl h
   ·refine .inr ?_
    rw [aS]
    split
    ·rfl
    ·exact h
  ·rename_i hk
   refine fq r n acc (h.imp (λh=>?_) id)
   rcases az.mp h with h | h
   ·clear n
    cases h; exact absurd rfl hk
   ·exact h
theorem lV {k:Str->Option NameKind}{x:Str}:∀ {ns:List Str}{xs:List Value}{m:Str->Option Value},x∉ns->bindL k (ns.zip xs) m x=m x
 | [],xs,m,_=>rfl
 | n::ns,[],m,_=>rfl
 | n::ns,v::xs,m,h=>by
  rw [List.zip_cons_cons,bindL,lV (λq=>h (ai _ q))]
  split
  ·exact if_neg (λq:x=n=>h (by rw [q]; exact aa))
  ·rfl
theorem ni {k:Str->Option NameKind}{x:Str}{v:Value}(hk:k x=some .local):∀ {ns:List Str}{xs:List Value}{m:Str->Option Value}{i:Nat},ns.Nodup->ns[i]?=some x->xs[i]?=some v->bindL k (ns.zip xs) m x=some v
 | [],xs,m,i,_,h,_=>by simp at h
 | n::ns,[],m,i,_,_,h=>by simp at h
 | n::ns,u::xs,m,i,nd,h1,h2=>by
  rw [List.zip_cons_cons,bindL]
  obtain ⟨d1,d2⟩:=aT.mp nd
  clear nd
  cases i with
  | zero=>cases h1; cases h2; rw [lV d1,if_pos hk,if_pos rfl]
  | succ i=>exact ni hk d2 (by simpa using h1) (by simpa using h2)
theorem mO {k:Str->Option NameKind}{x:Str}:∀ {ns:List Str}{xs:List Value}{m:Str->Option Value},x∉ns->bindC k (ns.zip xs) m x=m x
 | [],xs,m,_=>rfl
 | n::ns,[],m,_=>rfl
 | n::ns,v::xs,m,h=>by
  rw [List.zip_cons_cons,bindC,mO (λq=>h (ai _ q))]
  split
  ·rfl
  ·exact if_neg (λq:x=n=>h (by rw [q]; exact aa))
theorem n8 {k:Str->Option NameKind}{x:Str}{v:Value}(hk:¬ k x=some .local):∀ {ns:List Str}{xs:List Value}{m:Str->Option Value}{i:Nat},ns.Nodup->ns[i]?=some x->xs[i]?=some v->bindC k (ns.zip xs) m x=some v
 | [],xs,m,i,_,h,_=>by simp at h
 | n::ns,[],m,i,_,_,h=>by simp at h
 | n::ns,u::xs,m,i,nd,h1,h2=>by
  rw [List.zip_cons_cons,bindC]
  obtain ⟨d1,d2⟩:=aT.mp nd
  clear nd
  cases i with
  | zero=>cases h1; cases h2; rw [mO d1,if_neg hk,if_pos rfl]
  | succ i=>exact n8 hk d2 (by simpa using h1) (by simpa using h2)
theorem uR {x:Str}{i:Nat}:∀ {ns:List Str}{k:Nat},(ns.zipIdx k).lookup x=some i->∃ j,i=k+j/\ns[j]?=some x:=by
 intro ns
 induction ns with
 | nil=>intro k h; exact no h
 | cons n ns ih=>
  intro k h
  rw [List.zipIdx_cons,aS] at h
  cases e:x == n with
  | true=>rw [e] at h; cases h; cases bg e; exact ⟨0,rfl,rfl⟩
  | false=>
   rw [e] at h
   obtain ⟨j,a,b⟩:=ih h
   exact ⟨j+1,by rw [a,Nat.add_assoc,Nat.add_comm 1],b⟩
theorem gB {x:Str}{i:Nat}{ns:List Str}(h:ns.zipIdx.lookup x=some i):ns[i]?=some x:=by
 obtain ⟨j,a,b⟩:=uR h
 rw [a,Nat.zero_add]; exact b
structure z7 (sc:Scope) (ns:List Str) (np:Nat):Prop where
 kind:sc.kind=.function
 co:sc.isCoroutine=false
 gen:sc.isGenerator=false
 free:sc.names.all (λx=>x.2 != .free)=true
 nd:(ns.take np).Nodup
 std:ns.all (λx=>!(x == ("__classdict__":Str)) && !(x == ("__debug__":Str)))=true
 par:(ns.take np).all (λx=>sc.names.lookup x == some .local || sc.names.lookup x == some .cell)=true
inductive BH (P:Pm) (W:Nat) (f:Fn) (d:cR):Prop
 | mk (o:Obj) (fd:FuncData) (body:List Stmt) (ns:List Str) (h1:P.h0.get? (P.fa f)=some o) (h2:o.data=.func fd) (h3:fd.body=.stmts body) (h4:fd.globals=mainGlobals) (h5:fd.closure=[]) (h6:fd.builtins=builtinsNs) (h7:P.h0.CodeRec fd.code fd.qualname)
  (F:z7 fd.scope ns d.np) (hle:d.np<=ns.length) (hb:∀ xs:List Value,xs.length=d.np->bindArgs fd ⟨xs,[]⟩=pure ((ns.take d.np).zip xs)) (S:bX P ⟨fd.scope,ns.zipIdx,fd.code,fd.qualname++".<locals>."⟩ W body d.body)
noncomputable def cQ.plain:cQ->cQ
 | .own _=>.other
 | r=>r
noncomputable def Gh.leaf (γ:Gh):Gh:={ γ with role:=λa=>(γ.role a).plain }
noncomputable def Gh.home (γ γ':Gh):Gh:={ γ' with role:=λa=>match γ.role a with
 | .own i=>.own i
 | _=>(γ'.role a).plain }
theorem qQ {r:cQ}(h:∀ i,r≠.own i):r.plain=r:=by cases r <;> first | rfl | exact absurd rfl (h _)
theorem eE {γ:Gh}{a:Addr}{r:cQ}(h:γ.role a=r) (n:∀ i,r≠.own i):γ.leaf.role a=r:=by show (γ.role a).plain=r; rw [h]; exact qQ n
theorem xo {γ γ':Gh}{a:Addr}{i:Nat}(h:γ.role a=.own i):(γ.home γ').role a=.own i:=by show (match γ.role a with | .own i=>_ | _=>_)=_; rw [h]
theorem fL {γ γ':Gh}{a:Addr}{r:cQ}(h:γ'.role a=r) (n:∀ i,r≠.own i) (m:∀ i,γ.role a≠.own i):(γ.home γ').role a=r:=by
 have:(γ.home γ').role a=(γ'.role a).plain:=by
  show (match γ.role a with | .own i=>_ | _=>_)=_
  cases q:γ.role a with
  | own i=>exact absurd q (m i)
  | _=>rfl
 rw [this,h]; exact qQ n
section
variable {P:Pm}{γ γ':Gh}{h h':Heap}{g:G}
theorem bP.leaf (I:bP P γ h g) (k:∀ b o,h.get? b=some o->h'.get? b=some o):bP P γ.leaf h' g:=by
 have ne:∀ {r:cQ},r=.frozen\/r=.other\/r=.tab\/(∃ n t,r=.glob n t)->∀ i,r≠.own i:=by
  rintro r (rfl | rfl | rfl | ⟨_,_,rfl⟩) i q <;> cases q
 refine I.keep (λa o r e=>⟨eE r (ne (.inl rfl)),k a o e⟩) rfl (λzz zz=>rfl) (λa ha=>?_) (λa o n t r e=>⟨eE r (ne (.inr (.inr (.inr ⟨_,_,rfl⟩)))),k a o e⟩)
  (λa o zz r e=>⟨eE r (ne (.inr (.inl rfl))),k a o e⟩) λo r e=>⟨eE r (ne (.inr (.inr (.inl rfl)))),k _ o e⟩
 obtain ⟨o,ho⟩:=aq.mp (I.wf a λq=>ha (eE q (ne (.inr (.inl rfl)))))
 rw [k a o ho]; rfl
theorem bP.home (I:bP P γ' h g) (k:∀ a i,γ.role a=.own i->γ'.role a=.other/\(h.get? a).isSome=true) (k0:∀ a i,γ.role a=.own i->P.h0.get? a=none):bP P (γ.home γ') h g:=by
 have ne:∀ {a:Addr}{r:cQ},γ'.role a=r->r≠.other->∀ i,γ.role a≠.own i:=λq n i e=>n (q.symm.trans (k _ i e).1)
 refine I.keep (λa o r e=>⟨fL r (λi q=>nomatch q) (ne r (λq=>nomatch q)),e⟩) rfl (λzz zz=>rfl) (λa ha=>?_) (λa o n t r e=>⟨fL r (λi q=>nomatch q) (ne r (λq=>nomatch q)),e⟩)
  (λa o b r e=>⟨?_,e⟩) λo r e=>⟨fL r (λi q=>nomatch q) (ne r (λq=>nomatch q)),e⟩
 ·by_cases q:∃ i,γ.role a=.own i
  ·obtain ⟨i,q⟩:=q; exact (k a i q).2
  ·refine I.wf a λr=>ha (fL r (λi q=>nomatch q) λi e=>q ⟨i,e⟩)
 ·exact fL r (λi q=>nomatch q) λi q=>by rw [k0 a i q] at b; cases b
theorem bM.leaf {v:V}{x:Value}(k:∀ b o,h.get? b=some o->h'.get? b=some o) (r:bM P γ h v x):bM P γ.leaf h' v x:=
 r.mono (λa o r e=>⟨eE r (λi q=>nomatch q),k a o e⟩) (ak _) λzz zz=>rfl
theorem bI.leaf {v:List V}{x:List Value}(k:∀ b o,h.get? b=some o->h'.get? b=some o) (r:bI P γ h v x):bI P γ.leaf h' v x:=
 r.mono (λa o r e=>⟨eE r (λi q=>nomatch q),k a o e⟩) (ak _) λzz zz=>rfl
theorem tV {Pl:Addr->Prop}{h₁:Heap}(I:bP P γ h g) (k:∀ b o,h.get? b=some o->h₁.get? b=some o) (f:il Pl γ.leaf h₁ γ' h') (pl:∀ a,Pl a->h.get? a=none):Ev γ h (γ.home γ') h':=by
 have np:∀ {a o},h.get? a=some o->¬ Pl a:=λe q=>by rw [pl _ q] at e; cases e
 refine ⟨λa o r e=>?_,λa o r e=>?_,λa o i r e=>⟨xo r,(f.oth a o ?_ (np e) (k a o e)).2⟩,f.gn,f.ga⟩
 ·obtain ⟨r',e'⟩:=f.fro a o (eE r λi q=>nomatch q) (k a o e)
  exact ⟨fL r' (λi q=>nomatch q) (λi q=>by rw [r] at q; cases q),e'⟩
 ·obtain ⟨r',e'⟩:=f.oth a o (eE r λi q=>nomatch q) (np e) (k a o e)
  exact ⟨fL r' (λi q=>nomatch q) (λi q=>by rw [r] at q; cases q),e'⟩
 ·show (γ.role a).plain=_; rw [r]; rfl
theorem qI {Pl:Addr->Prop}{h₁:Heap}{g':G}(I:bP P γ h g) (k:∀ b o,h.get? b=some o->h₁.get? b=some o) (f:il Pl γ.leaf h₁ γ' h') (pl:∀ a,Pl a->h.get? a=none) (J:bP P γ' h' g'):
  bP P (γ.home γ') h' g':=by
 refine J.home (λa i r=>?_) λa i r=>?_
 ·obtain ⟨o,ho⟩:=aq.mp (I.wf a (by rw [r]; exact λq=>nomatch q))
  obtain ⟨r',e'⟩:=f.oth a o (show (γ.role a).plain=_ by rw [r]; rfl) (λq=>by rw [pl _ q] at ho; cases ho) (k a o ho)
  exact ⟨r',by rw [e']; rfl⟩
 ·clear J f k pl
  cases q:P.h0.get? a with
  | none=>rfl
  | some o=>rcases (I.base a o q).1 with z | z <;> (rw [r] at z; cases z)
theorem bM.home (k:∀ a i,γ.role a=.own i->γ'.role a=.other) {v:V}{x:Value}(r:bM P γ' h v x):bM P (γ.home γ') h v x:=
 r.mono (λa o r e=>⟨fL r (λi q=>nomatch q) (λi q=>by rw [k a i q] at r; cases r),e⟩) (ak _) λzz zz=>rfl
end
theorem qU {x y:Str}{c:Addr}:∀ {l:List (Str × Addr)},l.Pairwise (λx y=>x.2≠y.2)->(x,c)∈l->(y,c)∈l->x=y
 | p::l,h,h1,h2=>by
  obtain ⟨a,b⟩:=List.pairwise_cons.mp h
  rcases az.mp h1 with e1 | k1
  ·rcases az.mp h2 with e2 | k2
   ·rw [← e2] at e1; cases e1; rfl
   ·clear h h1
    subst e1; exact (a _ k2 rfl).elim
  ·rcases az.mp h2 with e2 | k2
   ·clear h h1 h2
    subst e2; exact (a _ k1 rfl).elim
   ·exact qU b k1 k2
theorem nM {P:Pm}{γ:Gh}{s s₁:Shared}{g:G}{fd:FuncData}{a:Addr}{ns:List Str}{np m:Nat}{args:List V}{xs:List Value}(I:bP P γ s.heap g) (hg:fd.globals=mainGlobals) (hb:fd.builtins=builtinsNs)
  (F:z7 fd.scope ns np) (hl:args.length=np) (r:bI P γ s.heap args xs)
  (X:InCallC s (callEnvC fd s.heap.objs.size a).locals (bindL (callEnvC fd s.heap.objs.size a).kindOf ((ns.take np).zip xs) λzz=>none) (callEnvC fd s.heap.objs.size a).cells
    (bindC (callEnvC fd s.heap.objs.size a).kindOf ((ns.take np).zip xs) λzz=>none) s₁):
  bG P γ.leaf s₁.heap ⟨fd.scope,ns.zipIdx,fd.code,fd.qualname++".<locals>."⟩ (callEnvC fd s.heap.objs.size a) (args.map (λv=>some (.val v))++List.replicate m none):=by
 have fr:∀ b,s.heap.objs.size<=b->γ.leaf.role b=.other/\P.h0.get? b=none:=λb hb=>by
  have e:s.heap.get? b=none:=by
   cases e:s.heap.get? b with
   | none=>rfl
   | some o=>exact absurd (Heap.lt_size e) (Nat.not_lt.mpr hb)
  refine ⟨eE ?_ (λi q=>nomatch q),?_⟩
  ·cases q:γ.role b with
   | other=>rfl
   | _=>have:=I.wf b (by rw [q]; exact λq=>nomatch q); rw [e] at this; cases this
  ·cases q:P.h0.get? b with
   | none=>rfl
   | some o=>have:=(I.base b o q).2; rw [e] at this; cases this
 have par:∀ {x:Str}{i:Nat},(ns.take np)[i]?=some x->fd.scope.names.lookup x=some .local\/fd.scope.names.lookup x=some .cell:=λ{x i} e=>by
  have:=aG.mp F.par x (aW e)
  simpa using this
 have has:∀ {x:Str},fd.scope.names.lookup x=some .cell->((callEnvC fd s.heap.objs.size a).cells.lookup x).isSome=true:=λ{x} e=>fq _ _ _ (.inl (bz e))
 have K:∀ x,(callEnvC fd s.heap.objs.size a).kindOf x=fd.scope.names.lookup x:=λx=>rfl
 refine ⟨rfl,rfl,rfl,F.kind,hg,hb,λx y i e1 e2=>?_,λx i e=>?_,⟨(fr _ (ak _)).1,(fr _ (ak _)).2,_,X.toInCall.ns⟩,λx c e=>?_,λx y c e1 e2=>?_,λx e=>?_,λx i sl e1 e2=>?_⟩
 ·exact av ((gB e1).symm.trans (gB e2))
 ·have:=aG.mp F.std x (aW (gB e))
  simpa using this
 ·have:=fr c (Nat.le_of_lt (X.above x c (bz e)))
  exact ⟨this.1,this.2,_,X.cell x c e⟩
 ·exact qU X.apart (bz e1) (bz e2)
 ·rcases e with e | e
  ·exact has e
  ·have:=aG.mp F.free _ (bz e)
   exact absurd this (by simp)
 ·have hi:=gB e1
  have hlt:i < np:=by
   refine Classical.byContradiction λq=>?_
   rw [List.getElem?_append_right (by rw [aw,hl]; exact Nat.le_of_not_lt q)] at e2
   have:=aW e2
   rw [List.mem_replicate] at this
   clear I e1 fr hb hg
   cases this.2
  rw [bC (by rw [aw,hl]; exact hlt),List.getElem?_map,Option.map_eq_some_iff] at e2
  obtain ⟨v,hv,e2⟩:=e2
  clear I e1 fr hb hg hl
  cases e2
  obtain ⟨u,hu,ru⟩:=r.get hv
  have hx:(ns.take np)[i]?=some x:=by rw [List.getElem?_take,if_pos hlt]; exact hi
  refine ⟨u,?_,ru.leaf X.toInCall.keep⟩
  rcases par hx with k | k
  ·exact .inl ⟨k,_,X.toInCall.ns,ni k F.nd hx hu⟩
  ·refine .inr ⟨.inl k,?_,?_⟩
   ·have:=aG.mp F.std x (aW hi)
    simp only [Bool.and_eq_true,Bool.not_eq_true'] at this
    exact this.1
   ·obtain ⟨c,hc⟩:=aq.mp (has k)
    have:=X.cell x c hc
    rw [n8 (by rw [K,k]; exact λq=>nomatch q) F.nd hx hu] at this
    exact ⟨c,hc,this⟩
theorem BY {a n:Nat}(h:a+(4 * (n+1)+2) < 600):a+1+(4 * n+4) < 600:=by lia
theorem Dh {a n:Nat}(h:a+(64 * (n+1)+40) < 9000):a+3+(64 * n+64) < 9000:=by lia
theorem cx.succ {P:Pm}{W:Nat}{tbl:Fn->cR}(ok:∀ f,BH P W f (tbl f)) (hn:P.h0.NoLimit) {cf:Cf}{n:Nat}(C:cx P cf n):cx P (λf args g=>Cq W cf (tbl f) args g) (n+1):=by
 intro f A γ s g args v g' xs Rm I r e R q
 obtain ⟨o,fd,body,ns,h1,h2,h3,h4,h5,h6,h7,F,hle,hbind,S⟩:=ok f
 refine bU e λhl=>?_
 clear e
 intro e
 refine zy e λfl env' g1 e1 e2=>?_
 have hxs:xs.length=(tbl f).np:=by rw [r.length]; exact hl
 refine codeAny_call_cells (aI (bn _ _) (Nat.lt_trans Rm.dep (by decide))) (I.base _ _ h1).2 h2 (hn.keeps I.old) (h7.keeps I.old) h3 (hbind xs hxs) h5 (λx hx=>?_) (λs₁ X=>?_) F.co F.gen F.kind
 ·have hm:=(List.of_mem_zip (show (x.1,x.2)∈_ from hx)).1
  have:=aG.mp F.par x.1 hm
  simp only [Bool.or_eq_true,beq_iff_eq] at this
  exact this.imp id λk=>⟨k,fq _ _ _ (.inl (bz k))⟩
 ·clear e h1 h2 h3 h5 h7 hbind hle hn hxs ok
  obtain ⟨hh,tk,rfl,keep⟩:=X.done
  have En:=nM (m:=(tbl f).nv - (tbl f).np) I h4 h6 F hl r X
  have pl:∀ b,cc (callEnvC fd s.heap.objs.size (P.fa f)) b->s.heap.get? b=none:=λb hb=>by
   have hge:s.heap.objs.size<=b:=by
    clear F h4 h6 hl r
    rcases hb with rfl | ⟨x,hx⟩
    ·exact ak _
    ·exact Nat.le_of_lt (X.above x b (bz hx))
   clear F X h4 h6 hb hl r xs
   cases q:s.heap.get? b with
   | none=>rfl
   | some o=>exact absurd (Heap.lt_size q) (Nat.not_lt.mpr hge)
  refine S cf n C (A.deeper (callEnvC fd s.heap.objs.size (P.fa f))) γ.leaf _ _ _ g fl env' g1 ⟨Rm.hd,BY Rm.dep,Dh Rm.uni⟩ (I.leaf keep) En e1 _ _ λw γ' h' tk' f' I' rf=>?_
  have bi:=qI I keep f' pl I'
  have bo:∀ a i,γ.role a=.own i->γ'.role a=.other:=λa i ra=>by
   obtain ⟨o,ho⟩:=aq.mp (I.wf a (by rw [ra]; exact λq=>nomatch q))
   exact (f'.oth a o (show (γ.role a).plain=_ by rw [ra]; rfl) (λq=>by rw [pl _ q] at ho; cases ho) (keep a o ho)).1
  clear C En F I' Rm S X body e1 h4 h6 hl o r xs
  cases e2
  refine q _ (γ.home γ') h' tk' (tV I keep f' pl) bi ?_
  clear A I args bi f' g keep pl q tk tk'
  cases rf with
  | nxt E=>rfl
  | ret rv=>exact rv.home bo
theorem mL {P:Pm}{W:Nat}{tbl:Fn->cR}(ok:∀ f,BH P W f (tbl f)) (hn:P.h0.NoLimit):∀ n,cx P (kj W tbl n) n
 | 0=>λf A γ s g args v g' xs zz zz zz e=>nomatch e
 | n+1=>(mL ok hn n).succ ok hn
section
variable {prog:Program}{w:World}{A:Around}{E:Value->Shared->Prop}{s:Shared}
theorem lN {v:Value}{Q:Value->Shared->Prop}(hc:∀ (A:Around) (Q:List Value->Shared->Prop),A.handled=none->(∀ h' tk,(∀ b o,s.heap.get? b=some o->h'.get? b=some o)->Q [] (Sh s h' tk))->wpAny (model prog w) A (collect v) Q E s) (hh:A.handled=none)
  (h:∀ h' tk L,(∀ b o,s.heap.get? b=some o->h'.get? b=some o)->s.heap.get? L=none->h'.PlainList L #[]->Q (.ref L) (Sh s h' tk)):
  wpAny (model prog w) A (call (.builtin "sorted") [v]) Q E s:=by
 refine Calls.call_function_entry kind_sorted plain_sorted entry_sorted (args_sorted1 _) ?_
 unfold Builtin.«sorted»
 refine ad (m:=checkCount "sorted" 1 1 _) (af ?_)
 refine ad (hc _ _ hh λh1 t1 gr=>?_)
 refine ad (wpAny_newList ?_)
 have hL:=dm h1
 have hoL:(h1.push (seqObj "list" #[] 0)).get? h1.objs.size=some (seqObj "list" ([]:List Value).toArray 0):=ah _ rfl
 generalize hH:h1.push (seqObj "list" #[] 0)=H at hoL
 have gr2:∀ b o,s.heap.get? b=some o->H.get? b=some o:=λb o e=>by rw [← hH]; exact ag _ (gr b o e)
 have hn:s.heap.get? h1.objs.size=none:=by
  clear hc hh
  cases e:s.heap.get? h1.objs.size with
  | none=>rfl
  | some o=>rw [gr _ _ e] at hL; cases hL
 generalize h1.objs.size=L at hoL hn
 refine ad (aH (aL slot_list_sort ⟨_,hoL,rfl⟩ entry_list_sort (list_sort_tree (ns:=[]) hoL .nil (by decide) λout ns' a1 a2 a3=>⟨_,rfl,?_⟩) (args_list_sort _)))
 have hout:out=#[]:=by
  have:=a1.length
  rw [List.Perm.eq_nil a2] at this
  exact Array.toList_eq_nil_iff.mp (ba.mp this)
 clear a1 a2 a3 gr hL hc hh ns'
 subst hout
 have ks:∀ b o,b≠L->H.get? b=some o->(sortedHeap H L [] #[]).get? b=some o:=λb o n e=>by
  unfold sortedHeap
  exact (Heap.get?_update_other _ _ (Ne.symm n)).trans (ag _ (ag _ ((Heap.get?_update_other _ _ (Ne.symm n)).trans e)))
 have hg:(sortedHeap H L [] #[]).get? L=some (Obj.mapSeq (λzz=>#[]) (Obj.mapSeq (λzz=>#[]) (seqObj "list" ([]:List Value).toArray 0))):=by
  unfold sortedHeap
  exact aX _ (ag _ (ag _ (aX _ hoL rfl))) rfl
 exact af ⟨_,rfl,h (sortedHeap H L [] #[]) t1 L (λb o e=>ks b o (λq=>by rw [q,hn] at e; cases e) (gr2 b o e)) hn ⟨_,hg⟩⟩
theorem jX {r d:Addr}{Q:Value->Shared->Prop}(hh:A.handled=none) (hv:s.heap.IsItemsView r d) (hd:∃ o ep,s.heap.get? d=some o/\o.ExactDict/\o.data=.dict #[] ep)
  (h:∀ h' tk L,(∀ b o,s.heap.get? b=some o->h'.get? b=some o)->s.heap.get? L=none->h'.PlainList L #[]->Q (.ref L) (Sh s h' tk)):
  wpAny (model prog w) A (call (.builtin "sorted") [.ref r]) Q E s:=by
 obtain ⟨o,ep,ho,he,hd⟩:=hd
 refine lN (λA Q hh q=>?_) hh h
 refine kdx_collect (knd:=intKind prog w) (kvs:=[]) hh hv ⟨o,#[],ho,he,hd,?_,?_,?_⟩ (aZ _) λh' tk as gr hl zz=>?_
 ·exact λe he=>nomatch he
 ·exact .nil
 ·exact .nil
 ·rw [ba.mp hl]
  exact q h' tk gr
end
section
variable {P:Pm}{K:Frag}{fm:Fm}
theorem bE.sortedItems {x:Str}{o:Expr}{p apos mpos pos:Pos}{ms:D}{st:Bool}{pl:Env->Sem Bool}(r:jE P fm x (.builtin "sorted")) (S:gz P fm o ms st) (he:cq o "items" apos mpos [] pl)
  (h1:∀ env,starEach [.Call (.Attribute o "items" apos) [] [] mpos] env=(false,eval (.Call (.Attribute o "items" apos) [] [] mpos) env)::starEach [] env):
  bE P fm (.Call (.Name x p) [.Call (.Attribute o "items" apos) [] [] mpos] [] pos) (.sortedItems ms):=by
 intro cf n C A γ s env ae g v g' R I Er
 refine cC λd g1 e1=>c9 λhd=>cb.of' ?_
 obtain ⟨ks,vs⟩:=d
 clear g' v
 cases (hd:ks=[])
 intro Q Ex q
 refine Call_Name rfl (r.load I Er (callWith_builtin1 (args_cons (wB PySem.F.plainAttrs_dict PySem.F.slot_dict_items PySem.F.type_dict_items he (S cf n C A γ s env ae g [] vs g1 R I Er e1 _ Ex λa kx vx γ1 h2 t1 f1 I1 E1 zz X rk rv hsy=>?_)) (h1 env)) (h1 env) rfl))
 obtain ⟨o,es,ep,ho,he2,hd,q3,nd,zz⟩:=X
 have hes:es=#[]:=by
  have:es.toList=[]:=by cases hh:es.toList with | nil=>rfl | cons _ _=>rw [hh] at q3; cases q3
  exact Array.toList_eq_nil_iff.mp this
 clear C E1 Er I S e1 g h1 nd q3 r rk rv vx
 subst hes
 have hD:h2.DictAt (intKind P.prog P.w) a [] ep:=⟨o,#[],ho,he2,hd,(λe he=>nomatch he),.nil,.nil⟩
 refine ⟨⟨o,ho,he2.1⟩,λb hb=>by cases hb; exact ⟨o,ho,he2.2.1⟩,?_⟩
 refine call_meetsIn PySem.F.slot_dict_items ⟨o,ho,he2.1⟩ PySem.F.entry_dict_items (PySem.F.args_dict_items_1 _) (meets_dict_items (intKind P.prog P.w) a hsy) ⟨⟨[],hD.dictOf⟩,args_nil ?_⟩
 refine jX R.hd ⟨_,ah _ rfl,rfl,rfl⟩ ⟨o,ep,ag _ ho,he2,hd⟩ λh3 t3 L gr hL hp=>?_
 have gr2:∀ b o,h2.get? b=some o->h3.get? b=some o:=λb o e=>gr b o (ag _ e)
 have hL2:h2.get? L=Option.none:=by
  rcases q:h2.get? L with _ | o
  ·rfl
  ·have:=ag (h:=h2) { cls:=.type "dict_items",data:=.fields #[.ref a] } q
   rw [hL] at this; cases this
 obtain ⟨f2,I2,r2⟩:=nK (vs:=[]) I1 gr2 hL2 hp .nil
 exact q _ _ h3 t3 (f1.trans f2) I2 r2
end
theorem kI:entryFor table "set.__iter__"=some Builtin.«frozenset.__iter__»:=
 entryFor_alias (id':="frozenset.__iter__") (by kernel_rfl) (by first | rfl | decide +kernel | (unfold String.splitOn; simp +decide [String.splitOnAux])) (by decide +kernel) (by kernel_rfl)
theorem eu:PySem.Slot "set_iterator" "__next__" "set_iterator.__next__":=
 .of (owner:="set_iterator") (n:="__next__") (by rw [typeLookup_type,builtinLookup_eq_fast]; kernel_rfl) (by decide +kernel) (by decide +kernel) (by decide +kernel)
  (by first | exact .inl (by decide +kernel) | exact .inr (by decide +kernel)) (by rw [isSubtype_type]; kernel_rfl)
theorem kF:entryFor table "set_iterator.__next__"=some Builtin.«set_iterator.__next__»:=entryFor_of_tree (by kernel_rfl)
theorem lG:Manifest.owners.lookup (String.ofList ['r','o','t','a','r','e','t','i','_','t','e','s'].reverse)=some Manifest.sig_set_iterator:=by kernel_rfl
theorem lK (a:Value):argsOk "set_iterator.__next__" ⟨[a],[]⟩:=by
 unfold argsOk; rw [signature?_of (id:="set_iterator.__next__") (n:=['_','_','t','x','e','n','_','_']) (o:=['r','o','t','a','r','e','t','i','_','t','e','s']) (by kernel_rfl) lG]; kernel_rfl
theorem zk:typeLookup (.type "set") "__len__"=pure (some (.builtin "set.__len__")):=by rw [typeLookup_type,builtinLookup_eq_fast]; kernel_rfl
def qy (h:Heap) (S:Addr):Prop:=∃ o ep t,h.get? S=some o/\o.cls=.type "set"/\o.data=.set #[] ep t/\t.fits 0=true
section
variable {prog:Program}{w:World}{A:Around}{E:Value->Shared->Prop}{s:Shared}
theorem yg {r:Addr}(hT:s.TypeIs (.ref r) "set") {Q:Bool->Shared->Prop}(h:Q false s):wpAny (model prog w) A (Builtin.List.listLengthHint (.ref r)) Q E s:=by
 unfold Builtin.List.listLengthHint
 refine ad (wpAny_specialOf hT zk ?_)
 generalize hid:("set.__len__":String)=id0
 wp_delta
 rw [show splitId id0=some ("set","__len__") from by subst hid; decide +kernel]
 subst hid
 refine ad (wpAny_isInstance (T:="set") (b:=true) hT (by rw [isSubtype_type]; kernel_rfl) ?_)
 refine wpAny_ite_split (λhab=>absurd hab (by decide)) (λzz=>?_)
 refine wpAny_ite_split (λzz=>?_) (λhab=>absurd (by decide +kernel) hab)
 refine ad (wpAny_typeOf hT ?_)
 exact af h
theorem wS {S:Addr}{o:Obj}{ep:Nat}{t:SetTable}{Q:Value->Shared->Prop}(ho:s.heap.get? S=some o) (hc:o.cls=.type "set") (hd:o.data=.set #[] ep t) (hf:t.fits 0=true)
  (h:Q (.ref s.heap.objs.size) (ey s (s.heap.push { cls:=.type "set_iterator",data:=.fields #[rawInt 0,rawInt 0,.ref S,rawInt 0,rawInt ep] }))):
  wpAny (model prog w) A (pyIter (.ref S)) Q E s:=by
 have hT:s.TypeIs (.ref S) "set":=⟨o,ho,hc⟩
 refine wpAny_pyIter_slot hT PySem.F.slot_set_iter (aL PySem.F.slot_set_iter hT kI ?_ (PySem.F.args_set_iter_1 _))
 show wpAny _ _ (Builtin.Frozenset.sizeOf S >>= _) _ _ _
 refine ad ?_
 unfold Builtin.Frozenset.sizeOf
 refine ad (wpAny_setEntries_of ho hd hf (af ?_))
 refine ad ?_
 unfold setDrawn
 refine ad (wpAny_setState_of ho hd hf ?_)
 unfold setsByText
 refine ad (ad (wpAny_askSetting (af (af ?_))))
 refine wpAny_ite_split (λhab=>absurd hab ?_) (λzz=>ad (af ?_))
 ·show ¬ ((!_ && (!t.plain && decide ((#[]:Array (Int × Value)).size > 1)))=true)
  simp
 ·refine ad ?_
  unfold setEpoch
  refine ad (wpAny_setState_of ho hd hf (af ?_))
  refine ad (aV (af ⟨_,rfl,"set_iterator",_,⟨_,ah _ rfl,rfl⟩,eu.lookup,h⟩))
theorem wn {S I:Addr}{ep:Nat}{Q:Option Value->Shared->Prop}(hh:A.handled=none) (hS:∃ o t,s.heap.get? S=some o/\o.data=.set #[] ep t/\t.fits 0=true) (hI:s.heap.get? I=some { cls:=.type "set_iterator",data:=.fields #[rawInt 0,rawInt 0,.ref S,rawInt 0,rawInt ep] })
  (h:∀ h',Heap.ExtBut I s.heap h'->Q none (ey s h')):wpAny (model prog w) A (pyNext (.ref I)) Q E s:=by
 obtain ⟨o,t,ho,hd,hf⟩:=hS
 have hT:s.TypeIs (.ref I) "set_iterator":=⟨_,hI,rfl⟩
 unfold pyNext
 have raise:∀ (A:Around) (Q:Fin->Shared->Prop) (E:Value->Shared->Prop),A.handled=none->(∀ h' e,Heap.ExtBut I s.heap h'->(∃ o,h'.get? e=some o/\o.cls=.type "StopIteration")->E (.ref e) (ey s h')) ->
   wpAny (model prog w) A (setField (.ref I) 2 .none >>= λzz=>newExc (.type "StopIteration") [] >>= raiseNew) Q E s:=λA Q E hh hE=>by
  refine ad (bv hI (by simp) λh1 zz ks=>?_)
  exact iW hh λzz zz zz x=>hE _ _ ((ks.extBut.push _).push _) x
 refine ad (wpAny_attempt (bc (name:=Str.ofString "__next__") hT eu (aL eu hT kF ?_ (lK _))))
 refine ad (af ?_)
 refine ad (wpAny_fieldsOf hI rfl ?_)
 show wpAny _ _ (setEntries S >>= _) _ _ _
 refine ad (wpAny_setEntries_of ho hd hf ?_)
 refine wpAny_ite_split (λhab=>absurd hab (by decide)) (λzz=>?_)
 show wpAny _ _ (setNext S 0 0 (ep:Int).toNat >>= _) _ _ _
 rw [Int.toNat_natCast]
 have eQ:wpAny (model prog w) A.in1 (setNext S 0 0 ep) (λr s'=>r=none/\s'=s) (λzz zz=>False) s:=by
  unfold setNext
  refine ad (wpAny_setState_of ho hd hf ?_)
  unfold setsByText
  refine ad (ad (wpAny_askSetting (af ?_)))
  refine wpAny_ite_split (λhb=>?_) (λhb=>?_)
  ·refine wpAny_ite_split (λhab=>absurd hab (by simp)) (λzz=>?_)
   refine ad ?_
   unfold setWalk
   refine ad (wpAny_setState_of ho hd hf ?_)
   unfold setsByText
   refine ad (ad (wpAny_askSetting (af ?_)))
   refine wpAny_ite_split (λzz=>?_) (λhab=>absurd hb hab)
   refine ad (wpAny_askSetting (af (af ⟨rfl,rfl⟩)))
  ·refine wpAny_ite_split (λhab=>absurd hab ?_) (λzz=>?_)
   ·show ¬ ((!t.plain && decide ((#[]:Array (Int × Value)).size > 1))=true)
    simp
   ·refine ad ?_
    show wpAny _ _ (if (!t.led && !(#[]:Array (Int × Value)).isEmpty)=true then unsupported _ else pure ()) _ _ _
    exact wpAny_ite_split (λh=>absurd h (by simp)) (λzz=>af (af ⟨by simp,rfl⟩))
 refine ad (wpAny_mono eQ (λr s' hr=>?_) λzz zz z=>z.elim)
 clear eQ hI hT hd hf ho o t
 obtain ⟨rfl,rfl⟩:=hr
 refine raise A.in1 _ _ hh λh' e he hx=>?_
 obtain ⟨o',ho',hc'⟩:=hx
 refine ad (wpAny_isInstance (T:="StopIteration") (b:=true) ⟨o',ho',hc'⟩ isSubtype_stop ?_)
 exact af (h _ he)
theorem kH:entryFor table "set_iterator.__iter__"=some Builtin.«dict_keyiterator.__iter__»:=
 entryFor_alias (id':="dict_keyiterator.__iter__") (by kernel_rfl) (by first | rfl | decide +kernel | (unfold String.splitOn; simp +decide [String.splitOnAux])) (by decide +kernel) (by kernel_rfl)
theorem hX:PySem.Slot "set_iterator" "__iter__" "set_iterator.__iter__":=
 .of (owner:="set_iterator") (n:="__iter__") (by rw [typeLookup_type,builtinLookup_eq_fast]; kernel_rfl) (by decide +kernel) (by decide +kernel) (by decide +kernel)
  (by first | exact .inl (by decide +kernel) | exact .inr (by decide +kernel)) (by rw [isSubtype_type]; kernel_rfl)
theorem mB (a:Value):argsOk "set_iterator.__iter__" ⟨[a],[]⟩:=by
 unfold argsOk; rw [signature?_of (id:="set_iterator.__iter__") (n:=['_','_','r','e','t','i','_','_']) (o:=['r','o','t','a','r','e','t','i','_','t','e','s']) (by kernel_rfl) lG]; kernel_rfl
theorem zD {S:Addr}:KdlSrc prog w "set" S S 0 (λzz zz=>False) (λh=>qy h S) where
 type:=λs ⟨o,ep,t,ho,hc,_⟩=>⟨o,ho,hc⟩
 there:=λh ⟨o,ep,t,ho,hc,_⟩=>⟨Heap.lt_size ho,Heap.lt_size ho⟩
 keep:=λh h' ⟨o,ep,t,ho,r⟩ k=>⟨o,ep,t,k S (.inl rfl) o ho,r⟩
 notList:=by decide
 notTuple:=by decide
 hint:=λA E s Q ⟨o,ep,t,ho,hc,_⟩ h=>yg ⟨o,ho,hc⟩ h
 iter:=λA s hh hS=>by
  obtain ⟨o,ep,t,ho,hc,hd,hf⟩:=id hS
  refine ⟨{ cls:=.type "set_iterator",data:=.fields #[rawInt 0,rawInt 0,.ref S,rawInt 0,rawInt ep] },λzz h=>(∃ o t,h.get? S=some o/\o.data=.set #[] ep t/\t.fits 0=true)/\h.get? s.heap.objs.size=some { cls:=.type "set_iterator",data:=.fields #[rawInt 0,rawInt 0,.ref S,rawInt 0,rawInt ep] },
   λE Q q=>?_,⟨λb hb=>by simp at hb; simp [hb],λi h h' hst k=>?_,λi s' Q E hi=>absurd hi (aY _),λs' Q E hst q=>wn hh hst.1 hst.2 λh' ks=>q h' s'.toks λb o hb e=>ks b o (λz=>hb (by simp [z])) e,λi s' Q E hst q=>?_⟩,⟨⟨o,t,ag _ ho,hd,hf⟩,ah _ rfl⟩⟩
  ·exact wS ho hc hd hf q
  ·obtain ⟨⟨o,t,a,b⟩,c⟩:=hst
   exact ⟨⟨o,t,k S (by simp) o a,b⟩,k _ (by simp) _ c⟩
  ·have hT:s'.TypeIs (.ref s.heap.objs.size) "set_iterator":=⟨_,hst.2,rfl⟩
   refine wpAny_pyIter_slot hT hX (aL hX hT kH ?_ (mB _))
   show wpAny _ _ (ret (.ref s.heap.objs.size)) _ _ s'
   exact af ⟨_,rfl,"set_iterator",_,hT,eu.lookup,q⟩
theorem j5 {T:String}{r d:Addr}{n:Nat}{P:Nat->Value->Prop}{OK:Heap->Prop}{Q:List Value->Shared->Prop}(K:KdlSrc prog w T r d n P OK) (hh:A.handled=none) (hok:OK s.heap) (hn:n<=sizeLine)
  (h:∀ h' tk acc,(∀ b o,s.heap.get? b=some o->h'.get? b=some o)->ItemsOf P acc n->Q acc.toList (Sh s h' tk)):wpAny (model prog w) A (collect (.ref r)) Q E s:=by
 obtain ⟨hr,hd⟩:=K.there _ hok
 unfold collect
 refine ad (wpAny_runValue (codeAny_builtin entry_proto_collect' ?_))
 rw [Around.under_plainId PySem.F.plain_proto_collect _]
 show wpAny _ A.in1 (newList [] >>= λl=>again (.builtin "list.__iadd__" ⟨[l,.ref r],[]⟩)) _ _ s
 refine ad (aV ?_)
 refine af ⟨plainId_quiet PySem.F.plain_list_iadd _,codeAny_builtin entry_list_iadd' ?_⟩
 rw [Around.under_plainId PySem.F.plain_list_iadd _]
 have hS:(s.heap.push { cls:=.type "list",data:=.seq ([]:List Value).toArray }).get? s.heap.objs.size=some { cls:=.type "list",data:=.seq #[] 0 }:=ah _ rfl
 show wpAny _ A.in1 (Builtin.List.listExtendWith (.ref s.heap.objs.size) (.ref r) (.ref s.heap.objs.size)) _ _ _
 have dA:=kdl_extend (A:=A) (R:=λ(q:Result) (s':Shared)=>∃ (h':Heap) (tk:Nat) (acc:Array Value) (c:Nat),q=.ok (.ret (.ref s.heap.objs.size))/\s'=(Sh s h' tk)/\(∀ b o,s.heap.get? b=some o->h'.get? b=some o)/\h'.get? s.heap.objs.size=some { cls:=.type "list",dict:=none,data:=.seq acc c,slots:=#[] }/\ItemsOf P acc n)
  (s:=(ey s (s.heap.push { cls:=.type "list",data:=.seq ([]:List Value).toArray }))) K hh (K.keep _ _ hok λb zz o e=>ag _ e) s.heap.objs.size (Nat.ne_of_gt hr) (Nat.ne_of_gt hd) (.ref s.heap.objs.size) 0 hS
  (λh' tk acc c hk hS' hacc=>⟨h',tk,acc,c,rfl,rfl,λb o e=>hk b o (cT e) (ag _ e),hS',hacc⟩) hn
 have eQ:∀ (q:Result) (s':Shared),(∃ (h':Heap) (tk:Nat) (acc:Array Value) (c:Nat),q=.ok (.ret (.ref s.heap.objs.size))/\s'=(Sh s h' tk)/\(∀ b o,s.heap.get? b=some o->h'.get? b=some o)/\h'.get? s.heap.objs.size=some { cls:=.type "list",dict:=none,data:=.seq acc c,slots:=#[] }/\ItemsOf P acc n) ->
   (∃ v,q=.ok (.ret v)/\∃ a,v=.ref a/\wpAny (model prog w) A (load a >>= λo=>match o.data with | .seq xs _=>pure xs.toList | _=>unsupported "internal:collect") Q E s'):=λq s' ⟨h',tk,acc,c,e,e2,gr,hS',hacc⟩=>by
  clear K hS hd hh hn hok hr
  subst e2
  exact ⟨_,e,_,rfl,ad (wpAny_load hS' (af (h h' tk acc gr hacc)))⟩
 refine wpAny_mono dA (λfn s' x=>?_) λe s' x=>?_
 ·clear K h hS hd hh hn hok hr dA
  cases fn with
  | done f=>
   obtain ⟨v,e,a,rfl,hv⟩:=eQ _ _ x
   cases e
   exact hv
  | again c=>
   refine ⟨x.1,codeAny_mono x.2 λq s₂ y=>?_⟩
   obtain ⟨v,rfl,a,rfl,hv⟩:=eQ _ _ y
   exact hv
 ·obtain ⟨v,e',zz⟩:=eQ _ _ x
  clear K eQ h hS hd hh hn hok hr dA x
  cases e'
theorem mJ {S:Addr}{Q:Value->Shared->Prop}(hh:A.handled=none) (hS:qy s.heap S)
  (h:∀ h' tk L,(∀ b o,s.heap.get? b=some o->h'.get? b=some o)->s.heap.get? L=none->h'.PlainList L #[]->Q (.ref L) (Sh s h' tk)):
  wpAny (model prog w) A (call (.builtin "sorted") [.ref S]) Q E s:=by
 refine lN (λA Q hh q=>j5 zD hh hS (aZ _) λh' tk acc gr hacc=>?_) hh h
 rw [show acc.toList=[] from ba.mp (by rw [aM]; exact hacc.1)]
 exact q h' tk gr
end
section
variable {P:Pm}{K:Frag}{fm:Fm}
theorem bE.sortedSet {x y:Str}{p yp ypos pos:Pos}{pe:Expr}{me:E}(r:jE P fm x (.builtin "sorted")) (r2:jE P fm y (.type "set")) (S:bE P fm pe me)
  (h1:∀ env,starEach [.Call (.Name y yp) [pe] [] ypos] env=(false,eval (.Call (.Name y yp) [pe] [] ypos) env)::starEach [] env) (h2:∀ env,starEach [pe] env=(false,eval pe env)::starEach [] env):
  bE P fm (.Call (.Name x p) [.Call (.Name y yp) [pe] [] ypos] [] pos) (.sortedSet me):=by
 intro cf n C A γ s env ae g v g' R I Er
 refine B9 λu e1=>gZ λzz en=>cb.v' ?_
 clear v
 cases jS en
 intro Q Ex q
 refine Call_Name rfl (r.load I Er (callWith_builtin1 (args_cons (gv r2 (.inr ⟨_,rfl⟩) S h2 C R I Er e1 λz γ1 h3 t1 f1 I1 E1 rz=>?_) (h1 env)) (h1 env) rfl))
 clear C E1 Er I S e1 en g h1 h2 r r2
 cases rz.lstI with | @mk l its ro ti li=>
 have hits:its=#[]:=Array.toList_eq_nil_iff.mp li.inv_nil
 clear ae cf li ro rz
 subst hits
 refine call_set_list (ns:=[]) R.hd ti.isList .nil (by decide) λh4 tk hset gr=>args_nil ?_
 obtain ⟨o,es,ep,t,ho,hx,hd,zz,zz,zz,hf,hsz⟩:=hset
 have hes:es=#[]:=Array.size_eq_zero_iff.mp hsz
 clear env hsz ti
 subst hes
 have gr4:∀ b o,h3.get? b=some o->h4.get? b=some o:=λb o e=>gr b o (Heap.lt_size e) e
 refine mJ R.hd ⟨o,ep,t,ho,hx.1,hd,hf⟩ λh5 t5 L gr5 hL hp=>?_
 have hL3:h3.get? L=Option.none:=by
  rcases q:h3.get? L with _ | o
  ·rfl
  ·rw [gr4 _ _ q] at hL; cases hL
 obtain ⟨f2,I2,rr⟩:=nK (vs:=[]) I1 (λb o e=>gr5 b o (gr4 b o e)) hL3 hp .nil
 exact q _ _ h5 t5 (f1.trans f2) I2 rr
end
section
variable {prog:Program}{w:World}{A:Around}{E:Value->Shared->Prop}{s:Shared}
theorem yb {v u:V}{t:Bool}{x y:Value}{Q:Value->Shared->Prop}(e:wQ v u=some t) (r1:cA s.heap v x) (r2:cA s.heap u y) (q:Q (.bool t) s):wpAny (model prog w) A (richCompare .Lt x y) Q E s:=by
 cases v with
 | int i=>
  refine cu e λj e1=>?_
  clear e
  intro e
  rw [cH e1] at r2
  cases e
  obtain ⟨zz,rfl⟩:=r1
  obtain ⟨zz,rfl⟩:=r2
  exact PyProof.Rows.lt_int (prog:=prog) (w:=w) q
 | str i=>
  refine cu e λj e1=>?_
  clear e
  intro e
  rw [j1 e1] at r2
  clear e1
  cases e
  obtain ⟨zz,rfl⟩:=r1
  obtain ⟨zz,rfl⟩:=r2
  exact PySem.P.lt_str (prog:=prog) (w:=w) q
 | _=>exact no e
theorem pA {f:V->V->Option Bool}{t:Bool}:∀ {xs ys:List V},oJ f xs ys=some t->(∃ p,vT fU xs ys (some p)/\f p.1 p.2=some t)\/(vT fU xs ys none/\t=decide (xs.length < ys.length))
 | [],ys,h=>.inr ⟨.nil,by rw [← av h]; cases ys <;> rfl⟩
 | x::xs,[],h=>.inr ⟨.end,by rw [← av h]; exact (bq (aY _)).symm⟩
 | x::xs,y::ys,h=>by
  refine cu h λb e h=>?_
  cases b with
  | true=>exact (pA h).imp (λ⟨p,q,i⟩=>⟨p,.eq e q,i⟩) λ⟨q,i⟩=>⟨.eq e q,by rw [i,aO,aO,decide_eq_decide.mpr Nat.succ_lt_succ_iff]⟩
  | false=>exact .inl ⟨_,.ne e,h⟩
theorem yR {vs us:List V}{t:Bool}{a b:Addr}{xs ys:Array Value}{P:Fin->Shared->Prop}(hu:A.units+20 < cLine)
  (h:oJ wQ vs us=some t) (ha:s.heap.IsTuple a xs) (hb:s.heap.IsTuple b ys) (r1:ce s.heap vs xs.toList) (r2:ce s.heap us ys.toList)
  (q:P (.done (.ret (.bool t))) s):wpAny (model prog w) A (Builtin.«tuple.__lt__» ⟨[.ref a,.ref b],[]⟩) P E s:=by
 have hTb:=hb.typeIs
 obtain ⟨oa,hoa,zz,na,hda⟩:=ha
 obtain ⟨ob,hob,zz,nb,hdb⟩:=hb
 show wpAny _ _ (isInstance (.ref b) (.type "tuple") >>= _) _ _ s
 refine ad (wpAny_isInstance hTb isSubtype_tuple_tuple (ad (wpAny_tupleItemsOf hoa hda (ad (wpAny_tupleItemsOf hob hdb (ad ?_))))))
 clear hTb hda hdb hoa hob na nb
 rcases pA h with ⟨p,D,hq⟩ | ⟨D,rfl⟩
 ·refine d8 (K:=λx y=>do rule "tuple.compare.by-the-first-pair-that-differs"; let v ← richCompare .Lt x y; ret v) (λzz zz zz=>by simp only [bind_assoc]) (fA hu) D r1 r2 (λe=>nomatch e) λp' x y e rx ry=>?_
  clear h
  cases e
  exact ad (wpAny_rule (ad (yb hq rx ry (af (af q)))))
 ·refine d8 (K:=λx y=>do rule "tuple.compare.by-the-first-pair-that-differs"; let v ← richCompare .Lt x y; ret v) (λzz zz zz=>by simp only [bind_assoc]) (fA hu) D r1 r2 (λzz=>af ?_) λp x y e zz zz=>no e
  rw [← r1.length,← r2.length] at q
  exact q
theorem BJ {v u:V}{t:Bool}{x y:Value}{Q:Bool->Shared->Prop}(hu:A.units+40 < cLine) (e:Dv v u=some t) (r1:cA s.heap v x) (r2:cA s.heap u y) (q:Q t s):wpAny (model prog w) A (compareOp .Lt x y) (W.BoolBack Q) E s:=by
 have go:wQ v u=some t->wpAny (model prog w) A (compareOp .Lt x y) (W.BoolBack Q) E s:=λe=>cmp_ofLt (yb e r1 r2 q)
 cases v with
 | tup vs=>
  refine cu e λus e1=>?_
  clear e
  intro e
  rw [dq e1] at r2
  obtain ⟨i,its,rfl,hi,k1⟩:=r1
  obtain ⟨j,jts,rfl,hj,k2⟩:=r2
  exact cmp_ofLt (wpAny_richCompare_same_room (op:=.Lt) hi.typeIs hj.typeIs PySem.F.slot_tuple_lt
   (aL PySem.F.slot_tuple_lt hi.typeIs PySem.F.entry_tuple_lt (yR (by show A.units+1+20 < cLine; omega) e hi hj k1 k2 ⟨_,rfl,(λe=>nomatch e),q⟩) (PySem.F.args_tuple_lt_2 _ _)) (by omega))
 | _=>exact go e
theorem ue (hu:A.units+40 < cLine) {Q:Bool->Shared->Prop}{t eQ:Bool}:∀ {vs us:List V}{xs ys:List Value}(i:Nat),oJ Dv vs us=some t->ce s.heap vs xs->ce s.heap us ys->(i=0->∃ j k,vs.head?=some (.int j)/\us.head?=some (.int k)) ->
  eQ=decide (vs.length < us.length)->Q t s->KatLex prog w A true eQ Q (xs.zip ys) i s
 | [],us,xs,ys,i,e,r1,r2,h0,hf,q=>by
  subst r1
  cases e
  refine kat_nil (hf ▸ ?_)
  cases us <;> exact q
 | v::vs,[],xs,ys,i,e,r1,r2,h0,hf,q=>by
  subst r2
  cases e
  rw [List.zip_nil_right]
  exact kat_nil ((hf.trans (bq (aY _))) ▸ q)
 | v::vs,u::us,xs,ys,i,e,r1,r2,h0,hf,q=>by
  obtain ⟨x,xs,rfl,a,r1⟩:=r1
  obtain ⟨y,ys,rfl,b,r2⟩:=r2
  refine cu e λc e1=>?_
  clear e
  intro e
  refine kat_cons (fA (by omega) v u _ e1 x y _ a b ?_)
  clear e1
  cases c with
  | true=>exact kat_yes (ue hu (i+1) e r1 r2 (λh=>absurd h (Nat.succ_ne_zero i)) (hf.trans (decide_eq_decide.mpr Nat.succ_lt_succ_iff)) q)
  | false=>
   refine kat_no ?_
   clear hf r1 r2 xs ys
   cases i with
   | zero=>
    obtain ⟨j,k,hj,hk⟩:=h0 rfl
    clear h0
    cases hj; cases hk
    obtain ⟨t1,rfl⟩:=a
    obtain ⟨t2,rfl⟩:=b
    cases e
    exact kat_lt_int q
   | succ i=>exact kat_one _ _ (BJ hu e a b q)
end
structure tP (P:Pm) (A:Around) (f:Addr) (Al:Gh->Heap->Prop) (kf:V->G->Option (V × G)):Prop where
 keep:∀ γ h γ' h' (Pl:Addr->Prop),Al γ h->dw Pl γ h γ' h'->¬ Pl f->Al γ' h'
 there:∀ γ h,Al γ h->(h.get? f).isSome=true
 run:∀ γ s g x u k g',bP P γ s.heap g->Al γ s.heap->bM P γ s.heap u x->kf u g=some (k,g')->∀ (Q:Value->Shared->Prop) (Ex:Value->Shared->Prop),
  (∀ y γ' h' tk,Ev γ s.heap γ' h'->bP P γ' h' g'->bM P γ' h' k y->Q y (Sh s h' tk))->wpAny (model P.prog P.w) A (call (.ref f) [x]) Q Ex s
noncomputable def l4 (kf:V->G->Option (V × G)):List V->G->Option (List V × G)
 | [],g=>some ([],g)
 | u::us,g=>(kf u g).bind λp=>(l4 kf us p.2).bind λq=>some (p.1::q.1,q.2)
theorem nU {kf:V->G->Option (V × G)}:∀ {us ks:List V}{g g':G},l4 kf us g=some (ks,g')->ks.length=us.length
 | [],ks,g,g',e=>by cases e; rfl
 | u::us,ks,g,g',e=>by
  refine dC e λk g1 e1=>?_
  clear e
  intro e
  refine dC e λks1 g2 e2=>?_
  clear e
  intro e
  clear e1
  cases e
  exact congrArg Nat.succ (nU e2)
section
variable {P:Pm}{γ γ':Gh}{h h':Heap}{g g':G}{A:Around}{s:Shared}{f:Addr}{Al:Gh->Heap->Prop}{kf:V->G->Option (V × G)}
theorem oG {Ex:Value->Shared->Prop}{b:Addr}{xs:Array Value}{n:Nat}{F:Array Value->Array Value}{Q:Unit->Shared->Prop}(ho:s.heap.get? b=some (seqObj "list" xs n)) (h1:xs.size<=sizeLine) (h2:(F xs).size<=sizeLine+1)
  (q:∀ h' n',h'.get? b=some (seqObj "list" (F xs) n')->Heap.SameBut b s.heap h'->Q () (ey s h')):wpAny (model P.prog P.w) A (Builtin.List.listUpdate (.ref b) F) Q Ex s:=
 listUpdate_at ho rfl (q _ _ (get?_update_seq ho F) (bb ..)) h1 h2
theorem qL {Ex:Value->Shared->Prop}{kS:Addr}{body:Value->PUnit->Sem (ForInStep PUnit)}(K:tP P A f Al kf)
  (hb:∀ x (s:Shared) (C:Shared->Prop),wpAny (model P.prog P.w) A (call (.ref f) [x]) (λk s'=>wpAny (model P.prog P.w) A (Builtin.List.listUpdate (.ref kS) (·.push k)) (λzz s''=>C s'') Ex s') (λzz zz=>False) s ->
   wpAny (model P.prog P.w) A (body x ⟨⟩) (λr s'=>r=.yield ⟨⟩/\C s') Ex s) (hf:f≠kS):
  ∀ (us:List V) {vs:List Value}{γ:Gh}{s:Shared}{g:G}{ks:List V}{ys:Array Value}{n:Nat}{Q:PUnit->Shared->Prop},bP P γ s.heap g->Al γ s.heap->bI P γ s.heap us vs->l4 kf us g=some (ks,g')->dY P γ kS->s.heap.get? kS=some (seqObj "list" ys n)->ys.size+us.length<=64 ->
   (∀ γ' h' tk zs zl n',dw (·=kS) γ s.heap γ' h'->bP P γ' h' g'->dY P γ' kS->h'.get? kS=some (seqObj "list" zs n')->zs.toList=ys.toList++zl->bI P γ' h' ks zl->Q ⟨⟩ (Sh s h' tk)) ->
   wpAny (model P.prog P.w) A (forIn vs PUnit.unit body) Q Ex s
 | [],vs,γ,s,g,ks,ys,n,Q,I,al,r,e,nb,ho,hl,q=>by
  cases r.inv_nil
  cases e
  exact af (q γ s.heap s.toks ys [] n .refl I nb ho (bA _).symm .nil)
 | u::us,vs,γ,s,g,ks,ys,n,Q,I,al,r,e,nb,ho,hl,q=>by
  obtain ⟨x,xs,rfl,rx,r⟩:=r.inv
  refine dC e λk g1 e1=>?_
  clear e
  intro e
  refine dC e λks1 g2 e2=>?_
  clear e
  intro e
  have e3:=av e
  obtain rfl:k::ks1=ks:=congrArg Prod.fst e3
  have e3:g2=g':=congrArg Prod.snd e3
  subst g2
  have hl:ys.size+(us.length+1)<=64:=hl
  rw [List.forIn_cons]
  refine ad (wpAny_mono (hb x s (λs'=>wpAny (model P.prog P.w) A (forIn xs PUnit.unit body) Q Ex s') (K.run γ s g x u k g1 I al rx e1 _ _ λy γ1 h1 t1 f1 I1 r1=>?_)) (λr s' hr=>?_) λzz zz z=>z)
  ·have ho1:=f1.oth _ _ nb.1 ho
   refine oG (s:=(Sh s h1 t1)) ho1.2 (by rw [sizeLine_eq]; omega) (by rw [Array.size_push,sizeLine_eq]; omega) λh2 n2 ho2 ks2=>?_
   have f2:dw (·=kS) γ1 h1 γ1 h2:=dw.but ks2 ho1.1 rfl
   have f12:=(f1.p (Pl:=(·=kS))).trans f2
   refine qL K hb hf us (s:=(Sh s h2 t1)) (I1.but ks2 ho1.1 nb.2) (K.keep _ _ _ _ _ al f12 hf) (r.evP f12) e2 ⟨ho1.1,nb.2⟩ ho2 (by rw [Array.size_push]; lia) λγ3 h3 t3 zs zl n3 f3 I3 nb3 ho3 hz rz=>?_
   refine q γ3 h3 t3 zs (y::zl) n3 (f12.trans f3) I3 nb3 ho3 (hz.trans ((congrArg (·++zl) Array.toList_push).trans (List.append_assoc ..))) (.cons ((r1.evP f2).evP f3) rz)
  ·obtain ⟨rfl,hr⟩:=hr
   exact hr
noncomputable def Ag (a b:Value):Bool->List Value
 | true=>[b,a]
 | false=>[a,b]
theorem m8 {a kS:Addr}{ys:Array Value}{e1 e2:Nat}{out:List Value}{st:SortSt}{Q:Fin->Shared->Prop}{Ex:Value->Shared->Prop}(hout:(arrOf st).map (·.2)=out.toArray) (hf:failedOf st=none) (hz:out.length<=64) (hy:ys.size<=64)
  (hk:s.heap.get? kS=some (seqObj "list" ys e2)) (ha:s.heap.get? a=some (seqObj "list" #[] e1)) (hne:a≠kS)
  (q:∀ h',(∀ b o,b≠a->b≠kS->s.heap.get? b=some o->h'.get? b=some o)->h'.PlainList a out.toArray->Q (.done (.ret .none)) (ey s h')):
  wpAny (model P.prog P.w) A (ksk_tail a false e1 (.ref kS) st) Q Ex s:=by
 unfold ksk_tail
 dsimp only
 refine ad (oG hk (by rw [sizeLine_eq]; lia) (by simp) λh1 n1 hk1 ks1=>?_)
 have ha1:=ks1.extBut _ _ hne ha
 refine ad (wpAny_letGo ?_)
 refine ad (seqEpoch_at ha1 rfl ?_)
 refine ad (oG (s:=(ey s h1)) ha1 (by simp) (by simp only [Bool.false_eq_true,if_false]; rw [hout]; simp; rw [sizeLine_eq]; lia) λh2 n2 ha2 ks2=>?_)
 rw [hf]
 simp only [bne_self_eq_false,Bool.false_eq_true,if_false] at ha2 ⊢
 rw [hout] at ha2
 exact af (q h2 (λb o n m e=>ks2.extBut _ _ n (ks1.extBut _ _ m e)) ⟨n2,ha2⟩)
theorem uM {a kS:Addr}{v:Value}{ys:Array Value}{e1 e2:Nat}{Q:Fin->Shared->Prop}{Ex:Value->Shared->Prop}(hl:ys.size=1)
  (hk:s.heap.get? kS=some (seqObj "list" ys e2)) (ha:s.heap.get? a=some (seqObj "list" #[] e1)) (hne:a≠kS)
  (q:∀ h',(∀ b o,b≠a->b≠kS->s.heap.get? b=some o->h'.get? b=some o)->h'.PlainList a #[v]->Q (.done (.ret .none)) (ey s h')):
  wpAny (model P.prog P.w) A (ksk_end a false #[v] e1 (.ref kS) ys) Q Ex s:=by
 unfold ksk_end
 dsimp only
 refine ad (af ?_)
 refine ad (af ?_)
 refine m8 (out:=[v]) ?_ rfl (by simp) (by lia) hk ha hne q
 clear ha hk hne q
 obtain ⟨y,rfl⟩:∃ y,ys=#[y]:=Array.size_eq_one_iff.mp hl
 simp only [Bool.false_eq_true,if_false]
 show Array.map (·.2) (#[y].zip #[v])=#[v]
 simp
inductive vF (P:Pm) (γ:Gh) (h:Heap) (i:Int) (xs:List V) (y:Value):Prop
 | mk (a:Addr) (o:Obj) (its:Array Value) (n:Nat) (u:Tok):y=.ref a->h.get? a=some o->o.cls=.type "tuple"->o.data=.seq its n->its[0]?=some (.int i u)->ce h (.int i::xs) its.toList->vF P γ h i xs y
theorem wO {i:Int}{xs:List V}{y:Value}(r:bM P γ h (.tup (.int i::xs)) y):vF P γ h i xs y:=by
 obtain ⟨a,its,e,zz,⟨o,ho,hc,n,hd⟩,li⟩:=r
 obtain ⟨z,w,e1,⟨u,e2⟩,zz⟩:=li.inv
 exact ⟨a,o,its,n,u,e,ho,hc,hd,by rw [← aK,e1,e2]; rfl,li.toK⟩
theorem sN {y1 y2:Value}{i j:Int}{xs us:List V}(k1:vF P γ s.heap i xs y1) (k2:vF P γ s.heap j us y2):wpAny (model P.prog P.w) A (keyKind' #[y1,y2]) (λκ s'=>κ=tuples' true/\s=s') (λzz zz=>False) s:=by
 obtain ⟨a1,o1,t1,n1,u1,rfl,ho1,hc1,hd1,z1,zz⟩:=k1
 obtain ⟨a2,o2,t2,n2,u2,rfl,ho2,hc2,hd2,z2,zz⟩:=k2
 exact kat_kind (vs:=[.ref a1,.ref a2]) (fs:=[.int i u1,.int j u2]) (T:=.type "int") (.cons ho1 hc1 hd1 z1 (.cons ho2 hc2 hd2 z2 .nil)) (Nat.succ_pos 1) (ao.mpr ⟨.of_pure rfl,am.mpr (.of_pure rfl)⟩) (by decide) ⟨rfl,rfl⟩
noncomputable abbrev DY (t:Bool):Array Nat:=if t then #[1,0] else #[0,1]
theorem w5 {y1 y2:Value}{i j:Int}{xs us:List V}{t:Bool}(hu:A.units+40 < cLine) (k1:vF P γ s.heap i xs y1) (k2:vF P γ s.heap j us y2) (ht:BU (.int j::us) (.int i::xs)=some t) {F:Bool->Shared->Prop}(q:F t s):kas_ask P.prog P.w A (tuples' true) [y1,y2] 1 0 F s:=by
 obtain ⟨a1,o1,t1,n1,u1,rfl,ho1,hc1,hd1,z1,l1⟩:=k1
 clear hc1 z1
 obtain ⟨a2,o2,t2,n2,u2,rfl,ho2,hc2,hd2,z2,l2⟩:=k2
 unfold kas_ask
 refine kat_lt (x:=a2) (y:=a1) ho2 hd2 ho1 hd1 (ue hu 0 ht l2 l1 (λzz=>⟨_,_,rfl,rfl⟩) (by rw [← l1.length,← l2.length]; rfl) q)
theorem uV {a kS:Addr}{v1 v2:Value}{i j:Int}{xs us:List V}{t:Bool}{ys:Array Value}{e1 e2:Nat}{Q:Fin->Shared->Prop}{Ex:Value->Shared->Prop}(hu:A.units+40 < cLine) (rk:bI P γ s.heap [.tup (.int i::xs),.tup (.int j::us)] ys.toList)
  (ht:BU (.int j::us) (.int i::xs)=some t) (hk:s.heap.get? kS=some (seqObj "list" ys e2)) (ha:s.heap.get? a=some (seqObj "list" #[] e1)) (hne:a≠kS)
  (q:∀ h',(∀ b o,b≠a->b≠kS->s.heap.get? b=some o->h'.get? b=some o)->h'.PlainList a (Ag v1 v2 t).toArray->Q (.done (.ret .none)) (ey s h')):
  wpAny (model P.prog P.w) A (ksk_end a false #[v1,v2] e1 (.ref kS) ys) Q Ex s:=by
 obtain ⟨y1,r,hys,r1,rk⟩:=rk.inv
 obtain ⟨y2,r,rfl,r2,rk⟩:=rk.inv
 cases rk.inv_nil
 have hys:ys=#[y1,y2]:=Array.toList_inj.mp hys
 clear rk
 subst hys
 have k1:=wO r1
 have k2:=wO r2
 unfold ksk_end
 dsimp only
 rw [if_neg (by decide)]
 refine ad (wpAny_mono (sN k1 k2) (λκ s' hκ=>?_) λzz zz z=>z.elim)
 clear hys r1 r2 rk
 obtain ⟨rfl,rfl⟩:=hκ
 rw [if_neg (by simp)]
 simp only [Bool.false_eq_true,if_false]
 refine ad (kat_run (Q:=λst s'=>wpAny (model P.prog P.w) A (ksk_tail a false e1 (Value.ref kS) st) Q Ex s') (ks:=[y1,y2]) (vs:=[v1,v2]) (κ:=tuples' true) (G:=λp s'=>s=s'/\p=DY t) rfl (ak 2) (by simp) (λp st' s' hp har hf hg=>?_) ?_)
 ·clear hp rk
  obtain ⟨rfl,rfl⟩:=hg
  refine m8 (out:=Ag v1 v2 t) ?_ hf (by cases t <;> exact aE rfl) (by simp) hk ha hne q
  rw [kat_snds (ks:=[y1,y2]) (vs:=[v1,v2]) rfl har]
  clear ha har hf hk hne q st'
  cases t <;> rfl
 ·show kas_ask P.prog P.w A (tuples' true) [y1,y2] 1 0 _ s
  refine w5 hu k1 k2 ht ?_
  clear ha hk hne ht hu k1 k2 q rk
  cases t with
  | true=>
   have e:∀ n,n=2->kas_rev (List.range n).toArray 0 (1+1)=#[1,0]:=by rintro _ rfl; decide +kernel
   refine ⟨rfl,?_⟩
   show _=if true=true then _ else _
   rw [if_pos rfl]
   dsimp only
   exact e _ rfl
  | false=>exact ⟨rfl,show (List.range 2).toArray=#[0,1] from by decide +kernel⟩
end
def uQ (h:Heap) (d:Addr) (es:Array DictEntry) (ep:Nat):Prop:=∃ o,h.get? d=some o/\o.ExactDict/\o.data=.dict es ep
section
variable {prog:Program}{w:World}{A:Around}{E:Value->Shared->Prop}{s:Shared}{d I:Addr}{es:Array DictEntry}{ep:Nat}
theorem uQ.typeIs (x:uQ s.heap d es ep):s.TypeIs (.ref d) "dict":=let ⟨o,ho,he,_⟩:=x; ⟨o,ho,he.1⟩
theorem wG {Q:Value->Shared->Prop}(lo:(d == sysModules)=false) (x:uQ s.heap d es ep)
  (q:Q (.ref s.heap.objs.size) (ey s (s.heap.push { cls:=.type "dict_keyiterator",data:=.fields #[.ref d,.int 0 0,.int es.size 0,.int ep 0] }))):wpAny (model prog w) A (pyIter (.ref d)) Q E s:=by
 have hT:=x.typeIs
 obtain ⟨o,ho,zz,hdat⟩:=x
 refine wpAny_pyIter_slot hT PySem.F.slot_dict_iter (aL PySem.F.slot_dict_iter hT PySem.F.entry_dict_iter ?_ (PySem.F.args_dict_iter_1 _))
 unfold Builtin.«dict.__iter__»
 refine ad ?_
 unfold Builtin.Dict.dictSlotNone
 refine ad (wpAny_notOrdered_dict hT (af ?_))
 show wpAny _ _ (Builtin.Dict.showsAll d >>= _) _ _ s
 unfold Builtin.Dict.showsAll
 rw [if_neg (by rw [lo]; exact aF)]
 refine ad (af ?_)
 refine ad (wpAny_dictEntries ho hdat (ad (wpAny_dictEpoch ho hdat ?_)))
 exact ad (aV (af ⟨_,rfl,"dict_keyiterator",_,⟨_,ah _ rfl,rfl⟩,PySem.F.slot_dict_keyiterator_next.lookup,q⟩))
theorem qx {i:Nat}{Q:Option Value->Shared->Prop}(hh:A.handled=none) (hit:s.heap.IsKeyIter I d i es.size ep) (x:uQ s.heap d es ep)
  (q:∀ v h',es[i]?.map (·.key)=some v->h'.IsKeyIter I d (i+1) es.size ep->Heap.SameBut I s.heap h'->Q (some v) (ey s h'))
  (q':es.size<=i->∀ h',Heap.ExtBut I s.heap h'->Q none (ey s h')):wpAny (model prog w) A (pyNext (.ref I)) Q E s:=by
 obtain ⟨o,ho,hc,hd⟩:=id hit
 obtain ⟨od,hod,hcd,hdd⟩:=x
 unfold pyNext
 refine ad (wpAny_attempt (bc (name:=Str.ofString "__next__") hit.typeIs PySem.F.slot_dict_keyiterator_next
  (aL PySem.F.slot_dict_keyiterator_next hit.typeIs PySem.F.entry_dict_keyiterator_next ?_ (PySem.F.args_dict_keyiterator_next_1 _))))
 refine ad (af ?_)
 refine ad (ad (ad (wpAny_typeNameOfWhole_keyiter hit.typeIs (af ?_))))
 refine ad (wpAny_fieldsOf ho hd ?_)
 rw [show Builtin.Dict_items.ownsTuple "dict_keyiterator"=false by decide]
 show wpAny _ _ (if (Value.ref d == Value.none)=true then _ else _) _ _ s
 rw [if_neg (show ¬ ((Value.ref d == Value.none)=true) from aF)]
 refine ad (af (ad (wpAny_dictEntries hod hdd ?_)))
 rw [if_neg (by simp)]
 refine ad (af (ad (wpAny_dictEpoch hod hdd ?_)))
 rw [if_neg (by simp)]
 refine af ?_
 dsimp only
 rw [if_neg (show ¬ ((i:Int) < 0) by lia),Int.toNat_natCast]
 cases hx:es[i]? with
 | some e=>
  dsimp only
  refine ad (ad (wpAny_typeNameOfWhole_keyiter hit.typeIs (af ?_)))
  refine ad (wpAny_isOneOf_keyiter hit.typeIs ?_)
  show wpAny _ _ (setField (.ref I) 1 (rawInt ((i:Int)+1)) >>= _) _ _ s
  refine ad (wpAny_setField ho hd (by simp) ?_)
  have hit':(s.heap.update I (Obj.mapFields (·.setIfInBounds 1 (rawInt ((i:Int)+1))))).IsKeyIter I d (i+1) es.size ep:=
   ⟨_,aX _ ho (Obj.isFreed_of_fields (Obj.data_mapFields hd _)),(Obj.cls_mapFields ..).trans hc,by rw [Obj.data_mapFields hd]; simp [rawInt]⟩
  refine ad (aH ?_)
  refine ad (wpAny_isOneOf_keyiter (s:=(ey s (s.heap.update I (Obj.mapFields (·.setIfInBounds 1 (rawInt ((i:Int)+1))))))) hit'.typeIs ?_)
  show wpAny _ _ (pure e.key) _ _ _
  exact af (af ⟨_,rfl,af (q _ _ (by rw [hx]; rfl) hit' (bb ..))⟩)
 | none=>
  dsimp only
  refine ad (ad (wpAny_typeNameOfWhole_keyiter hit.typeIs (af ?_)))
  show wpAny _ _ (setField (.ref I) 0 .none >>= _) _ _ s
  refine ad (wpAny_setField ho hd (by simp) ?_)
  show wpAny _ _ (newExc (.type "StopIteration") [] >>= _) _ _ _
  exact iW hh λzz zz zz x=>ad (wpAny_isInstance (T:="StopIteration") (b:=true) x isSubtype_stop (af (q' (by simpa using hx) _ (((bb ..).extBut.push _).push _))))
theorem y9 (lo:(d == sysModules)=false):KdlSrc prog w "dict" d d es.size (λi v=>es[i]?.map (·.key)=some v) (λh=>uQ h d es ep) where
 type:=λs x=>x.typeIs
 there:=λh ⟨o,ho,_⟩=>⟨Heap.lt_size ho,Heap.lt_size ho⟩
 keep:=λh h' ⟨o,ho,r⟩ k=>⟨o,k d (.inl rfl) o ho,r⟩
 notList:=by decide
 notTuple:=by decide
 hint:=λA E s Q x h=>kdl_hint_dict x.typeIs h
 iter:=λA s hh x=>by
  obtain ⟨o,ho,hc,hd⟩:=id x
  refine ⟨{ cls:=.type "dict_keyiterator",data:=.fields #[.ref d,.int 0 0,.int es.size 0,.int ep 0] },λi h=>uQ h d es ep/\h.IsKeyIter s.heap.objs.size d i es.size ep,λE Q q=>wG lo x q,?_,⟨o,ag _ ho,hc,hd⟩,_,ah _ rfl,rfl,rfl⟩
  have ne:d≠s.heap.objs.size:=Nat.ne_of_lt (Heap.lt_size ho)
  refine ⟨λb hb=>by simp at hb; simp [hb],λi h h' ⟨⟨o,a,b⟩,c⟩ k=>⟨⟨o,k d (by simp) o a,b⟩,c.at λo e=>k _ (by simp) o e⟩,λi s' Q E hi st q=>?_,λs' Q E st q=>?_,λi s' Q E st q=>wpAny_pyIter_keyiter st.2 q⟩
  ·refine qx hh st.2 st.1 (λv h' hv hit ks=>q v h' s'.toks hv ⟨?_,hit⟩ λb o hb e=>ks.extBut b o (λz=>hb (by simp [z])) e) λz=>absurd hi (Nat.not_lt.mpr z)
   obtain ⟨o,a,b⟩:=st.1
   exact ⟨o,ks.extBut _ _ ne a,b⟩
  ·exact qx hh st.2 st.1 (λv h' hv=>by simp at hv) λzz h' ks=>q h' s'.toks λb o hb e=>ks b o (λz=>hb (by simp [z])) e
end
def DR (us ks out:List V):Prop:=
 (∃ v,us=[v]/\out=[v])\/∃ v1 v2 i j xs ys t,us=[v1,v2]/\ks=[.tup (.int i::xs),.tup (.int j::ys)]/\BU (.int j::ys) (.int i::xs)=some t/\out=if t then [v2,v1] else [v1,v2]
section
variable {P:Pm}{γ γ':Gh}{h h':Heap}{g g':G}{A:Around}{s:Shared}{f a:Addr}{Al:Gh->Heap->Prop}{kf:V->G->Option (V × G)}
theorem vK {us ks out:List V}{vs:List Value}{n:Nat}{Q:Fin->Shared->Prop}{Ex:Value->Shared->Prop}(K:tP P A f Al kf) (hu:A.units+40 < cLine) (I:bP P γ s.heap g) (al:Al γ s.heap) (r:bI P γ s.heap us vs)
  (ho:s.heap.get? a=some (seqObj "list" vs.toArray n)) (nb:dY P γ a) (e:l4 kf us g=some (ks,g')) (od:DR us ks out) (hfa:f≠a)
  (q:∀ γ' h' tk zs,dw (·=a) γ s.heap γ' h'->bP P γ' h' g'->dY P γ' a->h'.PlainList a zs->bI P γ' h' out zs.toList->Q (.done (.ret .none)) (Sh s h' tk)):
  wpAny (model P.prog P.w) A (ksk_tree a (.ref f) false) Q Ex s:=by
 have hlen:us.length<=2:=by rcases od with ⟨v,rfl,_⟩ | ⟨v1,v2,_,_,_,_,_,rfl,_⟩ <;> simp
 have hl:=r.length
 unfold ksk_tree
 refine ad (listItems_at ho rfl ?_)
 refine ad (oG ho (by rw [sizeLine_eq]; simp; omega) (by simp) λh1 n1 ha1 ks1=>?_)
 refine ad (seqEpoch_at ha1 rfl ?_)
 refine ad (wpAny_newTuple ?_ (by rw [sizeLine_eq]; simp; omega))
 refine ad (wpAny_newList ?_ (aZ _))
 refine aH ?_
 have f1:dw (·=a) γ s.heap γ h1:=dw.but ks1 nb.1 rfl
 have I1:=I.but ks1 nb.1 nb.2
 dsimp only
 generalize hH:(h1.push (seqObj "tuple" vs.toArray.toList.toArray 0))=h2
 have gr2:∀ b o,h1.get? b=some o->h2.get? b=some o:=λb o e=>by rw [← hH]; exact ag _ e
 have I2:=I1.grow gr2
 obtain ⟨nk,kn⟩:=I2.fresh (ak h2.objs.size)
 have gr3:∀ b o,h2.get? b=some o->(h2.push (seqObj "list" ([]:List Value).toArray 0)).get? b=some o:=λb o e=>ag _ e
 have hk3:(h2.push (seqObj "list" ([]:List Value).toArray 0)).get? h2.objs.size=some (seqObj "list" #[] 0):=ah _ rfl
 generalize hK:h2.objs.size=kS at *
 generalize hG:h2.push (seqObj "list" ([]:List Value).toArray 0)=h3 at *
 have ne:∀ {b o},h1.get? b=some o->b≠kS:=λe q=>by rw [q] at e; rw [gr2 _ _ e] at kn; cases kn
 have f13:dw (·=a) γ s.heap γ h3:=f1.trans (Ev.grow λb o e=>gr3 b o (gr2 b o e)).p
 have I3:=I2.grow gr3
 have hf1:∃ o,h1.get? f=some o:=by
  obtain ⟨o,ho⟩:=aq.mp (K.there γ _ al)
  exact ⟨o,ks1.extBut _ _ hfa ho⟩
 obtain ⟨of,hof⟩:=hf1
 have hfk:=ne hof
 have hak:a≠kS:=ne ha1
 unfold ksk_rest
 refine ad (wpAny_rule ?_)
 rw [List.forIn_toArray]
 refine ad (qL (s:=(ey s h3)) (kS:=kS) K (λx s C h=>?_) hfk us I3 (K.keep _ _ _ _ _ al f13 hfa) (r.evP f13) e nk hk3 (by simp; lia) λγ4 h4 t4 zs zl n4 f4 I4 nb4 hk4 hz rz=>?_)
 ·refine ad (wpAny_attempt (wpAny_mono h (λk s' h'=>?_) λzz zz z=>z.elim))
  exact ad (wpAny_mono h' (λzz s'' c=>af ⟨rfl,c⟩) λzz zz z=>z)
 ·have ha3:h3.get? a=some (seqObj "list" #[] n1):=gr3 _ _ (gr2 _ _ ha1)
  obtain ⟨ra,ha4⟩:=f4.oth _ _ nb.1 hak ha3
  have nba:dY P γ4 a:=⟨ra,nb.2⟩
  have f04:dw (λb=>b=a\/b=kS) γ s.heap γ4 h4:=(f13.sub λb z=>.inl z).trans (f4.sub λb z=>.inr z)
  refine ad (listItems_at hk4 rfl ?_)
  rw [show (#[]:Array Value).toList++zl=zl from rfl] at hz
  have eQ:∀ (h5:Heap) (zs':Array Value),(∀ b o,b≠a->b≠kS->h4.get? b=some o->h5.get? b=some o)->h5.PlainList a zs'->bI P γ4 h4 out zs'.toList->Q (.done (.ret .none)) (Sh s h5 t4):=λh5 zs' k5 p5 r5=>by
   have hw:∀ b,(b=a\/b=kS)->dY P γ4 b:=λb hb=>hb.elim (λz=>by rw [z]; exact nba) λz=>by rw [z]; exact nb4
   have k5':∀ b o,¬ (b=a\/b=kS)->h4.get? b=some o->h5.get? b=some o:=λb o n e=>k5 b o (λz=>n (.inl z)) (λz=>n (.inr z)) e
   have f5:=gE k5' hw
   exact q γ4 h5 t4 zs' ((f04.trans f5).less λb hb=>hb.imp id λz zz=>by
    clear I I1 I2 I3 K al f1 f13 f4 gr2 gr3 ha1 ha3 hb hfa hfk hk3 hl hlen ho hof kn n nb4 nba nk of
    cases e:s.heap.get? b with
    | none=>rfl
    | some o=>
     refine (Classical.byCases (λq:b=a=>hak (q.symm.trans z)) λq=>ne (ks1.extBut _ _ q e) z).elim) (I4.set k5' hw) ⟨ra,nb.2⟩ p5 (r5.evP f5)
  clear I I1 I2 I3 I4 K al f1 f13 f4 gr2 gr3 ha1 ha3 hfa hfk hk3 hl hlen ho hof kn ks1 n nb nb4 nba ne nk of q ra
  rcases od with ⟨v,rfl,rfl⟩ | ⟨v1,v2,i,j,xs,ys,t,rfl,rfl,ht,rfl⟩
  ·obtain ⟨x,xs,rfl,rx,r⟩:=r.inv
   cases r.inv_nil
   have lz:=rz.length
   refine uM (s:=(Sh s h4 t4)) ?_ hk4 ha4 hak λh5 k5 p5=>eQ h5 _ k5 p5 ((bI.cons rx .nil).evP f04)
   rw [← aM,hz,lz]
   have:=nU e
   simpa using this
  ·clear e
   obtain ⟨x1,xs1,rfl,rx1,r⟩:=r.inv
   obtain ⟨x2,xs2,rfl,rx2,r⟩:=r.inv
   cases r.inv_nil
   refine uV (s:=(Sh s h4 t4)) hu (by rw [hz]; exact rz) ht hk4 ha4 hak λh5 k5 p5=>eQ h5 _ k5 p5 ?_
   clear eQ ha4 hak hk4 ht hu hz k5 n1 n4 p5 r rz t4 xs ys zl zs
   cases t
   ·exact (bI.cons rx1 (.cons rx2 .nil)).evP f04
   ·exact (bI.cons rx2 (.cons rx1 .nil)).evP f04
end
section
variable {P:Pm}{γ γ':Gh}{h h':Heap}{g g':G}{A:Around}{s:Shared}{f d:Addr}{Al:Gh->Heap->Prop}{kf:V->G->Option (V × G)}
theorem vd {w:World}{es:List DictEntry}{ks:List V}{kx vx:List Value}(E:dI w es ks kx vx):kx=es.map (·.key):=by
 induction E with
 | nil=>rfl
 | cons _ ih=>rw [ih]; rfl
theorem rM {us vs ks out:List V}{kx vx:List Value}{Q:Value->Shared->Prop}{Ex:Value->Shared->Prop}(K:tP P A.in1.in1 f Al kf) (hh:A.handled=none) (hu:A.units+50 < cLine) (lo:(d == sysModules)=false) (I:bP P γ s.heap g) (al:Al γ s.heap)
  (X:bJ P s.heap d us kx vx) (rk:bI P γ s.heap us kx) (e:l4 kf us g=some (ks,g')) (od:DR us ks out)
  (q:∀ L γ' h' tk,Ev γ s.heap γ' h'->bP P γ' h' g'->bM P γ' h' (.lst out) (.ref L)->Q (.ref L) (Sh s h' tk)):
  wpAny (model P.prog P.w) A (call (.builtin "sorted") [.ref d] [(Str.ofString "key",.ref f)]) Q Ex s:=by
 have hlen:us.length<=2:=by rcases od with ⟨v,rfl,_⟩ | ⟨v1,v2,_,_,_,_,_,rfl,_⟩ <;> simp
 have hl:=rk.length
 obtain ⟨o,es,ep,ho,he,hd,q3,nd,zz⟩:=X
 have hkx:=vd q3
 have hes:es.size=kx.length:=by rw [hkx,aw,aM]
 refine call_function_entry_kw kind_sorted plain_sorted entry_sorted (ksk_s1 _ _) ?_
 unfold Builtin.«sorted»
 refine ad (m:=checkCount "sorted" 1 1 _) (af ?_)
 refine ad (j5 (A:=A.in1) (y9 (es:=es) (ep:=ep) lo) hh ⟨o,ho,he,hd⟩ (by rw [sizeLine_eq]; omega) λh1 t1 acc gr1 hacc=>?_)
 have hits:acc.toList=kx:=by
  rw [hkx]
  refine List.ext_getElem? λi=>?_
  rw [aK,List.getElem?_map,aK]
  rcases h:acc[i]? with _ | v
  ·have h1:acc.size<=i:=by simpa using h
   rw [hacc.1] at h1
   rw [Array.getElem?_eq_none h1]; rfl
  ·exact (hacc.2 i v h).symm
 rw [hits]
 refine ad (wpAny_newList ?_ (by rw [sizeLine_eq]; omega))
 have hoL:(h1.push (seqObj "list" kx.toArray 0)).get? h1.objs.size=some (seqObj "list" kx.toArray 0):=ah _ rfl
 have gr2:∀ b o,s.heap.get? b=some o->(h1.push (seqObj "list" kx.toArray 0)).get? b=some o:=λb o e=>ag _ (gr1 b o e)
 obtain ⟨nL,nn⟩:=(I.grow gr1).fresh (ak h1.objs.size)
 have I2:=I.grow gr2
 dsimp only
 generalize h1.push (seqObj "list" kx.toArray 0)=h2 at *
 generalize h1.objs.size=L at *
 have hn:s.heap.get? L=none:=by
  cases e:s.heap.get? L with
  | none=>rfl
  | some o=>rw [gr1 _ _ e] at nn; cases nn
 have hfL:f≠L:=λz=>by have:=K.there γ _ al; rw [z,hn] at this; cases this
 refine ad (aH (wpAny_call_entry_kw slot_list_sort ⟨_,hoL,rfl⟩ entry_list_sort ?_ (ksk_l1 _ _)))
 rw [ksk_t1]
 have f02:dw (·=L) γ s.heap γ h2:=(Ev.grow gr2).p
 refine vK (s:=(Sh s h2 t1)) K (by show A.units+1+1+40 < cLine; lia) I2 (K.keep _ _ _ _ _ al f02 hfL) (rk.evP f02) hoL nL e od hfL λγ3 h3 t3 zs f3 I3 n3 p3 r3=>⟨_,rfl,af ⟨_,rfl,?_⟩⟩
 have ev:dw (·=L) γ s.heap γ3 h3:=f02.trans f3
 have f4:=ev.freeze hn n3.1
 refine q L (γ3.put L .frozen) h3 t3 (f4.ev λa z zz=>by rw [z]; exact hn) (I3.freeze n3 (let ⟨n,e⟩:=p3; by rw [e]; rfl)) ?_
 have fr:fo γ3 h3 (γ3.put L .frozen) h3:=λb o r e=>⟨by rw [bK (λz=>by rw [z,n3.1] at r; cases r)]; exact r,e⟩
 exact ⟨L,zs,rfl,cz,p3,r3.mono fr (ak _) λzz zz=>rfl⟩
end
structure DE (P:Pm) (fm:Fm) (params:Arguments) (scope:Scope) (pos:Pos) (x:Str) (c:Addr):Prop where
 glo:∃ mg,P.h0.Ns mainGlobals mg/\P.h0.BuiltinsAt mg P.tab
 ne:mainGlobals≠P.tab
 cd:fm.cd=.ref c
 hdr:CodeHd P.h0 c P.tab
 pos:pos=P.lpos
 qual:fm.qu++"<lambda>"=P.lqual
 clo:∀ env,closureFor scope env=pure []
 dft:∀ env,defaultsOf params env=([],[])
 sc:z7 scope [x] 1
 lim:P.h0.NoLimit
 bind:∀ body pm cv ctv v,bindArgs (kla_fn "<lambda>" P.lqual params body scope [] pm cv ctv) ⟨[v],[]⟩=pure [(x,v)]
noncomputable def j3 (P:Pm) (params:Arguments) (body:Expr) (scope:Scope) (pm cv ctv:Value):Obj:={ cls:=.type "function",data:=.func (kla_fn "<lambda>" P.lqual params body scope [] pm cv ctv) }
def Aj (P:Pm) (params:Arguments) (body:Expr) (scope:Scope) (f:Addr) (γ:Gh) (h:Heap):Prop:=
 dY P γ f/\∃ pm cv ctv c,h.get? f=some (j3 P params body scope pm cv ctv)/\cv=.ref c/\γ.role c=.frozen/\h.CodeRec (.ref c) P.lqual
section
variable {P:Pm}{γ γ':Gh}{h h':Heap}{g g':G}{A:Around}{s:Shared}{fm:Fm}{env:Env}{ae:En}{params:Arguments}{body:Expr}{scope:Scope}{pos:Pos}{x:Str}{c:Addr}
theorem yl {Q:Value->Shared->Prop}{Ex:Value->Shared->Prop}(L:DE P fm params scope pos x c) (I:bP P γ s.heap g) (Er:bG P γ s.heap fm env ae)
  (q:∀ f γ' h' tk,Ev γ s.heap γ' h'->(∀ b o,b≠P.tab->s.heap.get? b=some o->h'.get? b=some o)->bP P γ' h' g->Aj P params body scope f γ' h'->Q (.ref f) (Sh s h' tk)):wpAny (model P.prog P.w) A (eval (.Lambda params body scope pos) env) Q Ex s:=by
 refine kla_eval (L.dft env) ?_
 rw [Er.qu,L.qual]
 obtain ⟨mg,hg,hb⟩:=L.glo
 obtain ⟨rt,ps,ht,ok,alt⟩:=id I.tab
 have hb':s.heap.BuiltinsAt mg P.tab:=by
  obtain ⟨bm,ob,b1,b2,b3,b4,b5,b6⟩:=hb
  exact ⟨bm,ob,b1,b2,b3,b4,I.old _ _ b5,b6⟩
 have fresh:∀ {b o},s.heap.get? b=some o->∀ {z},s.heap.objs.size<=z->b≠z:=λe z hz=>Nat.ne_of_lt (br (Heap.lt_size e) hz)
 rcases alt with hn | ⟨c',hc',rc',cr'⟩
 ·refine kla_makeFunction (mg:=mg) (L.clo env) Er.glo (hg.keeps I.old) (by rw [Er.cd,L.cd]) (L.hdr.keeps I.old) ht ok (by rw [L.pos]; exact hn) L.ne hb' λc' ctv h' tk hx hge hlt hrec htb=>?_
  have gr:∀ b o,b≠P.tab->s.heap.get? b=some o->(h'.push (j3 P params body scope ((mg "__name__").getD .none) (.ref c') ctv)).get? b=some o:=λb o n e=>ag _ (hx b o n e)
  have nt:∀ {b:Addr}{r:cQ},γ.role b=r->r≠.tab->b≠P.tab:=λe n q=>n (by rw [← e,q,rt])
  have hf:s.heap.get? h'.objs.size=none:=Heap.get?_none_of_le (by lia)
  have nb:=I.nobody hf
  have tab':(h'.push (j3 P params body scope ((mg "__name__").getD .none) (.ref c') ctv)).get? P.tab=some (tabObj (ps++#[rawInt P.lpos.line,rawInt P.lpos.col,.ref c'])):=by rw [← L.pos]; exact ag _ htb
  have cr:(h'.push (j3 P params body scope ((mg "__name__").getD .none) (.ref c') ctv)).CodeRec (.ref c') P.lqual:=hrec.push _
  have ev:Ev γ s.heap (γ.put c' .frozen) (h'.push (j3 P params body scope ((mg "__name__").getD .none) (.ref c') ctv)):=
   ⟨λb o r e=>⟨by rw [bK (fresh e hge)]; exact r,gr b o (nt r (λq=>nomatch q)) e⟩,λb o r e=>⟨by rw [bK (fresh e hge)]; exact r,gr b o (nt r (λq=>nomatch q)) e⟩,
    λb o i r e=>⟨by rw [bK (fresh e hge)]; exact r,gr b o (nt r (λq=>nomatch q)) e⟩,ak _,λzz zz=>rfl⟩
  refine q h'.objs.size _ _ tk ev gr (I.keepT ev.fro rfl (λzz zz=>rfl) (λb hb=>?_) (λb o n t r e=>⟨by rw [bK (fresh e hge)]; exact r,gr b o (nt r (λq=>nomatch q)) e⟩) (λb o zz r e=>ev.oth b o r e)
   ⟨by rw [bK (fresh ht hge)]; exact rt,_,tab',by rw [Array.toList_append]; exact TriplesOk_snoc _ _ _ _ ok,.inr ⟨c',by rw [Array.toList_append]; exact codeAmong_snoc _ ok hn,cz,cr⟩⟩)
   ⟨⟨by rw [bK (Nat.ne_of_gt hlt)]; exact nb.1,nb.2⟩,_,_,ctv,c',ah _ rfl,rfl,cz,cr⟩
  by_cases h1:b=c'
  ·obtain ⟨c2,o,zz,zz,e2,ho,zz⟩:=cr
   cases e2; rw [h1]; exact aq.mpr ⟨o,ho⟩
  ·by_cases h2:b=P.tab
   ·rw [h2]; exact aq.mpr ⟨_,tab'⟩
   ·rw [bK h1] at hb
    obtain ⟨o,ho⟩:=aq.mp (I.wf b hb)
    exact aq.mpr ⟨o,gr b o h2 ho⟩
 ·refine kla_makeFunctionHit (mg:=mg) (L.clo env) Er.glo (hg.keeps I.old) (by rw [Er.cd,L.cd]) (L.hdr.keeps I.old) ht ok (by rw [L.pos]; exact hc') hb' λctv h' tk gr hsz=>?_
  have gr2:∀ b o,s.heap.get? b=some o->(h'.push (j3 P params body scope ((mg "__name__").getD .none) (.ref c') ctv)).get? b=some o:=λb o e=>ag _ (gr b o e)
  have hf:s.heap.get? h'.objs.size=none:=Heap.get?_none_of_le hsz
  exact q h'.objs.size γ _ tk (Ev.grow gr2) (λb o zz e=>gr2 b o e) (I.grow gr2) ⟨I.nobody hf,_,_,ctv,c',ah _ rfl,rfl,rc',cr'.keeps gr2⟩
noncomputable def oR (cf:Cf) (fn:Fn) (k:Str) (u:V) (g:G):Option (V × G):=(ez u).bind λa=>if 1+a.length<=lim then cf fn [.tup (.str k::a)] g else none
theorem zu {Q:Value->Shared->Prop}{Ex:Value->Shared->Prop}{k:Str}{a:List V}{j ti:Nat}{p1 p2 p3 p4:Pos}(I:bP P γ s.heap g) (Er:bG P γ s.heap fm env [some (.val (.tup a))]) (hx:fm.vis.lookup x=some 0) (hl:1+a.length<=lim)
  (q:∀ y γ' h' tk,Ev γ s.heap γ' h'->bP P γ' h' g->bM P γ' h' (.tup (.str k::a)) y->Q y (Sh s h' tk)):
  wpAny (model P.prog P.w) A (eval (.BinOp (.Tuple [.Constant (.str k) j p1] ti p2) .Add (.Name x p3) p4) env) Q Ex s:=by
 refine wpAny_BinOp (wpAny_Tuple (args_cons (wpAny_Constant_str (args_nil ⟨by rw [sizeLine_eq]; simp,?_⟩)) rfl))
 obtain ⟨f,J,r⟩:=fh (vs:=[.str k]) (xs:=[.str k s.toks]) I (.cons (⟨_,rfl⟩) .nil)
 have E1:=Er.ev f
 obtain ⟨x',rd,rs⟩:=E1.get x 0 _ hx rfl
 refine wpAny_Name (cS (by rw [Er.sc]; exact Er.kind) rd ?_) (Er.nd x 0 hx).2
 refine xT (s:=(Sh s (s.heap.push (kM [.str k s.toks])) (s.toks+1))) (op:=.add) (a:=.tup [.str k]) (b:=.tup a) (c:=.tup (.str k::a)) (g:=g) ?_ J r rs _ _ λz γ3 h3 t3 f3 I3 r3=>q z γ3 h3 t3 (f.trans f3) I3 r3
 exact if_pos hl
theorem ze {K:Frag}{cf:Cf}{n:Nat}{fn:Fn}{kn k:Str}{kp kpos:Pos}{j ti:Nat}{p1 p2 p3 p4:Pos}{f:Addr}(Kn:ft P K) (L:DE P fm params scope pos x c) (C:cx P cf n) (R:qp A (4 * n+3) (64 * n+50))
  (r:∀ cv,jE P ⟨scope,[x].zipIdx,cv,P.lqual++".<locals>."⟩ kn (.ref (P.fa fn))) (hb:body=.Call (.Name kn kp) [.BinOp (.Tuple [.Constant (.str k) j p1] ti p2) .Add (.Name x p3) p4] [] kpos):
  tP P A f (Aj P params body scope f) (oR cf fn k) where
 keep:=λγ h γ' h' Pl ⟨nb,pm,cv,ctv,c,ho,hc,rc,cr⟩ f hPl=>by
  obtain ⟨c2,o,vs,t,e1,e2,e3,e4⟩:=cr
  cases e1
  exact ⟨⟨(f.oth _ _ nb.1 hPl ho).1,nb.2⟩,pm,cv,ctv,c,(f.oth _ _ nb.1 hPl ho).2,hc,(f.fro _ _ rc e2).1,c,o,vs,t,rfl,(f.fro _ _ rc e2).2,e3,e4⟩
 there:=λγ h ⟨nb,pm,cv,ctv,c,ho,_⟩=>by rw [ho]; rfl
 run:=λγ s g u xv k g' I al ru e Q Ex q=>by
  obtain ⟨nb,pm,cv,ctv,c',ho,hc,rc,cr⟩:=al
  have hd:=R.dep
  have hu:=R.uni
  refine cu e λa ea e=>bU e λhl e=>?_
  rw [dq ea] at ru
  refine wpAny_call (kla_callFunE (by show A.depth < 1000; omega) ho rfl L.sc.co L.sc.gen rfl (by subst hc; exact cr) ?_)
  rw [L.bind]
  refine af ?_
  have hpar:scope.names.lookup x=some .local\/scope.names.lookup x=some .cell:=by
   have:=aG.mp L.sc.par x (by simp)
   simpa using this
  refine wpAny_newFunctionEnv_cells L.sc.kind (λy hy=>?_) λenv henv s₁ X=>?_
  ·cases ay.mp hy
   exact hpar.imp id λk=>⟨k,fq _ _ _ (.inl (bz k))⟩
  ·subst henv
   have gr:=X.toInCall.keep
   obtain ⟨hh,tk,rfl,keep⟩:=X.done
   have En:=nM (fd:=kla_fn "<lambda>" P.lqual params body scope [] pm cv ctv) (a:=f) (m:=0) I rfl rfl L.sc rfl (bI.cons ru .nil) X
   have pl:∀ b,cc (callEnvC (kla_fn "<lambda>" P.lqual params body scope [] pm cv ctv) s.heap.objs.size f) b->s.heap.get? b=none:=λb hb=>by
    have hge:s.heap.objs.size<=b:=by
     rcases hb with rfl | ⟨x,hx⟩
     ·exact ak _
     ·exact Nat.le_of_lt (X.above x b (bz hx))
    exact Heap.get?_none_of_le hge
   refine ⟨(L.lim.keeps I.old).keeps gr,kla_codeExpr ?_⟩
   rw [hb]
   have I1:=I.leaf keep
   refine Call_Name rfl ((r cv).load I1 En (callWith_K Kn.inn (Kn.fn fn) (args_cons (zu I1 En (by simp) hl λy γ2 h2 t2 f2 I2 r2=>args_nil ⟨I2.kn Kn,?_⟩) rfl) rfl rfl))
   refine C.run ⟨R.hd,by show A.depth+1+_ < 600; omega,by show A.units+3+_ < 9000; lia⟩ I2 (.cons r2 .nil) e λy γ3 h3 t3 f3 I3 r3=>?_
   have f23:=(f2.trans f3).p (Pl:=cc (callEnvC (kla_fn "<lambda>" P.lqual params body scope [] pm cv ctv) s.heap.objs.size f))
   have bo:∀ a i,γ.role a=.own i->γ3.role a=.other:=λa i ra=>by
    obtain ⟨o,ho⟩:=aq.mp (I.wf a (by rw [ra]; exact λq=>nomatch q))
    exact (f23.oth a o (show (γ.role a).plain=_ by rw [ra]; rfl) (λq=>by rw [pl _ q] at ho; cases ho) (keep a o ho)).1
   exact q y (γ.home γ3) h3 t3 (tV I keep f23.es pl) (qI I keep f23.es pl I3) (r3.home bo)
end
theorem pf {cf:Cf}{x:V}{g:G}{r:V × G}(h:iF x=true) (e:se cf x g=some r):oR cf .keyOf ⟨#[61]⟩ x g=some r:=by
 obtain ⟨a,b,rfl,zz⟩:=fz h
 exact (if_pos (c:=3<=lim) (e:=none) (by decide)).trans e
theorem pM {v:V}{p:Int × List V}(h:xO v=some p):v=.tup (.int p.1::p.2):=by
 refine cu h λl e h=>?_
 cases l with
 | nil=>exact no h
 | cons k x=>
  refine cu h λi e1 h=>?_
  cases h
  rw [dq e,cH e1]
theorem qJ {cf:Cf}{ks:List V}{v:V}{g g':G}(hp:ks.all iF=true) (e:mE cf ks g=some (v,g')):
  ∃ kk out,l4 (oR cf .keyOf ⟨#[61]⟩) ks g=some (kk,g')/\DR ks kk (v::out):=by
 cases ks with
 | nil=>exact no e
 | cons x ks=>
  obtain ⟨hx,hp⟩:=aC.mp hp
  cases ks with
  | nil=>
   refine dC e λk g1 e1=>?_
   clear e
   intro e
   cases e
   exact ⟨[k],[],bL (pf hx e1) rfl,.inl ⟨_,rfl,rfl⟩⟩
  | cons y ks=>
   obtain ⟨hy,hp⟩:=aC.mp hp
   refine bU e λhn=>?_
   clear e
   intro e
   refine dC e λk g1 e1=>?_
   clear e
   intro e
   refine cu e λi ei=>?_
   clear e
   intro e
   refine dC e λl g2 e2=>?_
   clear e
   intro e
   refine cu e λj ej=>?_
   clear e
   intro e
   refine cu e λt ht=>?_
   clear e
   intro e
   cases e
   have K:l4 (oR cf .keyOf ⟨#[61]⟩) [x,y] g=some ([.tup (.int i.1::i.2),.tup (.int j.1::j.2)],_):=bL (pf hx e1) (bL (bL (pf hy e2) rfl) (by rw [pM ei,pM ej]))
   rw [hn]
   exact ⟨_,[cond t x y],K,.inr ⟨_,_,_,_,_,_,t,rfl,rfl,ht,by cases t <;> rfl⟩⟩
section
variable {P:Pm}{K:Frag}{fm:Fm}
theorem bE.sortedFirst {x y kn:Str}{pe:Expr}{md:D}{st:Bool}{p lp kp cpos ip spos p1 p2 p3 p4 np npos:Pos}{params:Arguments}{scope:Scope}{c:Addr}{j ti ik:Nat}(Kn:ft P K) (r:jE P fm x (.builtin "sorted")) (S:gz P fm pe md st)
  (L:DE P fm params scope lp y c) (rk:∀ cv,jE P ⟨scope,[y].zipIdx,cv,P.lqual++".<locals>."⟩ kn (.ref (P.fa .keyOf)))
  (h1:∀ env,starEach [pe] env=(false,eval pe env)::starEach [] env):
  bE P fm (.Subscript (.Call (.Name x p) [pe] [⟨some (Str.ofString "key"),.Lambda params (.Call (.Name kn np) [.BinOp (.Tuple [.Constant (.str ⟨#[61]⟩) j p1] ti p2) .Add (.Name y p3) p4] [] npos) scope lp,kp⟩] cpos) (.Constant (.int 0) ik ip) spos) (.sortedFirst md):=by
 intro cf n C A γ s env ae g v g' R I Er
 refine cC λd g1 e1=>c9 λhp=>?_
 obtain ⟨ks,vs⟩:=d
 intro e
 intro Q Ex q
 obtain ⟨kk,out,hk,od⟩:=qJ hp e
 have tail:∀ (value:Expr) l γ1 h1 t1,Ev γ s.heap γ1 h1->bP P γ1 h1 g'->bM P γ1 h1 (.lst (v::out)) (.ref l) ->
   wpAny (model P.prog P.w) A (eval (.Constant (.int 0) ik ip) env) (λi s'=>wpAny (model P.prog P.w) A (subscriptTail value (.Constant (.int 0) ik ip) (.ref l) i) Q Ex s') Ex (Sh s h1 t1):=λvalue l γ1 h1 t1 f1 I1 r1=>
  wpAny_Constant_int (yB (s:=(Sh s h1 (t1+1))) (a:=.lst (v::out)) (b:=.int 0) (c:=v) (g:=g') rfl (λzz zz=>rfl) I1 r1 (⟨_,rfl⟩) _ _ λz γ3 h3 t3 f3 I3 r3=>q z γ3 h3 t3 (f1.trans f3) I3 r3)
 refine Subscript_ (wpAny_Call_Name_kw (r.load I Er (callWith_kw (args_cons (S cf n C A γ s env ae g ks vs g1 R I Er e1 _ Ex λa kx vx γ1 h2 t1 f1 I1 E1 zz X rkx rv hsy=>args_nil (kws_cons ?_)) (h1 env)) (by rw [h1]; rfl) (by rw [h1]; rfl))))
 refine yl (s:=(Sh s h2 t1)) L I1 E1 λf γ2 h3 t2 f2 gr I2 al=>kws_nil ?_
 have rk2:=rkx.ev f2
 have X2:bJ P h3 a ks kx vx:=by
  obtain ⟨o,es,ep,ho,he,hd,q3,nd,zz⟩:=X
  refine ⟨o,es,ep,gr a o (λz=>?_) ho,he,hd,q3,nd,rk2.toK⟩
  obtain ⟨zz,ps,ht,zz⟩:=I1.tab
  rw [z,ht] at ho
  cases ho
  have:=he.1
  cases this
 have hd:=R.dep
 have hu:=R.uni
 have KF:=ze (A:=A.in1.in1) (f:=f) (k:=⟨#[61]⟩) (j:=j) (ti:=ti) (p1:=p1) (p2:=p2) (p3:=p3) (p4:=p4) (kp:=np) (kpos:=npos) Kn L C ⟨R.hd,by show A.depth+_ < 600; lia,by show A.units+1+1+_ < 9000; lia⟩ rk rfl
 exact rM (vs:=vs) KF R.hd (R.line (by decide)) hsy I2 al X2 rk2 hk od λl γ4 h4 t4 f4 I4 r4=>tail _ l γ4 h4 t4 (f1.trans (f2.trans f4)) I4 r4
end
noncomputable def cs {α:Type}(d:α) (nm:Str->α) (bin:Expr->Expr->α) (un:Expr->α) (ite:Expr->Expr->Expr->α) (cmp:Expr->List Expr->α) (call:Expr->List Expr->List Keyword->α) (attr:Expr->Str->α) (comp:Expr->List Comprehension->Scope->α) (lam:Arguments->Expr->Scope->α) (els:List Expr->Nat->α) (tup:List Expr->Nat->α) (cst:Nat->α) (sl:Option Expr->Option Expr->α) (e:Expr):α:=
 @Expr.casesOn (λzz=>α) e (λzz y zz=>els y 0) (λzz zz zz=>d) (λx zz y zz=>bin x y) (λzz x zz=>un x) (λx y z zz=>lam x y z) (λx y z zz=>ite x y z) (λzz zz zz=>d) (λzz zz zz=>d) (λx y z zz=>comp x y z) (λzz zz zz zz=>d) (λzz zz zz zz zz=>d) (λzz zz zz zz=>d) (λzz zz=>d) (λzz zz=>d) (λzz zz=>d) (λx zz y zz=>cmp x y) (λx y z zz=>call x y z) (λx zz zz zz=>un x) (λx zz=>els x 0) (λzz x zz=>cst x) (λx y zz=>attr x y) (λx y zz=>bin x y) (λzz zz=>d) (λx zz=>nm x) (λx zz=>els x 0) (λx y zz=>tup x y) (λx y zz zz=>sl x y)
noncomputable def fa (e:Expr):Expr:=cs e (λzz=>e) (λx zz=>x) (λx=>x) (λx zz zz=>x) (λx zz=>x) (λx zz zz=>x) (λx zz=>x) (λx zz zz=>x) (λzz x zz=>x) (λzz zz=>e) (λzz zz=>e) (λzz=>e) (λzz zz=>e) e
noncomputable def fb (e:Expr):Expr:=cs e (λzz=>e) (λzz x=>x) (λzz=>e) (λzz x zz=>x) (λzz zz=>e) (λzz zz zz=>e) (λzz zz=>e) (λzz zz zz=>e) (λzz zz zz=>e) (λzz zz=>e) (λzz zz=>e) (λzz=>e) (λzz zz=>e) e
noncomputable def fc (e:Expr):Expr:=cs e (λzz=>e) (λzz zz=>e) (λzz=>e) (λzz zz x=>x) (λzz zz=>e) (λzz zz zz=>e) (λzz zz=>e) (λzz zz zz=>e) (λzz zz zz=>e) (λzz zz=>e) (λzz zz=>e) (λzz=>e) (λzz zz=>e) e
noncomputable def fl (e:Expr):List Expr:=cs [] (λzz=>[]) (λzz zz=>[]) (λzz=>[]) (λzz zz zz=>[]) (λzz x=>x) (λzz x zz=>x) (λzz zz=>[]) (λzz zz zz=>[]) (λzz zz zz=>[]) (λx zz=>x) (λx zz=>x) (λzz=>[]) (λzz zz=>[]) e
noncomputable def fn (e:Expr):Str:=cs ⟨#[]⟩ (λx=>x) (λzz zz=>⟨#[]⟩) (λzz=>⟨#[]⟩) (λzz zz zz=>⟨#[]⟩) (λzz zz=>⟨#[]⟩) (λzz zz zz=>⟨#[]⟩) (λzz x=>x) (λzz zz zz=>⟨#[]⟩) (λzz zz zz=>⟨#[]⟩) (λzz zz=>⟨#[]⟩) (λzz zz=>⟨#[]⟩) (λzz=>⟨#[]⟩) (λzz zz=>⟨#[]⟩) e
noncomputable def fk (e:Expr):Nat:=cs 0 (λzz=>0) (λzz zz=>0) (λzz=>0) (λzz zz zz=>0) (λzz zz=>0) (λzz zz zz=>0) (λzz zz=>0) (λzz zz zz=>0) (λzz zz zz=>0) (λzz x=>x) (λzz x=>x) (λx=>x) (λzz zz=>0) e
noncomputable def D0 (e:Expr):Option Expr:=cs none (λzz=>none) (λzz zz=>none) (λzz=>none) (λzz zz zz=>none) (λzz zz=>none) (λzz zz zz=>none) (λzz zz=>none) (λzz zz zz=>none) (λzz zz zz=>none) (λzz zz=>none) (λzz zz=>none) (λzz=>none) (λx zz=>x) e
noncomputable def Eb (e:Expr):Option Expr:=cs none (λzz=>none) (λzz zz=>none) (λzz=>none) (λzz zz zz=>none) (λzz zz=>none) (λzz zz zz=>none) (λzz zz=>none) (λzz zz zz=>none) (λzz zz zz=>none) (λzz zz=>none) (λzz zz=>none) (λzz=>none) (λzz x=>x) e
noncomputable def fg (e:Expr):List Comprehension:=cs [] (λzz=>[]) (λzz zz=>[]) (λzz=>[]) (λzz zz zz=>[]) (λzz zz=>[]) (λzz zz zz=>[]) (λzz zz=>[]) (λzz x zz=>x) (λzz zz zz=>[]) (λzz zz=>[]) (λzz zz=>[]) (λzz=>[]) (λzz zz=>[]) e
noncomputable def fs (e:Expr):Scope:=cs on (λzz=>on) (λzz zz=>on) (λzz=>on) (λzz zz zz=>on) (λzz zz=>on) (λzz zz zz=>on) (λzz zz=>on) (λzz zz x=>x) (λzz zz x=>x) (λzz zz=>on) (λzz zz=>on) (λzz=>on) (λzz zz=>on) e
noncomputable def DX (e:Expr):Arguments:=cs m4 (λzz=>m4) (λzz zz=>m4) (λzz=>m4) (λzz zz zz=>m4) (λzz zz=>m4) (λzz zz zz=>m4) (λzz zz=>m4) (λzz zz zz=>m4) (λx zz zz=>x) (λzz zz=>m4) (λzz zz=>m4) (λzz=>m4) (λzz zz=>m4) e
noncomputable def D4 (e:Expr):List Keyword:=cs [] (λzz=>[]) (λzz zz=>[]) (λzz=>[]) (λzz zz zz=>[]) (λzz zz=>[]) (λzz zz x=>x) (λzz zz=>[]) (λzz zz zz=>[]) (λzz zz zz=>[]) (λzz zz=>[]) (λzz zz=>[]) (λzz=>[]) (λzz zz=>[]) e
noncomputable abbrev eT:Expr:=.List [] ⟨0,0,0,0⟩
noncomputable def oe (o:Option Expr):Expr:=o.getD eT
noncomputable def e0 (l:List Expr):Expr:=l.headD eT
noncomputable def e1 (l:List Expr):Expr:=e0 l.tail
noncomputable def g0 (l:List Comprehension):Comprehension:=l.headD ⟨eT,eT,[],0⟩
noncomputable def v9 (e:Expr):List Str:=cs [] (λx=>[x]) (λzz zz=>[]) (λzz=>[]) (λzz zz zz=>[]) (λzz zz=>[]) (λzz zz zz=>[]) (λzz zz=>[]) (λzz zz zz=>[]) (λzz zz zz=>[]) (λes zz=>es.map fn) (λes zz=>es.map fn) (λzz=>[]) (λzz zz=>[]) e
noncomputable def sa (s:Stmt):Expr:=AE eT (λx=>oe x) (λzz x=>x) (λzz x zz=>x) (λx zz=>x) (λx zz zz=>x) (λx=>x) (λzz zz zz=>eT) (λzz=>eT) s
noncomputable def sb (s:Stmt):Expr:=AE eT (λzz=>eT) (λx zz=>e0 x) (λx zz zz=>x) (λzz zz=>eT) (λzz zz zz=>eT) (λzz=>eT) (λzz zz zz=>eT) (λzz=>eT) s
noncomputable def s1 (s:Stmt):List Stmt:=AE [] (λzz=>[]) (λzz zz=>[]) (λzz zz x=>x) (λzz x=>x) (λzz x zz=>x) (λzz=>[]) (λzz zz zz=>[]) (λzz=>[]) s
noncomputable def s2 (s:Stmt):List Stmt:=AE [] (λzz=>[]) (λzz zz=>[]) (λzz zz zz=>[]) (λzz zz=>[]) (λzz zz x=>x) (λzz=>[]) (λzz zz zz=>[]) (λzz=>[]) s
noncomputable def Ee (l:List Stmt):Stmt:=l.headD (.Pass ⟨0,0,0,0⟩)
noncomputable def xU (o:Expr) (env:Env):Sem Bool:=do return (← importBound o env).getD true
noncomputable def fF (P:Pm):List (Str × Value):=AR P.fa P.cl++(xk P.fa P.cl++BA)
structure bR (P:Pm) (K:Frag):Prop where
 kn:ft P K
 res:∀ q∈fF P,(q.1 == ("__debug__":Str))=false/\((∃ mg,P.h0.Ns mainGlobals mg/\mg q.1=some q.2)\/(∃ mg mb,P.h0.Ns mainGlobals mg/\mg q.1=none/\P.h0.Ns builtinsNs mb/\mb q.1=some q.2))
 meth:∀ q∈rA,vA P K q.1.1 q.1.2 q.2
section
variable {P:Pm}{K:Frag}{fm:Fm}{W:Nat}{X Y:Expr}{L:List Expr}
theorem bR.of {x:Str}{v:Value}(F:bR P K) (hs:fm.sc.names.lookup x=some .globalImplicit) (hg:(fF P).lookup x=some v):jE P fm x v:=
 ⟨hs,F.res (x,v) (bz hg)⟩
set_option tactic.hygienic true in
theorem eB {α β:Type} [BEq α] [LawfulBEq α] {x:α}{v:β}:∀ {l:List (α × β)},l.lookup x=some v->(x,v)∈l
 | [],h=>nomatch h
 | (y,u)::l,h=>by
  rw [aS] at h
  split at h
  ·rename_i e; cases h; rw [bg e]; exact aa
  ·exact ai _ (eB h)
theorem bR.me {c:Nat}{x:Str}{f:Fn}(F:bR P K) (h:rA.lookup (c,x)=some f):vA P K c x f:=F.meth ((c,x),f) (eB h)
theorem bE.at {e:E}(h:X=Y) (S:bE P fm Y e):bE P fm X e:=by subst h; exact S
theorem cZ.at {e:E}(h:X=Y) (S:cZ P fm Y e):cZ P fm X e:=by subst h; exact S
theorem XE.var {i:Nat}(h:X=.Name (fn X) X.pos) (hx:fm.vis.lookup (fn X)=some i):bE P fm X (.var i):=.at h (.var hx)
theorem XE.int {k:Int}(h:X=.Constant (.int k) (fk X) X.pos):bE P fm X (.int k):=.at h .int
theorem XE.str {k:Str}(h:X=.Constant (.str k) (fk X) X.pos):bE P fm X (.str k):=.at h .str
theorem XE.bool {k:Bool}(h:X=.Constant (.bool k) (fk X) X.pos):bE P fm X (.bool k):=.at h .bool
theorem XE.none (h:X=.Constant .none (fk X) X.pos):bE P fm X .none:=.at h .none
theorem XL.nil (h:L=[]):dM P fm L []:=by subst h; exact .nil
theorem XL.cons {e:E}{es:List E}(S:bE P fm (e0 L) e) (T:dM P fm L.tail es) (h:L=e0 L::L.tail) (he:∀ env,starEach (e0 L::L.tail) env=(false,eval (e0 L) env)::starEach L.tail env):dM P fm L (e::es):=by
 have:=dM.cons S T he
 rwa [← h] at this
theorem XE.tup {es:List E}(S:dM P fm (fl X) es) (h:X=.Tuple (fl X) (fk X) X.pos):bE P fm X (.tup es):=.at h (.tup S)
theorem XE.lst {es:List E}(S:dM P fm (fl X) es) (h:X=.List (fl X) X.pos):bE P fm X (.lst es):=.at h (.lst S)
theorem XE.lstG {es:List E}(S:dM P fm (fl X) es) (h:X=.List (fl X) X.pos):bE P fm X (.lstG es):=.at h (.lstG S)
theorem XE.bin {op:BK}{a b:E}(S:bE P fm (fa X) a) (T:bE P fm (fb X) b) (h:X=.BinOp (fa X) (Bu op) (fb X) X.pos):bE P fm X (.bin op a b):=.at h (.bin S T)
theorem XE.idx {a b:E}(S:bE P fm (fa X) a) (T:bE P fm (fb X) b) (h:X=.Subscript (fa X) (fb X) X.pos) (hs:eZ (fb X)):bE P fm X (.idx a b):=.at h (.idx S T hs)
theorem XE.cmp {op:A9}{a b:E}(S:bE P fm (fa X) a) (T:bE P fm (e0 (fl X)) b) (h:X=.Compare (fa X) [mF op] [e0 (fl X)] X.pos) (hm:behindInMarks (mF op) (e0 (fl X))=false):bE P fm X (.cmp op a b):=.at h (.cmp S T hm)
theorem XE.isIn {neg:Bool}{a b:E}(S:bE P fm (fa X) a) (T:bE P fm (e0 (fl X)) b) (h:X=.Compare (fa X) [if neg then .NotIn else .In] [e0 (fl X)] X.pos) (hm:behindInMarks (if neg then .NotIn else .In) (e0 (fl X))=false):bE P fm X (.isIn neg a b):=.at h (.isIn S T hm)
theorem XE.and {a b:E}(S:bE P fm (e0 (fl X)) a) (T:bE P fm (e1 (fl X)) b) (h:X=.BoolOp .And [e0 (fl X),e1 (fl X)] X.pos):bE P fm X (.and a b):=.at h (.and S T)
theorem XE.or {a b:E}(S:bE P fm (e0 (fl X)) a) (T:bE P fm (e1 (fl X)) b) (h:X=.BoolOp .Or [e0 (fl X),e1 (fl X)] X.pos):bE P fm X (.or a b):=.at h (.or S T)
theorem XE.not {a:E}(S:bE P fm (fa X) a) (h:X=.UnaryOp .Not (fa X) X.pos):bE P fm X (.not a):=.at h (.not S)
theorem XE.ite {x a b:E}(U:cZ P fm (fa X) x) (S:bE P fm (fb X) a) (T:bE P fm (fc X) b) (h:X=.IfExp (fa X) (fb X) (fc X) X.pos):bE P fm X (.ite x a b):=.at h (.ite U S T)
theorem XT.val {e:E}(S:bE P fm X e) (he:∀ env whole,isTrue X env whole=(do let v ← whole; standAt X.pos; holding [v] (truthy v))):cZ P fm X e:=.value S he
theorem XT.cmp {e:E}{op:CmpOp}(S:bE P fm X e) (h:X=.Compare (fa X) [op] [e0 (fl X)] X.pos):cZ P fm X e:=.at h (.comp1 (h ▸ S))
theorem XT.not {a:E}(S:cZ P fm (fa X) a) (h:X=.UnaryOp .Not (fa X) X.pos):cZ P fm X (.not a):=.at h (.not S)
theorem XT.and {a b:E}(S:cZ P fm (e0 (fl X)) a) (T:cZ P fm (e1 (fl X)) b) (h:X=.BoolOp .And [e0 (fl X),e1 (fl X)] X.pos):cZ P fm X (.and a b):=.at h (.and S T)
theorem XT.or {a b:E}(S:cZ P fm (e0 (fl X)) a) (T:cZ P fm (e1 (fl X)) b) (h:X=.BoolOp .Or [e0 (fl X),e1 (fl X)] X.pos):cZ P fm X (.or a b):=.at h (.or S T)
theorem XT.chain {a b c:E}(S:bE P fm (fa X) a) (T:bE P fm (e0 (fl X)) b) (U:bE P fm (e1 (fl X)) c) (h:X=.Compare (fa X) [.LtE,.Lt] [e0 (fl X),e1 (fl X)] X.pos) (hm:lastMarks [.LtE,.Lt] [e0 (fl X),e1 (fl X)]=false):cZ P fm X (.chain a b c):=.at h (.chain S T U hm)
abbrev o5 (X:Expr):Prop:=X=.Call (.Name (fn (fa X)) (fa X).pos) (e0 (fl X)::(fl X).tail) [] X.pos
theorem o5.fl (h:o5 X):fl X=e0 (fl X)::(fl X).tail:=congrArg Mine.fl h
abbrev ty (L:List Expr):Prop:=∀ env,starEach (e0 L::L.tail) env=(false,eval (e0 L) env)::starEach L.tail env
theorem XE.call {f:Fn}{es:List E}(F:bR P K) (T:dM P fm (Mine.fl X) es) (h:o5 X) (hs:fm.sc.names.lookup (fn (fa X))=some .globalImplicit) (hg:(fF P).lookup (fn (fa X))=some (.ref (P.fa f)))
  (he:ty (Mine.fl X)) (hp:dD (Mine.fl X).tail):bE P fm X (.call f es):=.at h (.call F.kn (F.of hs hg) (by rw [← h.fl]; exact T) he hp)
theorem XE.new {c:Nat}{f:Fn}{es:List E}(F:bR P K) (T:dM P fm (Mine.fl X) es) (h:o5 X) (hs:fm.sc.names.lookup (fn (fa X))=some .globalImplicit) (hg:(fF P).lookup (fn (fa X))=some (.ref (P.cl c)))
  (hm:rA.lookup (c,("__init__":Str))=some f) (he:ty (Mine.fl X)) (hp:dD (Mine.fl X).tail):bE P fm X (.new c f es):=.at h (.new F.kn (F.of hs hg) (F.me hm) (by rw [← h.fl]; exact T) he hp)
abbrev fN (X:Expr):Prop:=X=.Call (.Name (fn (fa X)) (fa X).pos) [e0 (fl X)] [] X.pos
abbrev dP (Y:Expr):Prop:=∀ env,starEach [Y] env=(false,eval Y env)::starEach [] env
theorem XE.len {a:E}(F:bR P K) (S:bE P fm (e0 (fl X)) a) (h:fN X) (hs:fm.sc.names.lookup (fn (fa X))=some .globalImplicit) (he:dP (e0 (fl X))) (hg:(fF P).lookup (fn (fa X))=some (.builtin "len")):bE P fm X (.len a):=.at h (.len (F.of hs hg) S he)
theorem XE.tupleOf {a:E}(F:bR P K) (S:bE P fm (e0 (fl X)) a) (h:fN X) (hs:fm.sc.names.lookup (fn (fa X))=some .globalImplicit) (he:dP (e0 (fl X))) (hg:(fF P).lookup (fn (fa X))=some (.type "tuple")):bE P fm X (.tupleOf a):=.at h (.tupleOf (F.of hs hg) S he)
theorem XE.listOf {a:E}(F:bR P K) (S:bE P fm (e0 (fl X)) a) (h:fN X) (hs:fm.sc.names.lookup (fn (fa X))=some .globalImplicit) (he:dP (e0 (fl X))) (hg:(fF P).lookup (fn (fa X))=some (.type "list")):bE P fm X (.listOf a):=.at h (.listOf (F.of hs hg) S he)
theorem XE.intOf {a:E}(F:bR P K) (S:bE P fm (e0 (fl X)) a) (h:fN X) (hs:fm.sc.names.lookup (fn (fa X))=some .globalImplicit) (he:dP (e0 (fl X))) (hg:(fF P).lookup (fn (fa X))=some (.type "int")):bE P fm X (.intOf a):=.at h (.intOf (F.of hs hg) S he)
theorem XE.dictOf {a:E}(F:bR P K) (S:bE P fm (e0 (fl X)) a) (h:fN X) (hs:fm.sc.names.lookup (fn (fa X))=some .globalImplicit) (he:dP (e0 (fl X))) (hg:(fF P).lookup (fn (fa X))=some (.type "dict")):bE P fm X (.dictOf a):=.at h (.dictOf (F.of hs hg) S he)
theorem XE.lenOwn {i:Nat}(F:bR P K) (h:X=.Call (.Name (fn (fa X)) (fa X).pos) [.Name (fn (e0 (fl X))) (e0 (fl X)).pos] [] X.pos) (hx:fm.vis.lookup (fn (e0 (fl X)))=some i)
  (hs:fm.sc.names.lookup (fn (fa X))=some .globalImplicit) (hg:(fF P).lookup (fn (fa X))=some (.builtin "len")):bE P fm X (.lenOwn i):=.at h (.lenOwn (F.of hs hg) hx)
theorem XO.no {o:Option Expr}(h:o=none):m5 P fm o Option.none:=by subst h; exact .none
theorem XO.yes {o:Option Expr}{e:E}(S:bE P fm (oe o) e) (h:o=some (oe o)):m5 P fm o (some e):=by rw [h]; exact .some S
theorem XE.slc {a:E}{lo hi:Option E}(S:bE P fm (fa X) a) (T:m5 P fm (D0 (fb X)) lo) (U:m5 P fm (Eb (fb X)) hi) (h:X=.Subscript (fa X) (.Slice (D0 (fb X)) (Eb (fb X)) Option.none (fb X).pos) X.pos):bE P fm X (.slc a lo hi):=.at h (.slc S T U)
theorem XE.attr {c k:Nat}{a:E}(F:bR P K) (S:bE P fm (fa X) a) (h:X=.Attribute (fa X) (fn X) X.pos) (hn:(bH c)[k]?=some (fn X)) (ha:eJ (fa X) (fn X) X.pos):bE P fm X (.attr c k a):=.at h (.attr F.kn S hn ha)
abbrev wD (X:Expr) (as:List Expr):Prop:=X=.Call (.Attribute (fa (fa X)) (fn (fa X)) (fa X).pos) as [] X.pos
abbrev AF (X:Expr) (as:List Expr):Prop:=cq (fa (fa X)) (fn (fa X)) (fa X).pos X.pos as (xU (fa (fa X)))
theorem XE.meth {c:Nat}{f:Fn}{a:E}{es:List E}(F:bR P K) (S:bE P fm (fa (fa X)) a) (T:dM P fm (Mine.fl X) es) (h:wD X (e0 (fl X)::(fl X).tail)) (hm:rA.lookup (c,fn (fa X))=some f)
  (hf:AF X (e0 (fl X)::(fl X).tail)) (he:ty (Mine.fl X)) (hp:dD (Mine.fl X).tail):bE P fm X (.meth c f a es):=
 .at h (.meth F.kn (F.me hm) S ((show Mine.fl X=e0 (Mine.fl X)::(Mine.fl X).tail from congrArg Mine.fl h) ▸ T) hf he hp)
theorem XE.meth0 {c:Nat}{f:Fn}{a:E}(F:bR P K) (S:bE P fm (fa (fa X)) a) (h:wD X []) (hm:rA.lookup (c,fn (fa X))=some f)
  (hf:AF X []):bE P fm X (.meth c f a []):=.at h (.meth0 F.kn (F.me hm) S hf)
theorem XD.var {i:Nat}(h:X=.Name (fn X) X.pos) (hx:fm.vis.lookup (fn X)=some i):gz P fm X (.var i) true:=by rw [h]; exact .var hx
theorem XD.attr {c k:Nat}{a:E}(F:bR P K) (S:bE P fm (fa X) a) (h:X=.Attribute (fa X) (fn X) X.pos) (hn:(bH c)[k]?=some (fn X)) (ha:eJ (fa X) (fn X) X.pos):gz P fm X (.attr c k a) false:=by
 have:=gz.attr F.kn S hn ha
 rwa [← h] at this
theorem XE.dget {a:D}{b:E}(S:gz P fm (fa X) a true) (T:bE P fm (fb X) b) (h:X=.Subscript (fa X) (fb X) X.pos) (hs:eZ (fb X)):bE P fm X (.dget a b):=.at h (.dget S T hs)
theorem XE.dgetG {a:D}{i j:Nat}(S:gz P fm (fa X) a false) (h:X=.Subscript (fa X) (.Tuple [.Name (fn (e0 (fl (fb X)))) (e0 (fl (fb X))).pos,.Name (fn (e1 (fl (fb X)))) (e1 (fl (fb X))).pos] (fk (fb X)) (fb X).pos) X.pos)
  (hx:fm.vis.lookup (fn (e0 (fl (fb X))))=some i) (hy:fm.vis.lookup (fn (e1 (fl (fb X))))=some j):bE P fm X (.dget a (.tup [.var i,.var j])):=.at h (.dgetG S (.pair hx hy) (by intro _ _; rfl))
theorem XE.dhas {neg st:Bool}{a:D}{b:E}(S:gz P fm (e0 (fl X)) a st) (T:bE P fm (fa X) b) (h:X=.Compare (fa X) [if neg then .NotIn else .In] [e0 (fl X)] X.pos) (hm:behindInMarks (if neg then .NotIn else .In) (e0 (fl X))=false):bE P fm X (.dhas neg a b):=.at h (.dhas S T hm)
theorem XE.dct0 (h:X=.Dict [] [] X.pos):bE P fm X .dct0:=.at h .dct0
theorem XE.dempty {st:Bool}{a:D}(S:gz P fm (fa X) a st) (h:X=.Compare (fa X) [.Eq] [.Dict [] [] (e0 (fl X)).pos] X.pos):bE P fm X (.dempty a):=.at h (.dempty S)
theorem XE.dgetD {i:Nat}{b c:E}(T:dM P fm [e0 (fl X),e1 (fl X)] [b,c]) (h:X=.Call (.Attribute (.Name (fn (fa (fa X))) (fa (fa X)).pos) "get" (fa X).pos) [e0 (fl X),e1 (fl X)] [] X.pos) (hx:fm.vis.lookup (fn (fa (fa X)))=some i)
  (hf:cq (.Name (fn (fa (fa X))) (fa (fa X)).pos) "get" (fa X).pos X.pos [e0 (fl X),e1 (fl X)] (xU (.Name (fn (fa (fa X))) (fa (fa X)).pos)))
  (he:∀ env,starEach [e0 (fl X),e1 (fl X)] env=(false,eval (e0 (fl X)) env)::starEach [e1 (fl X)] env) (hp:dD [e1 (fl X)]):bE P fm X (.dgetD (.var i) b c):=.at h (.dgetD (st:=true) hx T hf he hp)
theorem XE.sortedItems {a:D}{st:Bool}(F:bR P K) (S:gz P fm (fa (fa (e0 (fl X)))) a st) (h:X=.Call (.Name (fn (fa X)) (fa X).pos) [.Call (.Attribute (fa (fa (e0 (fl X)))) "items" (fa (e0 (fl X))).pos) [] [] (e0 (fl X)).pos] [] X.pos)
  (hs:fm.sc.names.lookup (fn (fa X))=some .globalImplicit) (hg:(fF P).lookup (fn (fa X))=some (.builtin "sorted")) (hf:cq (fa (fa (e0 (fl X)))) "items" (fa (e0 (fl X))).pos (e0 (fl X)).pos [] (xU (fa (fa (e0 (fl X))))))
  (he:dP (.Call (.Attribute (fa (fa (e0 (fl X)))) "items" (fa (e0 (fl X))).pos) [] [] (e0 (fl X)).pos)):bE P fm X (.sortedItems a):=.at h (.sortedItems (F.of hs hg) S hf he)
theorem XE.sortedSet {a:E}(F:bR P K) (S:bE P fm (e0 (fl (e0 (fl X)))) a) (h:X=.Call (.Name (fn (fa X)) (fa X).pos) [.Call (.Name (fn (fa (e0 (fl X)))) (fa (e0 (fl X))).pos) [e0 (fl (e0 (fl X)))] [] (e0 (fl X)).pos] [] X.pos)
  (hs:fm.sc.names.lookup (fn (fa X))=some .globalImplicit) (hg:(fF P).lookup (fn (fa X))=some (.builtin "sorted")) (hs2:fm.sc.names.lookup (fn (fa (e0 (fl X))))=some .globalImplicit) (hg2:(fF P).lookup (fn (fa (e0 (fl X))))=some (.type "set"))
  (he:dP (.Call (.Name (fn (fa (e0 (fl X)))) (fa (e0 (fl X))).pos) [e0 (fl (e0 (fl X)))] [] (e0 (fl X)).pos)) (he2:dP (e0 (fl (e0 (fl X))))):bE P fm X (.sortedSet a):=.at h (.sortedSet (F.of hs hg) (F.of hs2 hg2) S he he2)
theorem XE.fmade {a:E}(S:bE P fm (fa (e1 (fl X))) a) (h:X=.JoinedStr [.Constant (.str (Str.ofString "made")) (fk (e0 (fl X))) (e0 (fl X)).pos,.FormattedValue (fa (e1 (fl X))) (-1) Option.none (e1 (fl X)).pos] X.pos):bE P fm X (.fmade a):=.at h (.fmade S)
theorem XE.stuck:bE P fm X .stuck:=.stuck
theorem XT.stuck:cZ P fm X .stuck:=λcf n C A γ s env ae g b g' R I Er e=>nomatch e
end
noncomputable def jJ (e:Expr):Bool:=cs false (λzz=>true) (λzz zz=>false) (λzz=>false) (λzz zz zz=>false) (λzz zz=>false) (λzz zz zz=>false) (λzz zz=>false) (λzz zz zz=>false) (λzz zz zz=>false) (λzz zz=>false) (λzz zz=>false) (λzz=>false) (λzz zz=>false) e
noncomputable def v6 (e:Expr):Bool:=cs false (λzz=>false) (λzz zz=>false) (λzz=>false) (λzz zz zz=>false) (λzz zz=>false) (λzz zz zz=>false) (λzz zz=>false) (λzz zz zz=>false) (λzz zz zz=>false) (λzz zz=>false) (λzz zz=>true) (λzz=>false) (λzz zz=>false) e
theorem j0 {e:Expr}(h:jJ e=true):e=.Name (fn e) e.pos:=by cases e with | Name=>rfl | _=>exact iU h
theorem vo {e:Expr}(h:v6 e=true):e=.Tuple (fl e) (fk e) e.pos:=by cases e with | Tuple=>rfl | _=>exact iU h
noncomputable def qN (fm:Fm) (lo:Bool) (x:Str):Bool:=fm.sc.names.lookup x == some .local || (!lo && fm.sc.names.lookup x == some .cell)
noncomputable def sW (fm:Fm) (lo:Bool):List Expr->List Nat->Bool
 | [],is=>is.isEmpty
 | e::es,is=>match is with
  | []=>false
  | i::is=>(jJ e && (fm.vis.lookup (fn e) == some i)) && (qN fm lo (fn e) && sW fm lo es is)
noncomputable def vf (fm:Fm) (lo:Bool) (e:Expr) (is:List Nat):Bool:=(jJ e && sW fm lo [e] is) || (v6 e && (is.length != 1 && sW fm lo (fl e) is))
theorem uE {fm:Fm}{lo:Bool}{x:Str}(h:qN fm lo x=true):fm.sc.names.lookup x=some .local\/(lo=false/\fm.sc.names.lookup x=some .cell):=
 (Bool.or_eq_true_iff.mp h).imp bg λh=>let h:=aC.mp h; ⟨by cases lo with | false=>rfl | true=>exact iU h.1,bg h.2⟩
theorem fK {fm:Fm}{lo:Bool}:∀ {es:List Expr}{is:List Nat},sW fm lo es is=true->vQ fm lo es is
 | [],[],_=>.nil
 | [],_::_,h=>iU h
 | _::_,[],h=>iU h
 | e::es,i::is,h=>by
  obtain ⟨h,k⟩:=aC.mp h
  obtain ⟨a,b⟩:=aC.mp h
  obtain ⟨c,d⟩:=aC.mp k
  rw [j0 a]
  exact .cons (bg b) (uE c) (fK d)
theorem eG {fm:Fm}{lo:Bool}{e:Expr}{is:List Nat}(h:vf fm lo e is=true):pi fm lo e is:=by
 rcases Bool.or_eq_true_iff.mp h with h | h
 ·obtain ⟨a,b⟩:=aC.mp h
  have t:=fK b
  rw [j0 a] at t ⊢
  cases t with
  | cons u v w=>cases w; exact .one u v
 ·obtain ⟨a,h⟩:=aC.mp h
  obtain ⟨b,c⟩:=aC.mp h
  rw [vo a]
  exact .many (fK c) (bne_iff_ne.mp b)
theorem jB {fm:Fm}{es:List Expr}{is:List Nat}(t:vQ fm false es is):mQ fm (es.map fn) is/\es=((es.map fn).zip (es.map Expr.pos)).map (λq=>.Name q.1 q.2):=by
 induction t with
 | nil=>exact ⟨.nil,rfl⟩
 | cons a b _ ih=>exact ⟨.cons a (b.imp id λh=>h.2) ih.1,by
   simp only [List.map_cons,List.zip_cons_cons]
   exact congrArg _ ih.2⟩
noncomputable def pt (fm:Fm) (sc:Scope) (tv:pj) (tg:List Nat):Bool:=
 sc.names.all (λx=>x.2 != .cell && (x.2 != .local || sc.names.lookup x.1 == some .local) && (x.2 != .free || (fm.sc.names.lookup x.1 == some .cell || fm.sc.names.lookup x.1 == some .free))) &&
  (decide ((jW fm sc tv).vis.map (·.2)).Nodup && tv.all λp=>!(p.1 == ("__classdict__":Str)) && (!(p.1 == ("__debug__":Str)) && (tg.contains p.2 && (sc.names.lookup p.1 == some .local))))
theorem uW:∀ {l:pj},(l.map (·.2)).Nodup->∀ x y i,l.lookup x=some i->l.lookup y=some i->x=y:=by
 intro l h x y i h1 h2
 have dA:∀ {l:pj},(l.map (·.2)).Nodup->∀ {x y:Str}{i:Nat},(x,i)∈l->(y,i)∈l->x=y:=by
  intro l
  induction l with
  | nil=>intro _ _ _ _ h; cases h
  | cons p l ih=>
   intro h x y i h1 h2
   obtain ⟨a,b⟩:=aT.mp h
   rcases az.mp h1 with e1 | k1
   ·rcases az.mp h2 with e2 | k2
    ·rw [← e2] at e1; cases e1; rfl
    ·subst e1; exact absurd (bx.mpr ⟨_,k2,rfl⟩) a
   ·rcases az.mp h2 with e2 | k2
    ·subst e2; exact absurd (bx.mpr ⟨_,k1,rfl⟩) a
    ·exact ih b k1 k2
 exact dA h (eB h1) (eB h2)
theorem lh {fm:Fm}{sc:Scope}{tv:pj}{tg:List Nat}(k:sc.kind=.function) (h:pt fm sc tv tg=true):iL fm sc tv tg:=by
 unfold pt at h
 simp only [Bool.and_eq_true,aG,bne_iff_ne,ne_eq,Bool.or_eq_true,beq_iff_eq,decide_eq_true_eq,Bool.not_eq_true',List.contains_iff_mem] at h
 obtain ⟨h1,h2,h3⟩:=h
 exact ⟨k,λx hx hl=>((h1 x hx).1.2).resolve_left (λn=>n hl),λx hx=>(h1 x hx).1.1,λx hx hl=>((h1 x hx).2).resolve_left (λn=>n hl),uW h2,λp hp=>⟨(h3 p hp).1,(h3 p hp).2.1⟩,λp hp=>(h3 p hp).2.2.1,λp hp=>(h3 p hp).2.2.2⟩
section
variable {P:Pm}{K:Frag}{fm:Fm}{W:Nat}{X Y:Expr}{L:List Expr}
def yI (P:Pm) (fm:Fm) (X:Expr) (kd:nX) (a b:E) (tgt:Expr) (is:List Nat):Prop:=∀ (zx:Fm) (lo:Bool),pi zx lo tgt is->dK P fm X kd a b tgt is
theorem XI.plain {a:E}{tgt:Expr}{is:List Nat}(S:bE P fm X a):yI P fm X .plain a .none tgt is:=λzz zz t=>.plain S t
theorem dK.at {a b:E}{kd:nX}{tgt:Expr}{is:List Nat}(h:X=Y) (S:dK P fm Y kd a b tgt is):dK P fm X kd a b tgt is:=by subst h; exact S
theorem XI.range {a:E}{tgt:Expr}{is:List Nat}(F:bR P K) (S:bE P fm (e0 (fl X)) a) (h:fN X) (hs:fm.sc.names.lookup (fn (fa X))=some .globalImplicit)
  (hg:(fF P).lookup (fn (fa X))=some (.type "range")) (he:dP (e0 (fl X))):yI P fm X .range a .none tgt is:=λzz zz t=>.at h (.range (F.of hs hg) S t he)
theorem XI.rev {a:E}{tgt:Expr}{is:List Nat}(F:bR P K) (S:bE P fm (e0 (fl X)) a) (h:fN X) (hs:fm.sc.names.lookup (fn (fa X))=some .globalImplicit)
  (hg:(fF P).lookup (fn (fa X))=some (.type "reversed")) (he:dP (e0 (fl X))):yI P fm X .rev a .none tgt is:=λzz zz t=>.at h (.rev (F.of hs hg) S t he)
theorem XI.enum {a:E}{tgt:Expr}{is:List Nat}(F:bR P K) (S:bE P fm (e0 (fl X)) a) (ht:tgt=.Tuple (fl tgt) (fk tgt) tgt.pos) (h:fN X) (hs:fm.sc.names.lookup (fn (fa X))=some .globalImplicit)
  (hg:(fF P).lookup (fn (fa X))=some (.type "enumerate")) (he:dP (e0 (fl X))):yI P fm X .enum a .none tgt is:=λzz zz zz=>by rw [ht]; exact .at h (.enum (F.of hs hg) S he)
theorem XI.zip {a b:E}{tgt:Expr}{is:List Nat}(F:bR P K) (S:bE P fm (e0 (fl X)) a) (T:bE P fm (e1 (fl X)) b) (ht:tgt=.Tuple (fl tgt) (fk tgt) tgt.pos) (h:X=.Call (.Name (fn (fa X)) (fa X).pos) [e0 (fl X),e1 (fl X)] [] X.pos) (hs:fm.sc.names.lookup (fn (fa X))=some .globalImplicit)
  (hg:(fF P).lookup (fn (fa X))=some (.type "zip")) (he:∀ env,starEach [e0 (fl X),e1 (fl X)] env=(false,eval (e0 (fl X)) env)::starEach [e1 (fl X)] env) (he2:dP (e1 (fl X))) (hp:dD [e1 (fl X)]):
  yI P fm X .zip a b tgt is:=λzz zz zz=>by rw [ht]; exact .at h (.zip (F.of hs hg) S T he he2 hp)
theorem XC.no {l:List Expr}(h:l=[]):kD P fm l Option.none:=by subst h; exact .none
theorem XC.yes {l:List Expr}{e:E}(S:cZ P fm (e0 l) e) (h:l=[e0 l]):kD P fm l (some e):=by rw [h]; exact .some S
noncomputable abbrev gx (X:Expr):Comprehension:=g0 (fg X)
noncomputable abbrev gy (X:Expr):Comprehension:=g0 (fg X).tail
noncomputable abbrev wE (X:Expr) (tg:List Nat):pj:=(v9 (gx X).target).zip tg
noncomputable abbrev BN (fm:Fm) (X:Expr) (tg:List Nat):Fm:=jW fm (fs X) (wE X tg)
theorem XE.comp {tg:List Nat}{kd:nX}{me x1 x2:E}{mc:Option E}(T:yI P fm (gx X).iter kd x1 x2 (gx X).target tg) (S:bE P (BN fm X tg) (fa X) me) (SC:kD P (BN fm X tg) (gx X).ifs mc)
  (h:X=.ListComp (fa X) [⟨(gx X).target,(gx X).iter,(gx X).ifs,0⟩] (fs X) X.pos) (hk:(fs X).kind=.function) (ok:pt fm (fs X) (wE X tg) tg=true) (t:vf (BN fm X tg) true (gx X).target tg=true)
  (hf:∀ env x,foldedSetIterable (gx X).iter env x=pure x):bE P fm X (.comp me tg kd x1 x2 mc):=.at h (.comp (wE X tg) (lh hk ok) (T _ _ (eG t)) (eG t) S SC hf)
noncomputable abbrev nO (X:Expr) (t1 t2:Nat):pj:=(v9 (gx X).target).zip [t1]++(v9 (gy X).target).zip [t2]
theorem XE.comp2 {t1 t2:Nat}{me x1 x2:E}(T:yI P fm (gx X).iter .plain x1 .none (gx X).target [t1]) (T2:yI P (jW fm (fs X) (nO X t1 t2)) (gy X).iter .plain x2 .none (gy X).target [t2]) (S:bE P (jW fm (fs X) (nO X t1 t2)) (fa X) me)
  (h:X=.ListComp (fa X) [⟨(gx X).target,(gx X).iter,[],0⟩,⟨(gy X).target,(gy X).iter,[],0⟩] (fs X) X.pos) (hk:(fs X).kind=.function) (ok:pt fm (fs X) (nO X t1 t2) [t1,t2]=true)
  (t:vf (jW fm (fs X) (nO X t1 t2)) true (gx X).target [t1]=true) (u:vf (jW fm (fs X) (nO X t1 t2)) true (gy X).target [t2]=true)
  (hf:∀ env x,foldedSetIterable (gx X).iter env x=pure x) (hf2:∀ env x,foldedSetIterable (gy X).iter env x=pure x):bE P fm X (.comp2 me t1 x1 t2 x2):=
 .at h (.comp2 (nO X t1 t2) (lh hk ok) (T _ _ (eG t)) (eG t) (T2 _ _ (eG u)) (eG u) S hf hf2)
end
theorem pH {f:Expr->Option Str}(hf:∀ x p,f (.Name x p)=none\/f (.Name x p)=some x):∀ {es:List Expr},es.all jJ=true->(es.filterMap f).length=es.length->es.filterMap f=es.map fn:=by
 intro es
 induction es with
 | nil=>intro _ _; rfl
 | cons e es ih=>
  intro h hl
  rw [List.all_cons,aC] at h
  rw [j0 h.1] at hl ⊢
  rcases hf (fn e) e.pos with h1 | h1
  ·rw [List.filterMap_cons_none h1] at hl
   exact absurd (hl ▸ List.length_filterMap_le f es) (Nat.not_succ_le_self _)
  ·rw [List.filterMap_cons_some h1] at hl ⊢
   rw [ih h.2 (Nat.succ.inj hl)]; rfl
theorem tW {α:Type _}{c:Prop} [Decidable c] {a y z:α}(h:¬ c->y=a\/y=z):(if c then a else y)=a\/(if c then a else y)=z:=by
 by_cases q:c
 ·rw [if_pos q]; exact .inl rfl
 ·rw [if_neg q]; exact h q
theorem Au {α:Type _}{c:Prop} [Decidable c] {a y:α}(h:¬ c->y=a):(if c then a else y)=a:=by
 by_cases q:c
 ·rw [if_pos q]
 ·rw [if_neg q]; exact h q
theorem zY {α:Type _}{c:Prop} [Decidable c] {x:α}:(if c then some x else none)=none\/(if c then some x else none)=some x:=by
 by_cases q:c
 ·rw [if_pos q]; exact .inr rfl
 ·rw [if_neg q]; exact .inl rfl
theorem zx {α β:Type _}{f:α->Option β}{a b:α}(h:f b=none):([a,b].filterMap f).length≠2:=by
 cases ha:f a with
 | none=>rw [List.filterMap_cons_none ha,List.filterMap_cons_none h]; exact λq=>nomatch (q:(0:Nat)=2)
 | some c=>rw [List.filterMap_cons_some ha,List.filterMap_cons_none h]; exact λq=>nomatch (q:(1:Nat)=2)
theorem rN {es vs:List Expr}{c k:Nat}{tp vp:Pos}(hn:es.all jJ=true) (hv:(vs.all (foldedForSure 8) || !vs.all (constantsAlone 8))=true) (env:Env):
  swappedStores [.Tuple es c tp] (.Tuple vs k vp) env=pure none\/swappedStores [.Tuple es c tp] (.Tuple vs k vp) env=pure (some (es.map fn)):=by
 unfold swappedStores
 dsimp only
 refine tW λzz=>tW λzz=>tW λh3=>tW λh4=>?_
 rw [Bool.eq_false_iff.mpr h4,Bool.false_or,Bool.not_eq_true'] at hv
 rw [if_neg (by rw [hv]; exact aF)]
 rw [Bool.not_eq_true,Bool.or_eq_false_iff] at h3
 exact .inr (congrArg (λl=>(pure (some l):Sem (Option (List Str)))) (pH (λzz zz=>zY) hn (bne_eq_false_iff_eq.mp h3.1)))
theorem uP {y x nm:Str}{p1 tp ttp vp:Pos}{o:Expr}{vs:List Expr}{ct kt:Nat}(env:Env):swappedStores [.Tuple [.Name y p1,.Attribute o nm tp] ct ttp] (.Tuple vs kt vp) env=pure none:=by
 unfold swappedStores
 dsimp only
 refine Au λzz=>Au λzz=>if_pos ?_
 rw [Bool.or_eq_true]
 exact .inl (bne_iff_ne.mpr (zx rfl))
noncomputable def wx (v:pj) (i:Nat):Str:=((v.find? (·.2 == i)).map (·.1)).getD ⟨#[]⟩
noncomputable def AU (c k:Nat):Str:=((bH c)[k]?).getD ⟨#[]⟩
noncomputable abbrev nm (X:Expr):Expr:=.Name (fn X) X.pos
section
variable {P:Pm}{K:Frag}{fm:Fm}{W:Nat}{X Y:Expr}{L:List Expr}{Z Z':Stmt}{Zs:List Stmt}
theorem jC {x:Str}(h:qN fm false x=true):fm.sc.names.lookup x=some .local\/fm.sc.names.lookup x=some .cell:=(uE h).imp id λz=>z.2
theorem b0.at {m:S}(h:Z=Z') (S:b0 P fm W Z' m):b0 P fm W Z m:=by subst h; exact S
theorem XS.nil (h:Zs=[]):bX P fm W Zs []:=by subst h; exact .nil
theorem XS.cons {m:S}{ms:List S}(S:b0 P fm W (Ee Zs) m) (T:bX P fm W Zs.tail ms) (h:Zs=Ee Zs::Zs.tail):bX P fm W Zs (m::ms):=by
 have:=bX.cons S T
 rwa [← h] at this
theorem XS.frV {i:Nat}{ms:List S}(T:bX P fm W Zs ms) (hx:fm.vis.lookup (wx fm.vis i)=some i):bX P fm W Zs (.freezeV i::ms):=.ghost (.freezeV hx) T
theorem XS.frA {c k i:Nat}{ms:List S}(T:bX P fm W Zs ms) (hx:fm.vis.lookup (wx fm.vis i)=some i) (hn:(bH c)[k]?=some (AU c k)):bX P fm W Zs (.freezeA c k (.var i)::ms):=.ghost (.freezeA hx hn) T
theorem X1.ret {e:E}(S:bE P fm (sa Z) e) (h:Z=.Return (some (sa Z)) Z.pos):b0 P fm W Z (.ret e):=.at h (.ret S)
theorem X1.iff {x:E}{m1 m2:List S}(U:cZ P fm (sa Z) x) (S:bX P fm W (s1 Z) m1) (T:bX P fm W (s2 Z) m2) (h:Z=.If (sa Z) (s1 Z) (s2 Z) Z.pos):b0 P fm W Z (.iff x m1 m2):=.at h (.iff U S T)
theorem X1.expr {e:E}(S:bE P fm (sa Z) e) (h:Z=.Expr (sa Z) Z.pos) (hsw:∀ env,swapsWith (sa Z) none Z.pos.line env=pure false):b0 P fm W Z (.expr e):=.at h (.expr S hsw)
theorem X1.asg {e:E}{i:Nat}(S:bE P fm (sa Z) e) (h:Z=.Assign [nm (sb Z)] (sa Z) Z.pos) (hx:fm.vis.lookup (fn (sb Z))=some i) (hk:qN fm false (fn (sb Z))=true)
  (hsw:∀ env,swapsWith (sa Z) (some (nm (sb Z))) Z.pos.line env=pure false):b0 P fm W Z (.asg i e):=.at h (.asg hx (jC hk) S hsw)
theorem X1.asgComp {tg:List Nat}{kd:nX}{me x1 x2:E}{mc:Option E}{i:Nat}(T:yI P fm (gx (sa Z)).iter kd x1 x2 (gx (sa Z)).target tg) (S:bE P (BN fm (sa Z) tg) (fa (sa Z)) me) (SC:kD P (BN fm (sa Z) tg) (gx (sa Z)).ifs mc)
  (h:Z=.Assign [nm (sb Z)] (.ListComp (fa (sa Z)) [⟨(gx (sa Z)).target,(gx (sa Z)).iter,(gx (sa Z)).ifs,0⟩] (fs (sa Z)) (sa Z).pos) Z.pos) (hx:fm.vis.lookup (fn (sb Z))=some i) (hl:qN fm false (fn (sb Z))=true)
  (hk:(fs (sa Z)).kind=.function) (ok:pt fm (fs (sa Z)) (wE (sa Z) tg) tg=true) (t:vf (BN fm (sa Z) tg) true (gx (sa Z)).target tg=true) (hf:∀ env x,foldedSetIterable (gx (sa Z)).iter env x=pure x)
  (hs:∀ env,∃ b,swapsWith (.ListComp (fa (sa Z)) [⟨(gx (sa Z)).target,(gx (sa Z)).iter,(gx (sa Z)).ifs,0⟩] (fs (sa Z)) (sa Z).pos) (some (nm (sb Z))) Z.pos.line env=pure b):
  b0 P fm W Z (.asg i (.comp me tg kd x1 x2 mc)):=.at h (.asgComp (wE (sa Z) tg) hx (jC hl) (lh hk ok) (T _ _ (eG t)) (eG t) S SC hf hs)
theorem X1.whl {x:E}{m:List S}(U:cZ P fm (sa Z) x) (S:bX P fm W (s1 Z) m) (h:Z=.While (sa Z) (s1 Z) [] Z.pos):b0 P fm W Z (.whl x m):=.at h (.whl U S)
theorem X1.for {is:List Nat}{kd:nX}{x y:E}{m:List S}(T:yI P fm (sa Z) kd x y (sb Z) is) (S:bX P fm W (s1 Z) m) (h:Z=.For (sb Z) (sa Z) (s1 Z) [] Z.pos) (t:vf fm false (sb Z) is=true) (hf:∀ env x,foldedSetIterable (sa Z) env x=pure x):
  b0 P fm W Z (.for is kd x y m):=.at h (.for (T _ _ (eG t)) (eG t) S hf λa b its it e h=>jM e h)
theorem XR.val {e:E}{i:Nat}(S:bE P fm X e):kE P fm X (.val e) i:=.val S
theorem XR.ownL {es:List E}{i:Nat}(S:dM P fm (fl X) es) (h:X=.List (fl X) X.pos) (hl:es.length<=lim):kE P fm X (.ownL es) i:=by rw [h]; exact .ownL S hl
theorem XR.ownD {i:Nat}(h:X=.Dict [] [] X.pos):kE P fm X .ownD i:=by rw [h]; exact .ownD
theorem XRs.nil (h:L=[]):ig P fm L [] []:=by subst h; exact .nil
theorem XRs.cons {r:R}{rs:List R}{i:Nat}{is:List Nat}(S:kE P fm (e0 L) r i) (T:ig P fm L.tail rs is) (h:L=e0 L::L.tail) (he:ty L):ig P fm L (r::rs) (i::is):=by
 have:=ig.cons S T he
 rwa [← h] at this
abbrev gW (Z:Stmt) (v:Expr):Prop:=Z=.Assign [.Tuple (fl (sb Z)) (fk (sb Z)) (sb Z).pos] v Z.pos
theorem X1.asgs {is:List Nat}{rs:List R}(S:ig P fm (fl (sa Z)) rs is) (h:gW Z (.Tuple (fl (sa Z)) (fk (sa Z)) (sa Z).pos)) (t:sW fm false (fl (sb Z)) is=true) (hn:decide ((fl (sb Z)).map fn).Nodup=true) (ha:(fl (sb Z)).all jJ=true)
  (hv:((fl (sa Z)).all (foldedForSure 8) || !(fl (sa Z)).all (constantsAlone 8))=true) (hl:rs.length<=lim) (hsw:∀ env,swapsWithSole [.Tuple (fl (sb Z)) (fk (sb Z)) (sb Z).pos] (.Tuple (fl (sa Z)) (fk (sa Z)) (sa Z).pos) Z.pos.line env=pure false):
  b0 P fm W Z (.asgs is rs):=.at h (.asgs (jB (fK t)).1 (bw hn) ⟨_,(jB (fK t)).2,by rw [aw,aw]⟩ S hl hsw (rN ha hv))
theorem X1.unp {is:List Nat}{e:E}(S:bE P fm (sa Z) e) (h:gW Z (sa Z)) (t:sW fm false (fl (sb Z)) is=true) (hn:decide ((fl (sb Z)).map fn).Nodup=true)
  (hsw:∀ env,swapsWithSole [.Tuple (fl (sb Z)) (fk (sb Z)) (sb Z).pos] (sa Z) Z.pos.line env=pure false) (hst:∀ env,swappedStores [.Tuple (fl (sb Z)) (fk (sb Z)) (sb Z).pos] (sa Z) env=pure none):
  b0 P fm W Z (.unp is e):=.at h (.unp (jB (fK t)).1 (bw hn) ⟨_,(jB (fK t)).2,by rw [aw,aw]⟩ S hsw hst)
theorem X1.ownL {es:List E}{i:Nat}(S:dM P fm (fl (sa Z)) es) (h:Z=.Assign [nm (sb Z)] (.List (fl (sa Z)) (sa Z).pos) Z.pos) (hx:fm.vis.lookup (fn (sb Z))=some i) (hk:qN fm false (fn (sb Z))=true) (hl:es.length<=lim):
  b0 P fm W Z (.ownL i es):=.at h (.ownL hx (jC hk) S hl)
theorem X1.ownDictOf {e:E}{i:Nat}(F:bR P K) (S:bE P fm (e0 (fl (sa Z))) e) (h:Z=.Assign [nm (sb Z)] (.Call (nm (fa (sa Z))) [e0 (fl (sa Z))] [] (sa Z).pos) Z.pos) (hx:fm.vis.lookup (fn (sb Z))=some i) (hk:qN fm false (fn (sb Z))=true)
  (hs:fm.sc.names.lookup (fn (fa (sa Z)))=some .globalImplicit) (hg:(fF P).lookup (fn (fa (sa Z)))=some (.type "dict")) (he:dP (e0 (fl (sa Z)))):b0 P fm W Z (.ownDictOf i e):=.at h (.ownDictOf hx (jC hk) (F.of hs hg) S he)
noncomputable abbrev Mx (X:Expr) (name:Str) (as:List Expr):Expr:=.Call (.Attribute (nm (fa (fa X))) name (fa X).pos) as [] X.pos
abbrev Mf (X:Expr) (name:Str) (as:List Expr):Prop:=cq (nm (fa (fa X))) name (fa X).pos X.pos as (xU (nm (fa (fa X))))
theorem X1.app {e:E}{i:Nat}(S:bE P fm (e0 (fl (sa Z))) e) (h:Z=.Expr (Mx (sa Z) "append" [e0 (fl (sa Z))]) Z.pos) (hx:fm.vis.lookup (fn (fa (fa (sa Z))))=some i) (hf:Mf (sa Z) "append" [e0 (fl (sa Z))]) (he:dP (e0 (fl (sa Z)))):
  b0 P fm W Z (.app i e):=.at h (.app hx S hf he)
theorem X1.ext {e:E}{i:Nat}(S:bE P fm (e0 (fl (sa Z))) e) (h:Z=.Expr (Mx (sa Z) "extend" [e0 (fl (sa Z))]) Z.pos) (hx:fm.vis.lookup (fn (fa (fa (sa Z))))=some i) (hf:Mf (sa Z) "extend" [e0 (fl (sa Z))]) (he:dP (e0 (fl (sa Z)))):
  b0 P fm W Z (.ext i e):=.at h (.ext hx S hf he)
noncomputable abbrev Zx (X:Expr):Expr:=.Call (nm (fa X)) [e0 (fl X),e1 (fl X)] [] X.pos
theorem X1.extZip {a b:E}{i:Nat}(F:bR P K) (S:bE P fm (e0 (fl (e0 (fl (sa Z))))) a) (T:bE P fm (e1 (fl (e0 (fl (sa Z))))) b) (h:Z=.Expr (Mx (sa Z) "extend" [Zx (e0 (fl (sa Z)))]) Z.pos) (hx:fm.vis.lookup (fn (fa (fa (sa Z))))=some i)
  (hs:fm.sc.names.lookup (fn (fa (e0 (fl (sa Z)))))=some .globalImplicit) (hg:(fF P).lookup (fn (fa (e0 (fl (sa Z)))))=some (.type "zip")) (hf:Mf (sa Z) "extend" [Zx (e0 (fl (sa Z)))]) (he:dP (Zx (e0 (fl (sa Z)))))
  (he1:∀ env,starEach [e0 (fl (e0 (fl (sa Z)))),e1 (fl (e0 (fl (sa Z))))] env=(false,eval (e0 (fl (e0 (fl (sa Z))))) env)::starEach [e1 (fl (e0 (fl (sa Z))))] env) (he2:dP (e1 (fl (e0 (fl (sa Z)))))) (hp:dD [e1 (fl (e0 (fl (sa Z))))]):
  b0 P fm W Z (.extZip i a b):=.at h (.extZip hx (F.of hs hg) S T hf he he1 he2 hp)
abbrev sw (Z:Stmt) (t v:Expr):Prop:=∀ env,swapsWithSole [t] v Z.pos.line env=pure false
abbrev BR (t v:Expr):Prop:=∀ env,swappedStores [t] v env=pure none
noncomputable abbrev Sx (X k:Expr):Expr:=.Subscript (nm (fa X)) k X.pos
theorem X1.setD {mk mv:E}{i:Nat}(S:bE P fm (sa Z) mv) (T:bE P fm (fb (sb Z)) mk) (h:Z=.Assign [Sx (sb Z) (fb (sb Z))] (sa Z) Z.pos) (hx:fm.vis.lookup (fn (fa (sb Z)))=some i)
  (hsw:sw Z (Sx (sb Z) (fb (sb Z))) (sa Z)) (hst:BR (Sx (sb Z) (fb (sb Z))) (sa Z)):b0 P fm W Z (.setD i mk mv):=.at h (.setD hx S T hsw hst)
noncomputable abbrev Ax (X:Expr):Expr:=.Attribute (fa X) (fn X) X.pos
theorem X1.sattr {mo mv:E}{c k:Nat}(F:bR P K) (S:bE P fm (sa Z) mv) (T:bE P fm (fa (sb Z)) mo) (h:Z=.Assign [Ax (sb Z)] (sa Z) Z.pos) (hn:(bH c)[k]?=some (fn (sb Z)))
  (hsw:sw Z (Ax (sb Z)) (sa Z)) (hst:BR (Ax (sb Z)) (sa Z)):b0 P fm W Z (.sattr c k mo mv):=.at h (.sattr F.kn S T hn hsw hst)
theorem X1.sattrD {mo:E}{c k:Nat}(F:bR P K) (T:bE P fm (fa (sb Z)) mo) (h:Z=.Assign [Ax (sb Z)] (.Dict [] [] (sa Z).pos) Z.pos) (hn:(bH c)[k]?=some (fn (sb Z)))
  (hsw:sw Z (Ax (sb Z)) (.Dict [] [] (sa Z).pos)) (hst:BR (Ax (sb Z)) (.Dict [] [] (sa Z).pos)):b0 P fm W Z (.sattrD c k mo):=.at h (.sattrD F.kn T hn hsw hst)
noncomputable abbrev Ox (X:Expr) (name:Str):Expr:=.Call (.Attribute (Ax (fa (fa X))) name (fa X).pos) [nm (e0 (fl X))] [] X.pos
abbrev Of (X:Expr) (name:Str):Prop:=cq (Ax (fa (fa X))) name (fa X).pos X.pos [nm (e0 (fl X))] (xU (Ax (fa (fa X))))
abbrev Af (X:Expr):Prop:=eJ (fa X) (fn X) X.pos
theorem X1.appA {mo:E}{c k i:Nat}(F:bR P K) (T:bE P fm (fa (fa (fa (sa Z)))) mo) (h:Z=.Expr (Ox (sa Z) "append") Z.pos) (hn:(bH c)[k]?=some (fn (fa (fa (sa Z))))) (hx:fm.vis.lookup (fn (e0 (fl (sa Z))))=some i)
  (ha:Af (fa (fa (sa Z)))) (hf:Of (sa Z) "append"):b0 P fm W Z (.appA c k mo (.var i)):=.at h (.appA F.kn T hn hx ha hf)
theorem X1.popDA {mo:E}{c k i:Nat}(F:bR P K) (T:bE P fm (fa (fa (fa (sa Z)))) mo) (h:Z=.Expr (Ox (sa Z) "pop") Z.pos) (hn:(bH c)[k]?=some (fn (fa (fa (sa Z))))) (hx:fm.vis.lookup (fn (e0 (fl (sa Z))))=some i)
  (ha:Af (fa (fa (sa Z)))) (hf:Of (sa Z) "pop"):b0 P fm W Z (.popDA c k mo (.var i)):=.at h (.popDA F.kn T hn hx ha hf)
theorem X1.setDA {mo mv mk:E}{c k:Nat}(F:bR P K) (S:bE P fm (sa Z) mv) (T:bE P fm (fa (fa (sb Z))) mo) (U:bE P fm (fb (sb Z)) mk) (h:Z=.Assign [.Subscript (Ax (fa (sb Z))) (fb (sb Z)) (sb Z).pos] (sa Z) Z.pos) (hn:(bH c)[k]?=some (fn (fa (sb Z))))
  (ha:Af (fa (sb Z))) (hsw:sw Z (.Subscript (Ax (fa (sb Z))) (fb (sb Z)) (sb Z).pos) (sa Z)) (hst:BR (.Subscript (Ax (fa (sb Z))) (fb (sb Z)) (sb Z).pos) (sa Z)):b0 P fm W Z (.setDA c k mo mk mv):=.at h (.setDA F.kn S T U hn ha hsw hst)
noncomputable abbrev Gx (X:Expr) (k:Nat):Expr:=.Subscript (nm (fa X)) (.Constant (.int k) (fk (fb X)) (fb X).pos) X.pos
theorem X1.setG {mv:E}{i k:Nat}(S:bE P fm (sa Z) mv) (h:Z=.Assign [Gx (sb Z) k] (sa Z) Z.pos) (hx:fm.vis.lookup (fn (fa (sb Z)))=some i) (hk:k<=800)
  (hsw:sw Z (Gx (sb Z) k) (sa Z)) (hst:BR (Gx (sb Z) k) (sa Z)):b0 P fm W Z (.setG (.var i) k mv):=.at h (.setG hx S hk hsw hst)
noncomputable abbrev Tx (X:Expr):Expr:=.Tuple [nm (e0 (fl X)),nm (e1 (fl X))] (fk X) X.pos
theorem X1.popUnp {i j w:Nat}(h:Z=.Assign [Tx (sb Z)] (Mx (sa Z) "pop" []) Z.pos) (hx:fm.vis.lookup (fn (fa (fa (sa Z))))=some w) (t:sW fm false [nm (e0 (fl (sb Z))),nm (e1 (fl (sb Z)))] [i,j]=true) (hn:decide [fn (e0 (fl (sb Z))),fn (e1 (fl (sb Z)))].Nodup=true)
  (hi:(w != i)=true) (hj:(w != j)=true) (hf:Mf (sa Z) "pop" []) (hsw:sw Z (Tx (sb Z)) (Mx (sa Z) "pop" [])) (hst:BR (Tx (sb Z)) (Mx (sa Z) "pop" [])):b0 P fm W Z (.popUnp i j w):=
 .at h (.popUnp hx (jB (fK t)).1 (bw hn) (bne_iff_ne.mp hi) (bne_iff_ne.mp hj) hf hsw hst)
noncomputable abbrev Kx (X:Expr):Expr:=.Tuple [nm (e0 (fl X)),.Attribute (nm (fa (e1 (fl X)))) (fn (e1 (fl X))) (e1 (fl X)).pos] (fk X) X.pos
noncomputable abbrev Vx (X:Expr) (n:Expr) (a:Str):Expr:=.Tuple [.Attribute (.Name (fn n) (fa (e0 (fl X))).pos) a (e0 (fl X)).pos,.List (fl (e1 (fl X))) (e1 (fl X)).pos] (fk X) X.pos
theorem X1.takeAttr {i j c k:Nat}{es:List E}(F:bR P K) (S:dM P fm (fl (e1 (fl (sa Z)))) es) (h:Z=.Assign [Kx (sb Z)] (Vx (sa Z) (fa (e1 (fl (sb Z)))) (fn (e1 (fl (sb Z))))) Z.pos) (hx:fm.vis.lookup (fn (fa (e1 (fl (sb Z)))))=some j) (hy:fm.vis.lookup (fn (e0 (fl (sb Z))))=some i)
  (hk:qN fm false (fn (e0 (fl (sb Z))))=true) (hij:(i != j)=true) (hn:(bH c)[k]?=some (fn (e1 (fl (sb Z))))) (hl:es.length<=lim) (ha:eJ (.Name (fn (fa (e1 (fl (sb Z))))) (fa (e0 (fl (sa Z)))).pos) (fn (e1 (fl (sb Z)))) (e0 (fl (sa Z))).pos)
  (hsw:sw Z (Kx (sb Z)) (Vx (sa Z) (fa (e1 (fl (sb Z)))) (fn (e1 (fl (sb Z)))))):b0 P fm W Z (.takeAttr i c k (.var j) es):=
 .at h (.takeAttr F.kn hx hy (jC hk) (bne_iff_ne.mp hij) hn S hl ha hsw λenv=>uP (x:=fn (sb Z)) env)
noncomputable abbrev Dx (X:Expr):Expr:=Mx X "setdefault" [e0 (fl X),e1 (fl X)]
abbrev Df (X:Expr):Prop:=Mf X "setdefault" [e0 (fl X),e1 (fl X)]
abbrev v3 (X:Expr):Prop:=∀ env,starEach [e0 (fl X),e1 (fl X)] env=(false,eval (e0 (fl X)) env)::starEach [e1 (fl X)] env
noncomputable abbrev Nx (X l:Expr):Expr:=.Compare l [.NotEq] [e0 (fl X)] X.pos
theorem X1.sdA {mk md mr:E}{w:Nat}{m:List S}(T:bE P fm (e0 (fl (fa (sa Z)))) mk) (U:bE P fm (e1 (fl (fa (sa Z)))) md) (V:bE P fm (e0 (fl (sa Z))) mr) (B:bX P fm W (s1 Z) m) (h:Z=.If (Nx (sa Z) (Dx (fa (sa Z)))) (s1 Z) [] Z.pos) (hx:fm.vis.lookup (fn (fa (fa (fa (sa Z)))))=some w)
  (hf:Df (fa (sa Z))) (he:v3 (fa (sa Z))) (he2:dP (e1 (fl (fa (sa Z))))) (hp:dD [e1 (fl (fa (sa Z)))]) (hm:behindInMarks .NotEq (e0 (fl (sa Z)))=false):
  b0 P fm W Z (.ifSetdef w mk md none mr none m):=.at h (.sdA hx T U V B hf he he2 hp hm)
theorem X1.sdC {mk md mr ma:E}{w:Nat}{m:List S}(T:bE P fm (e0 (fl (fa (e0 (fl (sa Z)))))) mk) (U:bE P fm (e1 (fl (fa (e0 (fl (sa Z)))))) md) (V:bE P fm (e0 (fl (e0 (fl (sa Z))))) mr) (A:cZ P fm (e1 (fl (sa Z))) ma) (B:bX P fm W (s1 Z) m)
  (h:Z=.If (.BoolOp .Or [Nx (e0 (fl (sa Z))) (Dx (fa (e0 (fl (sa Z))))),e1 (fl (sa Z))] (sa Z).pos) (s1 Z) [] Z.pos) (hx:fm.vis.lookup (fn (fa (fa (fa (e0 (fl (sa Z)))))))=some w)
  (hf:Df (fa (e0 (fl (sa Z))))) (he:v3 (fa (e0 (fl (sa Z))))) (he2:dP (e1 (fl (fa (e0 (fl (sa Z))))))) (hp:dD [e1 (fl (fa (e0 (fl (sa Z)))))]) (hm:behindInMarks .NotEq (e0 (fl (e0 (fl (sa Z)))))=false):
  b0 P fm W Z (.ifSetdef w mk md none mr (some ma) m):=.at h (.sdC hx T U V A B hf he he2 hp hm)
theorem X1.sdB {mk md mr:E}{w i:Nat}{m:List S}(T:bE P fm (e0 (fl (fb (fa (sa Z))))) mk) (U:bE P fm (e1 (fl (fb (fa (sa Z))))) md) (V:bE P fm (e0 (fl (sa Z))) mr) (B:bX P fm W (s1 Z) m) (h:Z=.If (Nx (sa Z) (Sx (fa (sa Z)) (Dx (fb (fa (sa Z)))))) (s1 Z) [] Z.pos)
  (hx:fm.vis.lookup (fn (fa (fa (fb (fa (sa Z))))))=some w) (hy:fm.vis.lookup (fn (fa (fa (sa Z))))=some i) (hi:(i != w)=true) (hs:eZ (Dx (fb (fa (sa Z)))))
  (hf:Df (fb (fa (sa Z)))) (he:v3 (fb (fa (sa Z)))) (he2:dP (e1 (fl (fb (fa (sa Z)))))) (hp:dD [e1 (fl (fb (fa (sa Z))))]) (hm:behindInMarks .NotEq (e0 (fl (sa Z)))=false):
  b0 P fm W Z (.ifSetdef w mk md (some (.var i)) mr none m):=.at h (.sdB hx hy (bne_iff_ne.mp hi) T U V B hs hf he he2 hp hm)
noncomputable def sX:Pos:=⟨268,40,268,76⟩
structure jA (P:Pm) (fm:Fm):Prop where
 glo:∃ mg,P.h0.Ns mainGlobals mg/\P.h0.BuiltinsAt mg P.tab
 ne:mainGlobals≠P.tab
 cd:∃ c,fm.cd=.ref c/\CodeHd P.h0 c P.tab
 pos:P.lpos=sX
 qual:fm.qu++"<lambda>"=P.lqual
theorem yc {sc:Scope}(h:sc.names.all (λx=>x.2 != .free)=true) (env:Env):closureFor sc env=pure []:=by
 have dA:∀ (l:List (Str × NameKind)) (acc:List (Str × Addr)),l.all (λx=>x.2 != .free)=true ->
   (forIn l acc λx r=>(if (x.2 == NameKind.free)=true then (do let c ← cellOf env x.1; pure (.yield ((x.1,c)::r))) else pure (.yield r):Sem (ForInStep (List (Str × Addr)))))=pure acc:=by
  intro l
  induction l with
  | nil=>intro acc _; rfl
  | cons x l ih=>
   intro acc h
   simp only [List.all_cons,Bool.and_eq_true] at h
   rw [List.forIn_cons,if_neg (by simpa using h.1),pure_bind]
   exact ih acc h.2
 exact (bind_congr λzz=>rfl).trans ((congrArg (· >>= pure) (dA sc.names [] h)).trans (pure_bind _ _))
noncomputable def Ds (sc:Scope) (ns:List Str) (np:Nat):Bool:=
 (!sc.isCoroutine && !sc.isGenerator) && (sc.names.all (λx=>x.2 != .free) && (decide (ns.take np).Nodup && (ns.all (λx=>!(x == ("__classdict__":Str)) && !(x == ("__debug__":Str))) && (ns.take np).all (λx=>sc.names.lookup x == some .local || sc.names.lookup x == some .cell))))
theorem wK {sc:Scope}{ns:List Str}{np:Nat}(k:sc.kind=.function) (h:Ds sc ns np=true):z7 sc ns np:=by
 unfold Ds at h
 simp only [Bool.and_eq_true,Bool.not_eq_true',decide_eq_true_eq] at h
 exact ⟨k,h.1.1,h.1.2,h.2.1,h.2.2.1,by simpa using h.2.2.2.1,by simpa using h.2.2.2.2⟩
noncomputable abbrev lx (X:Expr):Expr:=((D4 (fa X)).headD ⟨none,eT,⟨0,0,0,0⟩⟩).value
noncomputable abbrev lk (X:Expr):Pos:=((D4 (fa X)).headD ⟨none,eT,⟨0,0,0,0⟩⟩).pos
noncomputable abbrev la (X:Expr):Arg:=(DX (lx X)).args.headD ⟨⟨#[]⟩,none,⟨0,0,0,0⟩⟩
noncomputable abbrev lc (X:Expr):Expr:=fa (lx X)
noncomputable abbrev lb (X:Expr):Expr:=e0 (fl (lc X))
theorem XE.sortedFirst {md:D}{st:Bool}(F:bR P K) (G:jA P fm) (S:gz P fm (e0 (fl (fa X))) md st)
  (h:X=.Subscript (.Call (nm (fa (fa X))) [e0 (fl (fa X))] [⟨Option.some (Str.ofString "key"),.Lambda ⟨[],[⟨(la X).arg,Option.none,(la X).pos⟩],Option.none,[],[],Option.none,[]⟩ (.Call (nm (fa (lc X))) [.BinOp (.Tuple [.Constant (.str ⟨#[61]⟩) (fk (e0 (fl (fa (lb X))))) (e0 (fl (fa (lb X)))).pos] (fk (fa (lb X))) (fa (lb X)).pos) .Add (.Name (la X).arg (fb (lb X)).pos) (lb X).pos] [] (lc X).pos) (fs (lx X)) (lx X).pos,lk X⟩] (fa X).pos) (.Constant (.int 0) (fk (fb X)) (fb X).pos) X.pos)
  (hs:fm.sc.names.lookup (fn (fa (fa X)))=some .globalImplicit) (hg:(fF P).lookup (fn (fa (fa X)))=some (.builtin "sorted")) (hk:(fs (lx X)).kind=.function) (hn:Ds (fs (lx X)) [(la X).arg] 1=true) (hp:(lx X).pos=sX)
  (hs2:(fs (lx X)).names.lookup (fn (fa (lc X)))=some .globalImplicit) (hg2:(fF P).lookup (fn (fa (lc X)))=some (.ref (P.fa .keyOf))) (he:dP (e0 (fl (fa X))))
  (hb:∀ (q:Str) (sc:Scope) (body:Expr) (pm cv ctv v:Value),bindArgs (kla_fn "<lambda>" q ⟨[],[⟨(la X).arg,Option.none,(la X).pos⟩],Option.none,[],[],Option.none,[]⟩ body sc [] pm cv ctv) ⟨[v],[]⟩=pure [((la X).arg,v)]):bE P fm X (.sortedFirst md):=by
 obtain ⟨c,hc,hd⟩:=G.cd
 have ns:=wK hk hn
 exact .at h (.sortedFirst F.kn (F.of hs hg) S ⟨G.glo,G.ne,hc,hd,hp.trans G.pos.symm,G.qual,yc ns.free,λzz=>rfl,ns,F.kn.lim,λbody pm cv ctv v=>hb _ _ body pm cv ctv v⟩ (λcv=>F.of hs2 hg2) he)
end
section
noncomputable def vs (l:List String):pj:=(l.map Str.ofString).zipIdx
variable {P:Pm}{K:Frag}{W:Nat}
theorem z0 (F:bR P K) (cd:Value) (qu:Str):bX P ⟨bW (cj 1),vs ["pattern","names","~"],cd,qu⟩ W (cm (cj 1)) yd.body:=
 (XS.cons (X1.iff (XT.cmp (op:=.Eq) (XE.cmp (XE.slc (XE.idx (XE.var rfl rfl) (XE.int rfl) rfl (λzz zz=>rfl)) (XO.no rfl) (XO.yes (XE.int rfl) rfl) rfl) (XE.str rfl) rfl rfl) rfl) bX.stuck (XS.nil rfl) rfl) (XS.cons (X1.ret (XE.bin (XE.slc (XE.var rfl rfl) (XO.no rfl) (XO.yes (XE.int rfl) rfl) rfl) (XE.tupleOf F (XE.comp (XI.plain (XE.slc (XE.var rfl rfl) (XO.yes (XE.int rfl) rfl) (XO.no rfl) rfl)) (XE.call F (XL.cons (XE.var rfl rfl) (XL.cons (XE.var rfl rfl) (XL.nil rfl) rfl (λzz=>rfl)) rfl (λzz=>rfl)) rfl rfl rfl (λzz=>rfl) (λzz zz=>rfl)) (XC.no rfl) rfl rfl rfl rfl (λzz zz=>rfl)) rfl rfl (λzz=>rfl) rfl) rfl) rfl) (XS.nil rfl) rfl) rfl)
theorem zc (F:bR P K) (cd:Value) (qu:Str):bX P ⟨bW (cj 8),vs ["t"],cd,qu⟩ W (cm (cj 8)) wb.body:=
 (XS.cons (X1.ret (XE.and (XE.cmp (XE.len F (XE.var rfl rfl) rfl rfl (λzz=>rfl) rfl) (XE.int rfl) rfl rfl) (XE.cmp (XE.slc (XE.idx (XE.var rfl rfl) (XE.int rfl) rfl (λzz zz=>rfl)) (XO.no rfl) (XO.yes (XE.int rfl) rfl) rfl) (XE.str rfl) rfl rfl) rfl) rfl) (XS.nil rfl) rfl)
theorem pv (F:bR P K) (cd:Value) (qu:Str):bX P ⟨bW (cj 9),vs ["t","~","~"],cd,qu⟩ W (cm (cj 9)) mA.body:=
 (XS.cons (X1.ret (XE.sortedSet F (XE.comp (XI.plain (XE.call F (XL.cons (XE.var rfl rfl) (XL.nil rfl) rfl (λzz=>rfl)) rfl rfl rfl (λzz=>rfl) (λzz zz=>rfl))) (XE.idx (XE.var rfl rfl) (XE.int rfl) rfl (λzz zz=>rfl)) (XC.yes (XT.val (XE.call F (XL.cons (XE.var rfl rfl) (XL.nil rfl) rfl (λzz=>rfl)) rfl rfl rfl (λzz=>rfl) (λzz zz=>rfl)) (λzz zz=>rfl)) rfl) rfl rfl rfl rfl (λzz zz=>rfl)) rfl rfl rfl rfl rfl (λzz=>rfl) (λzz=>rfl)) rfl) (XS.nil rfl) rfl)
theorem xu (F:bR P K) (cd:Value) (qu:Str):bX P ⟨bW (cj 10),vs ["pattern","table","~"],cd,qu⟩ W (cm (cj 10)) uC.body:=
 (XS.cons (X1.iff (XT.not (XT.val (XE.call F (XL.cons (XE.var rfl rfl) (XL.nil rfl) rfl (λzz=>rfl)) rfl rfl rfl (λzz=>rfl) (λzz zz=>rfl)) (λzz zz=>rfl)) rfl) (XS.cons (X1.ret (XE.bin (XE.tup (XL.cons (XE.idx (XE.var rfl rfl) (XE.int rfl) rfl (λzz zz=>rfl)) (XL.nil rfl) rfl (λzz=>rfl)) rfl) (XE.tupleOf F (XE.comp (XI.plain (XE.slc (XE.var rfl rfl) (XO.yes (XE.int rfl) rfl) (XO.no rfl) rfl)) (XE.call F (XL.cons (XE.var rfl rfl) (XL.cons (XE.var rfl rfl) (XL.nil rfl) rfl (λzz=>rfl)) rfl (λzz=>rfl)) rfl rfl rfl (λzz=>rfl) (λzz zz=>rfl)) (XC.no rfl) rfl rfl rfl rfl (λzz zz=>rfl)) rfl rfl (λzz=>rfl) rfl) rfl) rfl) (XS.nil rfl) rfl) (XS.nil rfl) rfl) bX.stuck rfl)
theorem za (F:bR P K) (cd:Value) (qu:Str):bX P ⟨bW (cj 11),vs ["t","found","k","kid","~","~"],cd,qu⟩ W (cm (cj 11)) w8.body:=
 (XS.cons (X1.ownL (XL.cons (XE.tup (XL.cons (XE.tup (XL.nil rfl) rfl) (XL.cons (XE.var rfl rfl) (XL.nil rfl) rfl (λzz=>rfl)) rfl (λzz=>rfl)) rfl) (XL.nil rfl) rfl (λzz=>rfl)) rfl rfl rfl (by decide)) (XS.cons (X1.for (XI.enum F (XE.slc (XE.var rfl rfl) (XO.yes (XE.int rfl) rfl) (XO.no rfl) rfl) rfl rfl rfl rfl (λzz=>rfl)) (XS.cons (X1.ext (XE.comp (XI.plain (XE.call F (XL.cons (XE.var rfl rfl) (XL.nil rfl) rfl (λzz=>rfl)) rfl rfl rfl (λzz=>rfl) (λzz zz=>rfl))) (XE.tup (XL.cons (XE.bin (XE.tup (XL.cons (XE.var rfl rfl) (XL.nil rfl) rfl (λzz=>rfl)) rfl) (XE.var rfl rfl) rfl) (XL.cons (XE.var rfl rfl) (XL.nil rfl) rfl (λzz=>rfl)) rfl (λzz=>rfl)) rfl) (XC.no rfl) rfl rfl rfl rfl (λzz zz=>rfl)) rfl rfl (λzz=>rfl) (λzz=>rfl)) (XS.nil rfl) rfl) rfl rfl (λzz zz=>rfl)) (XS.frV (XS.cons (X1.ret (XE.var rfl rfl) rfl) (XS.nil rfl) rfl) rfl) rfl) rfl)
theorem wL (F:bR P K) (cd:Value) (qu:Str):bX P ⟨bW (cj 12),vs ["t","path","k"],cd,qu⟩ W (cm (cj 12)) tM.body:=
 (XS.cons (X1.for (XI.plain (XE.var rfl rfl)) (XS.cons (X1.iff (XT.not (XT.chain (XE.int rfl) (XE.var rfl rfl) (XE.bin (XE.len F (XE.var rfl rfl) rfl rfl (λzz=>rfl) rfl) (XE.int rfl) rfl) rfl rfl) rfl) bX.stuck (XS.nil rfl) rfl) (XS.cons (X1.asg (XE.idx (XE.var rfl rfl) (XE.bin (XE.var rfl rfl) (XE.int rfl) rfl) rfl (λzz zz=>rfl)) rfl rfl rfl (λzz=>rfl)) (XS.nil rfl) rfl) rfl) rfl rfl (λzz zz=>rfl)) (XS.cons (X1.ret (XE.var rfl rfl) rfl) (XS.nil rfl) rfl) rfl)
theorem sB (F:bR P K) (cd:Value) (qu:Str):bX P ⟨bW (cj 13),vs ["t","path","u","kid"],cd,qu⟩ W (cm (cj 13)) nJ.body:=
 (XS.cons (X1.iff (XT.cmp (op:=.Eq) (XE.cmp (XE.var rfl rfl) (XE.tup (XL.nil rfl) rfl) rfl rfl) rfl) (XS.cons (X1.ret (XE.var rfl rfl) rfl) (XS.nil rfl) rfl) (XS.nil rfl) rfl) (XS.cons (X1.asg (XE.call F (XL.cons (XE.var rfl rfl) (XL.cons (XE.slc (XE.var rfl rfl) (XO.no rfl) (XO.yes (XE.int rfl) rfl) rfl) (XL.nil rfl) rfl (λzz=>rfl)) rfl (λzz=>rfl)) rfl rfl rfl (λzz=>rfl) (λzz zz=>rfl)) rfl rfl rfl (λzz=>rfl)) (XS.cons (X1.ret (XE.bin (XE.bin (XE.slc (XE.var rfl rfl) (XO.no rfl) (XO.yes (XE.bin (XE.idx (XE.var rfl rfl) (XE.int rfl) rfl (λzz zz=>rfl)) (XE.int rfl) rfl) rfl) rfl) (XE.tup (XL.cons (XE.call F (XL.cons (XE.var rfl rfl) (XL.cons (XE.slc (XE.var rfl rfl) (XO.yes (XE.int rfl) rfl) (XO.no rfl) rfl) (XL.cons (XE.var rfl rfl) (XL.nil rfl) rfl (λzz=>rfl)) rfl (λzz=>rfl)) rfl (λzz=>rfl)) rfl rfl rfl (λzz=>rfl) (λzz zz=>rfl)) (XL.nil rfl) rfl (λzz=>rfl)) rfl) rfl) (XE.slc (XE.var rfl rfl) (XO.yes (XE.bin (XE.idx (XE.var rfl rfl) (XE.int rfl) rfl (λzz zz=>rfl)) (XE.int rfl) rfl) rfl) (XO.no rfl) rfl) rfl) rfl) (XS.nil rfl) rfl) rfl) rfl)
theorem vz (F:bR P K) (cd:Value) (qu:Str):bX P ⟨bW (cj 14),vs ["pattern","t","table","waiting","here","there"],cd,qu⟩ W (cm (cj 14)) qo.body:=
 (XS.cons (X1.asgs (XRs.cons (XR.val (XE.dct0 rfl)) (XRs.cons (XR.ownL (XL.cons (XE.tup (XL.cons (XE.var rfl rfl) (XL.cons (XE.var rfl rfl) (XL.nil rfl) rfl (λzz=>rfl)) rfl (λzz=>rfl)) rfl) (XL.nil rfl) rfl (λzz=>rfl)) rfl (by decide)) (XRs.nil rfl) rfl (λzz=>rfl)) rfl (λzz=>rfl)) rfl rfl rfl rfl rfl (by decide) (λzz=>rfl)) (XS.cons (X1.whl (XT.cmp (op:=.Gt) (XE.cmp (XE.lenOwn F rfl rfl rfl rfl) (XE.int rfl) rfl rfl) rfl) (XS.cons (X1.popUnp rfl rfl rfl rfl rfl rfl (λzz=>rfl) (λzz=>rfl) (λzz=>rfl)) (XS.cons (X1.iff (XT.val (XE.call F (XL.cons (XE.var rfl rfl) (XL.nil rfl) rfl (λzz=>rfl)) rfl rfl rfl (λzz=>rfl) (λzz zz=>rfl)) (λzz zz=>rfl)) bX.stuck (XS.cons (X1.iff (XT.or (XT.cmp (op:=.NotEq) (XE.cmp (XE.idx (XE.var rfl rfl) (XE.int rfl) rfl (λzz zz=>rfl)) (XE.idx (XE.var rfl rfl) (XE.int rfl) rfl (λzz zz=>rfl)) rfl rfl) rfl) (XT.cmp (op:=.NotEq) (XE.cmp (XE.len F (XE.var rfl rfl) rfl rfl (λzz=>rfl) rfl) (XE.len F (XE.var rfl rfl) rfl rfl (λzz=>rfl) rfl) rfl rfl) rfl) rfl) (XS.cons (X1.ret (XE.none rfl) rfl) (XS.nil rfl) rfl) (XS.cons (X1.extZip F (XE.slc (XE.var rfl rfl) (XO.yes (XE.int rfl) rfl) (XO.no rfl) rfl) (XE.slc (XE.var rfl rfl) (XO.yes (XE.int rfl) rfl) (XO.no rfl) rfl) rfl rfl rfl rfl (λzz=>rfl) (λzz=>rfl) (λzz=>rfl) (λzz=>rfl) (λzz zz=>rfl)) (XS.nil rfl) rfl) rfl) (XS.nil rfl) rfl) rfl) (XS.nil rfl) rfl) rfl) rfl) (XS.cons (X1.ret (XE.var rfl rfl) rfl) (XS.nil rfl) rfl) rfl) rfl)
theorem uU (F:bR P K) (cd:Value) (qu:Str):bX P ⟨bW (cj 15),vs ["t","table","~"],cd,qu⟩ W (cm (cj 15)) qX.body:=
 (XS.cons (X1.ret (XE.bin (XE.tup (XL.cons (XE.dgetD (XL.cons (XE.idx (XE.var rfl rfl) (XE.int rfl) rfl (λzz zz=>rfl)) (XL.cons (XE.idx (XE.var rfl rfl) (XE.int rfl) rfl (λzz zz=>rfl)) (XL.nil rfl) rfl (λzz=>rfl)) rfl (λzz=>rfl)) rfl rfl (λzz=>rfl) (λzz=>rfl) (λzz zz=>rfl)) (XL.nil rfl) rfl (λzz=>rfl)) rfl) (XE.tupleOf F (XE.comp (XI.plain (XE.slc (XE.var rfl rfl) (XO.yes (XE.int rfl) rfl) (XO.no rfl) rfl)) (XE.call F (XL.cons (XE.var rfl rfl) (XL.cons (XE.var rfl rfl) (XL.nil rfl) rfl (λzz=>rfl)) rfl (λzz=>rfl)) rfl rfl rfl (λzz=>rfl) (λzz zz=>rfl)) (XC.no rfl) rfl rfl rfl rfl (λzz zz=>rfl)) rfl rfl (λzz=>rfl) rfl) rfl) rfl) (XS.nil rfl) rfl)
theorem zg (F:bR P K) (cd:Value) (qu:Str):bX P ⟨bW (cj 16),vs ["t","some","~","~","~"],cd,qu⟩ W (cm (cj 16)) wq.body:=
 (XS.cons (X1.asgComp (XI.plain (XE.call F (XL.cons (XE.var rfl rfl) (XL.nil rfl) rfl (λzz=>rfl)) rfl rfl rfl (λzz=>rfl) (λzz zz=>rfl))) (XE.var rfl rfl) (XC.no rfl) rfl rfl rfl rfl rfl rfl (λzz zz=>rfl) (λzz=>⟨_,rfl⟩)) (XS.cons (X1.ret (XE.tup (XL.cons (XE.len F (XE.var rfl rfl) rfl rfl (λzz=>rfl) rfl) (XL.cons (XE.tupleOf F (XE.comp (XI.plain (XE.var rfl rfl)) (XE.idx (XE.var rfl rfl) (XE.int rfl) rfl (λzz zz=>rfl)) (XC.no rfl) rfl rfl rfl rfl (λzz zz=>rfl)) rfl rfl (λzz=>rfl) rfl) (XL.cons (XE.tupleOf F (XE.comp (XI.plain (XE.var rfl rfl)) (XE.bin (XE.len F (XE.var rfl rfl) rfl rfl (λzz=>rfl) rfl) (XE.int rfl) rfl) (XC.no rfl) rfl rfl rfl rfl (λzz zz=>rfl)) rfl rfl (λzz=>rfl) rfl) (XL.nil rfl) rfl (λzz=>rfl)) rfl (λzz=>rfl)) rfl (λzz=>rfl)) rfl) rfl) (XS.nil rfl) rfl) rfl)
theorem qG (F:bR P K) (cd:Value) (qu:Str):bX P ⟨bW (cj 18),vs ["ranks","t"],cd,qu⟩ W (cm (cj 18)) mP.body:=
 (XS.cons (X1.ret (XE.tup (XL.cons (XE.dgetD (XL.cons (XE.idx (XE.var rfl rfl) (XE.int rfl) rfl (λzz zz=>rfl)) (XL.cons (XE.int rfl) (XL.nil rfl) rfl (λzz=>rfl)) rfl (λzz=>rfl)) rfl rfl (λzz=>rfl) (λzz=>rfl) (λzz zz=>rfl)) (XL.cons (XE.idx (XE.var rfl rfl) (XE.int rfl) rfl (λzz zz=>rfl)) (XL.cons (XE.bin (XE.len F (XE.var rfl rfl) rfl rfl (λzz=>rfl) rfl) (XE.int rfl) rfl) (XL.nil rfl) rfl (λzz=>rfl)) rfl (λzz=>rfl)) rfl (λzz=>rfl)) rfl) rfl) (XS.nil rfl) rfl)
theorem rP (F:bR P K) (cd:Value) (qu:Str):bX P ⟨bW (eC 19 0),vs ["self","ranks"],cd,qu⟩ W (cm (eC 19 0)) n7.body:=
 (XS.cons (X1.sattr F (XE.var rfl rfl) (XE.var rfl rfl) rfl rfl (λzz=>rfl) (λzz=>rfl)) (XS.cons (X1.sattrD F (XE.var rfl rfl) rfl rfl (λzz=>rfl) (λzz=>rfl)) (XS.nil rfl) rfl) rfl)
theorem yT (F:bR P K) (cd:Value) (qu:Str):bX P ⟨bW (eC 19 1),vs ["self","s","t"],cd,qu⟩ W (cm (eC 19 1)) xf.body:=
 (XS.cons (X1.iff (XT.cmp (op:=.NotIn) (XE.dhas (XD.attr F (XE.var rfl rfl) rfl rfl (λzz=>rfl)) (XE.tup (XL.cons (XE.var rfl rfl) (XL.cons (XE.var rfl rfl) (XL.nil rfl) rfl (λzz=>rfl)) rfl (λzz=>rfl)) rfl) rfl rfl) rfl) (XS.cons (X1.setDA F (XE.meth F (XE.var rfl rfl) (XL.cons (XE.var rfl rfl) (XL.cons (XE.var rfl rfl) (XL.nil rfl) rfl (λzz=>rfl)) rfl (λzz=>rfl)) rfl rfl (λzz=>rfl) (λzz=>rfl) (λzz zz=>rfl)) (XE.var rfl rfl) (XE.tup (XL.cons (XE.var rfl rfl) (XL.cons (XE.var rfl rfl) (XL.nil rfl) rfl (λzz=>rfl)) rfl (λzz=>rfl)) rfl) rfl rfl (λzz=>rfl) (λzz=>rfl) (λzz=>rfl)) (XS.nil rfl) rfl) (XS.nil rfl) rfl) (XS.cons (X1.ret (XE.dgetG (XD.attr F (XE.var rfl rfl) rfl rfl (λzz=>rfl)) rfl rfl rfl) rfl) (XS.nil rfl) rfl) rfl)
theorem vJ (F:bR P K) (cd:Value) (qu:Str):bX P ⟨bW (eC 19 2),vs ["self","s","t","~","one","other","~"],cd,qu⟩ W (cm (eC 19 2)) qA.body:=
 (XS.cons (X1.iff (XT.or (XT.val (XE.call F (XL.cons (XE.var rfl rfl) (XL.nil rfl) rfl (λzz=>rfl)) rfl rfl rfl (λzz=>rfl) (λzz zz=>rfl)) (λzz zz=>rfl)) (XT.cmp (op:=.Eq) (XE.cmp (XE.var rfl rfl) (XE.var rfl rfl) rfl rfl) rfl) rfl) (XS.cons (X1.ret (XE.bool rfl) rfl) (XS.nil rfl) rfl) (XS.nil rfl) rfl) (XS.cons (X1.iff (XT.cmp (op:=.NotEq) (XE.cmp (XE.comp (XI.plain (XE.slc (XE.var rfl rfl) (XO.yes (XE.int rfl) rfl) (XO.no rfl) rfl)) (XE.var rfl rfl) (XC.yes (XT.or (XT.cmp (op:=.Eq) (XE.cmp (XE.var rfl rfl) (XE.var rfl rfl) rfl rfl) rfl) (XT.val (XE.meth F (XE.var rfl rfl) (XL.cons (XE.var rfl rfl) (XL.cons (XE.var rfl rfl) (XL.nil rfl) rfl (λzz=>rfl)) rfl (λzz=>rfl)) rfl rfl (λzz=>rfl) (λzz=>rfl) (λzz zz=>rfl)) (λzz zz=>rfl)) rfl) rfl) rfl rfl rfl rfl (λzz zz=>rfl)) (XE.lst (XL.nil rfl) rfl) rfl rfl) rfl) (XS.cons (X1.ret (XE.bool rfl) rfl) (XS.nil rfl) rfl) (XS.nil rfl) rfl) (XS.cons (X1.iff (XT.or (XT.val (XE.call F (XL.cons (XE.var rfl rfl) (XL.nil rfl) rfl (λzz=>rfl)) rfl rfl rfl (λzz=>rfl) (λzz zz=>rfl)) (λzz zz=>rfl)) (XT.cmp (op:=.NotEq) (XE.cmp (XE.comp (XI.plain (XE.slc (XE.var rfl rfl) (XO.yes (XE.int rfl) rfl) (XO.no rfl) rfl)) (XE.var rfl rfl) (XC.yes (XT.not (XT.val (XE.meth F (XE.var rfl rfl) (XL.cons (XE.var rfl rfl) (XL.cons (XE.var rfl rfl) (XL.nil rfl) rfl (λzz=>rfl)) rfl (λzz=>rfl)) rfl rfl (λzz=>rfl) (λzz=>rfl) (λzz zz=>rfl)) (λzz zz=>rfl)) rfl) rfl) rfl rfl rfl rfl (λzz zz=>rfl)) (XE.lst (XL.nil rfl) rfl) rfl rfl) rfl) rfl) (XS.cons (X1.ret (XE.bool rfl) rfl) (XS.nil rfl) rfl) (XS.nil rfl) rfl) (XS.cons (X1.asgs (XRs.cons (XR.val (XE.call F (XL.cons (XE.attr F (XE.var rfl rfl) rfl rfl (λzz=>rfl)) (XL.cons (XE.var rfl rfl) (XL.nil rfl) rfl (λzz=>rfl)) rfl (λzz=>rfl)) rfl rfl rfl (λzz=>rfl) (λzz zz=>rfl))) (XRs.cons (XR.val (XE.call F (XL.cons (XE.attr F (XE.var rfl rfl) rfl rfl (λzz=>rfl)) (XL.cons (XE.var rfl rfl) (XL.nil rfl) rfl (λzz=>rfl)) rfl (λzz=>rfl)) rfl rfl rfl (λzz=>rfl) (λzz zz=>rfl))) (XRs.nil rfl) rfl (λzz=>rfl)) rfl (λzz=>rfl)) rfl rfl rfl rfl rfl (by decide) (λzz=>rfl)) (XS.cons (X1.ret (XE.or (XE.cmp (XE.var rfl rfl) (XE.var rfl rfl) rfl rfl) (XE.and (XE.cmp (XE.var rfl rfl) (XE.var rfl rfl) rfl rfl) (XE.meth F (XE.var rfl rfl) (XL.cons (XE.slc (XE.var rfl rfl) (XO.yes (XE.int rfl) rfl) (XO.no rfl) rfl) (XL.cons (XE.slc (XE.var rfl rfl) (XO.yes (XE.int rfl) rfl) (XO.no rfl) rfl) (XL.nil rfl) rfl (λzz=>rfl)) rfl (λzz=>rfl)) rfl rfl (λzz=>rfl) (λzz=>rfl) (λzz zz=>rfl)) rfl) rfl) rfl) (XS.nil rfl) rfl) rfl) rfl) rfl) rfl)
theorem oD (F:bR P K) (cd:Value) (qu:Str):bX P ⟨bW (eC 19 3),vs ["self","some","others","kid","late"],cd,qu⟩ W (cm (eC 19 3)) kB.body:=
 (XS.cons (X1.for (XI.zip F (XE.var rfl rfl) (XE.var rfl rfl) rfl rfl rfl rfl (λzz=>rfl) (λzz=>rfl) (λzz zz=>rfl)) (XS.cons (X1.iff (XT.cmp (op:=.NotEq) (XE.cmp (XE.var rfl rfl) (XE.var rfl rfl) rfl rfl) rfl) (XS.cons (X1.ret (XE.meth F (XE.var rfl rfl) (XL.cons (XE.var rfl rfl) (XL.cons (XE.var rfl rfl) (XL.nil rfl) rfl (λzz=>rfl)) rfl (λzz=>rfl)) rfl rfl (λzz=>rfl) (λzz=>rfl) (λzz zz=>rfl)) rfl) (XS.nil rfl) rfl) (XS.nil rfl) rfl) (XS.nil rfl) rfl) rfl rfl (λzz zz=>rfl)) (XS.cons (X1.ret (XE.bool rfl) rfl) (XS.nil rfl) rfl) rfl)
theorem sI (F:bR P K) (cd:Value) (qu:Str):bX P ⟨bW (cj 22),vs ["pattern","table"],cd,qu⟩ W (cm (cj 22)) nN.body:=
 (XS.cons (X1.whl (XT.and (XT.val (XE.call F (XL.cons (XE.var rfl rfl) (XL.nil rfl) rfl (λzz=>rfl)) rfl rfl rfl (λzz=>rfl) (λzz zz=>rfl)) (λzz zz=>rfl)) (XT.cmp (op:=.In) (XE.dhas (XD.var rfl rfl) (XE.idx (XE.var rfl rfl) (XE.int rfl) rfl (λzz zz=>rfl)) rfl rfl) rfl) rfl) bX.stuck rfl) (XS.cons (X1.ret (XE.var rfl rfl) rfl) (XS.nil rfl) rfl) rfl)
theorem y0 (F:bR P K) (cd:Value) (qu:Str):bX P ⟨bW (cj 24),vs ["one","other","table","waiting","here","there"],cd,qu⟩ W (cm (cj 24)) v7.body:=
 (XS.cons (X1.asgs (XRs.cons (XR.val (XE.dct0 rfl)) (XRs.cons (XR.ownL (XL.cons (XE.tup (XL.cons (XE.var rfl rfl) (XL.cons (XE.var rfl rfl) (XL.nil rfl) rfl (λzz=>rfl)) rfl (λzz=>rfl)) rfl) (XL.nil rfl) rfl (λzz=>rfl)) rfl (by decide)) (XRs.nil rfl) rfl (λzz=>rfl)) rfl (λzz=>rfl)) rfl rfl rfl rfl rfl (by decide) (λzz=>rfl)) (XS.cons (X1.whl (XT.cmp (op:=.Gt) (XE.cmp (XE.lenOwn F rfl rfl rfl rfl) (XE.int rfl) rfl rfl) rfl) (XS.cons (X1.popUnp rfl rfl rfl rfl rfl rfl (λzz=>rfl) (λzz=>rfl) (λzz=>rfl)) (XS.cons (X1.asgs (XRs.cons (XR.val (XE.call F (XL.cons (XE.var rfl rfl) (XL.cons (XE.var rfl rfl) (XL.nil rfl) rfl (λzz=>rfl)) rfl (λzz=>rfl)) rfl rfl rfl (λzz=>rfl) (λzz zz=>rfl))) (XRs.cons (XR.val (XE.call F (XL.cons (XE.var rfl rfl) (XL.cons (XE.var rfl rfl) (XL.nil rfl) rfl (λzz=>rfl)) rfl (λzz=>rfl)) rfl rfl rfl (λzz=>rfl) (λzz zz=>rfl))) (XRs.nil rfl) rfl (λzz=>rfl)) rfl (λzz=>rfl)) rfl rfl rfl rfl rfl (by decide) (λzz=>rfl)) (XS.cons (X1.iff (XT.and (XT.val (XE.call F (XL.cons (XE.var rfl rfl) (XL.nil rfl) rfl (λzz=>rfl)) rfl rfl rfl (λzz=>rfl) (λzz zz=>rfl)) (λzz zz=>rfl)) (XT.not (XT.val (XE.call F (XL.cons (XE.var rfl rfl) (XL.nil rfl) rfl (λzz=>rfl)) rfl rfl rfl (λzz=>rfl) (λzz zz=>rfl)) (λzz zz=>rfl)) rfl) rfl) bX.stuck (XS.nil rfl) rfl) (XS.cons (X1.iff (XT.val (XE.call F (XL.cons (XE.var rfl rfl) (XL.nil rfl) rfl (λzz=>rfl)) rfl rfl rfl (λzz=>rfl) (λzz zz=>rfl)) (λzz zz=>rfl)) bX.stuck (XS.cons (X1.iff (XT.or (XT.cmp (op:=.NotEq) (XE.cmp (XE.idx (XE.var rfl rfl) (XE.int rfl) rfl (λzz zz=>rfl)) (XE.idx (XE.var rfl rfl) (XE.int rfl) rfl (λzz zz=>rfl)) rfl rfl) rfl) (XT.cmp (op:=.NotEq) (XE.cmp (XE.len F (XE.var rfl rfl) rfl rfl (λzz=>rfl) rfl) (XE.len F (XE.var rfl rfl) rfl rfl (λzz=>rfl) rfl) rfl rfl) rfl) rfl) (XS.cons (X1.ret (XE.none rfl) rfl) (XS.nil rfl) rfl) (XS.cons (X1.extZip F (XE.slc (XE.var rfl rfl) (XO.yes (XE.int rfl) rfl) (XO.no rfl) rfl) (XE.slc (XE.var rfl rfl) (XO.yes (XE.int rfl) rfl) (XO.no rfl) rfl) rfl rfl rfl rfl (λzz=>rfl) (λzz=>rfl) (λzz=>rfl) (λzz=>rfl) (λzz zz=>rfl)) (XS.nil rfl) rfl) rfl) (XS.nil rfl) rfl) rfl) (XS.nil rfl) rfl) rfl) rfl) rfl) rfl) (XS.cons (X1.ret (XE.var rfl rfl) rfl) (XS.nil rfl) rfl) rfl) rfl)
theorem uT (F:bR P K) (cd:Value) (qu:Str):bX P ⟨bW (cj 27),vs ["one","other","table"],cd,qu⟩ W (cm (cj 27)) pR.body:=
 (XS.cons (X1.asg (XE.call F (XL.cons (XE.var rfl rfl) (XL.cons (XE.var rfl rfl) (XL.nil rfl) rfl (λzz=>rfl)) rfl (λzz=>rfl)) rfl rfl rfl (λzz=>rfl) (λzz zz=>rfl)) rfl rfl rfl (λzz=>rfl)) (XS.cons (X1.ret (XE.ite (XT.cmp (op:=.Is) (XE.cmp (XE.var rfl rfl) (XE.none rfl) rfl rfl) rfl) (XE.none rfl) XE.stuck rfl) rfl) (XS.nil rfl) rfl) rfl)
theorem yU (F:bR P K) (cd:Value) (qu:Str):bX P ⟨bW (cj 28),vs ["pattern","mark","~"],cd,qu⟩ W (cm (cj 28)) yq.body:=
 (XS.cons (X1.ret (XE.call F (XL.cons (XE.var rfl rfl) (XL.cons (XE.dictOf F (XE.comp (XI.plain (XE.call F (XL.cons (XE.var rfl rfl) (XL.nil rfl) rfl (λzz=>rfl)) rfl rfl rfl (λzz=>rfl) (λzz zz=>rfl))) XE.stuck (XC.no rfl) rfl rfl rfl rfl (λzz zz=>rfl)) rfl rfl (λzz=>rfl) rfl) (XL.nil rfl) rfl (λzz=>rfl)) rfl (λzz=>rfl)) rfl rfl rfl (λzz=>rfl) (λzz zz=>rfl)) rfl) (XS.nil rfl) rfl)
theorem vM (F:bR P K) (cd:Value) (qu:Str):bX P ⟨bW (cj 29),vs ["names","known","mark","~"],cd,qu⟩ W (cm (cj 29)) rg.body:=
 (XS.cons (X1.asg (XE.str rfl) rfl rfl rfl (λzz=>rfl)) (XS.cons (X1.whl (XT.cmp (op:=.NotEq) (XE.cmp (XE.comp (XI.plain (XE.var rfl rfl)) (XE.var rfl rfl) (XC.yes XT.stuck rfl) rfl rfl rfl rfl (λzz zz=>rfl)) (XE.lst (XL.nil rfl) rfl) rfl rfl) rfl) bX.stuck rfl) (XS.cons (X1.ret (XE.var rfl rfl) rfl) (XS.nil rfl) rfl) rfl) rfl)
theorem sP (F:bR P K) (cd:Value) (qu:Str):bX P ⟨bW (cj 30),vs ["rule","other","mark","left","right","found","path","part","is_same","table","pattern"],cd,qu⟩ W (cm (cj 30)) nZ.body:=
 (XS.cons (X1.asg (XE.call F (XL.cons (XE.call F (XL.cons (XE.attr F (XE.var rfl rfl) rfl rfl (λzz=>rfl)) (XL.nil rfl) rfl (λzz=>rfl)) rfl rfl rfl (λzz=>rfl) (λzz zz=>rfl)) (XL.cons (XE.call F (XL.cons (XE.attr F (XE.var rfl rfl) rfl rfl (λzz=>rfl)) (XL.nil rfl) rfl (λzz=>rfl)) rfl rfl rfl (λzz=>rfl) (λzz zz=>rfl)) (XL.nil rfl) rfl (λzz=>rfl)) rfl (λzz=>rfl)) rfl rfl rfl (λzz=>rfl) (λzz zz=>rfl)) rfl rfl rfl (λzz=>rfl)) (XS.cons (X1.asgs (XRs.cons (XR.val (XE.call F (XL.cons (XE.attr F (XE.var rfl rfl) rfl rfl (λzz=>rfl)) (XL.cons (XE.var rfl rfl) (XL.nil rfl) rfl (λzz=>rfl)) rfl (λzz=>rfl)) rfl rfl rfl (λzz=>rfl) (λzz zz=>rfl))) (XRs.cons (XR.val (XE.call F (XL.cons (XE.attr F (XE.var rfl rfl) rfl rfl (λzz=>rfl)) (XL.cons (XE.var rfl rfl) (XL.nil rfl) rfl (λzz=>rfl)) rfl (λzz=>rfl)) rfl rfl rfl (λzz=>rfl) (λzz zz=>rfl))) (XRs.cons (XR.val (XE.lst (XL.nil rfl) rfl)) (XRs.nil rfl) rfl (λzz=>rfl)) rfl (λzz=>rfl)) rfl (λzz=>rfl)) rfl rfl rfl rfl rfl (by decide) (λzz=>rfl)) (XS.cons (X1.for (XI.plain (XE.call F (XL.cons (XE.attr F (XE.var rfl rfl) rfl rfl (λzz=>rfl)) (XL.nil rfl) rfl (λzz=>rfl)) rfl rfl rfl (λzz=>rfl) (λzz zz=>rfl))) (XS.cons (X1.asg (XE.and (XE.cmp (XE.var rfl rfl) (XE.tup (XL.nil rfl) rfl) rfl rfl) (XE.cmp (XE.tup (XL.cons (XE.attr F (XE.var rfl rfl) rfl rfl (λzz=>rfl)) (XL.cons (XE.attr F (XE.var rfl rfl) rfl rfl (λzz=>rfl)) (XL.nil rfl) rfl (λzz=>rfl)) rfl (λzz=>rfl)) rfl) (XE.tup (XL.cons (XE.attr F (XE.var rfl rfl) rfl rfl (λzz=>rfl)) (XL.cons (XE.attr F (XE.var rfl rfl) rfl rfl (λzz=>rfl)) (XL.nil rfl) rfl (λzz=>rfl)) rfl (λzz=>rfl)) rfl) rfl rfl) rfl) rfl rfl rfl (λzz=>rfl)) (XS.cons (X1.asg (XE.ite (XT.or (XT.val (XE.call F (XL.cons (XE.var rfl rfl) (XL.nil rfl) rfl (λzz=>rfl)) rfl rfl rfl (λzz=>rfl) (λzz zz=>rfl)) (λzz zz=>rfl)) (XT.val (XE.var rfl rfl) (λzz zz=>rfl)) rfl) (XE.none rfl) (XE.call F (XL.cons (XE.var rfl rfl) (XL.cons (XE.var rfl rfl) (XL.nil rfl) rfl (λzz=>rfl)) rfl (λzz=>rfl)) rfl rfl rfl (λzz=>rfl) (λzz zz=>rfl)) rfl) rfl rfl rfl (λzz=>rfl)) (XS.cons (X1.iff (XT.cmp (op:=.IsNot) (XE.cmp (XE.var rfl rfl) (XE.none rfl) rfl rfl) rfl) bX.stuck (XS.nil rfl) rfl) (XS.nil rfl) rfl) rfl) rfl) rfl rfl (λzz zz=>rfl)) (XS.cons (X1.ret (XE.var rfl rfl) rfl) (XS.nil rfl) rfl) rfl) rfl) rfl)
theorem rX (F:bR P K) (cd:Value) (qu:Str):bX P ⟨bW (eC 32 0),vs ["self","name","left","right","needs","known","asked","kind","one","other","lost","~"],cd,qu⟩ W (cm (eC 32 0)) oq.body:=
 (XS.cons (X1.iff (XT.val (XE.call F (XL.cons (XE.var rfl rfl) (XL.nil rfl) rfl (λzz=>rfl)) rfl rfl rfl (λzz=>rfl) (λzz zz=>rfl)) (λzz zz=>rfl)) bX.stuck (XS.nil rfl) rfl) (XS.cons (X1.asg (XE.call F (XL.cons (XE.var rfl rfl) (XL.nil rfl) rfl (λzz=>rfl)) rfl rfl rfl (λzz=>rfl) (λzz zz=>rfl)) rfl rfl rfl (λzz=>rfl)) (XS.cons (X1.asg (XE.bin (XE.lst (XL.cons (XE.tup (XL.cons (XE.str rfl) (XL.cons (XE.var rfl rfl) (XL.cons (XE.var rfl rfl) (XL.nil rfl) rfl (λzz=>rfl)) rfl (λzz=>rfl)) rfl (λzz=>rfl)) rfl) (XL.nil rfl) rfl (λzz=>rfl)) rfl) (XE.listOf F (XE.var rfl rfl) rfl rfl (λzz=>rfl) rfl) rfl) rfl rfl rfl (λzz=>rfl)) (XS.cons (X1.for (XI.plain (XE.var rfl rfl)) (XS.cons (X1.iff (XT.cmp (op:=.NotIn) (XE.isIn (XE.var rfl rfl) (XE.tup (XL.cons (XE.str rfl) (XL.cons (XE.str rfl) (XL.nil rfl) rfl (λzz=>rfl)) rfl (λzz=>rfl)) rfl) rfl rfl) rfl) bX.stuck (XS.nil rfl) rfl) (XS.cons (X1.asgComp (XI.plain (XE.bin (XE.call F (XL.cons (XE.var rfl rfl) (XL.nil rfl) rfl (λzz=>rfl)) rfl rfl rfl (λzz=>rfl) (λzz zz=>rfl)) (XE.call F (XL.cons (XE.var rfl rfl) (XL.nil rfl) rfl (λzz=>rfl)) rfl rfl rfl (λzz=>rfl) (λzz zz=>rfl)) rfl)) (XE.var rfl rfl) (XC.yes (XT.cmp (op:=.NotIn) (XE.isIn (XE.var rfl rfl) (XE.var rfl rfl) rfl rfl) rfl) rfl) rfl rfl rfl rfl rfl rfl (λzz zz=>rfl) (λzz=>⟨_,rfl⟩)) (XS.cons (X1.iff (XT.cmp (op:=.NotEq) (XE.cmp (XE.var rfl rfl) (XE.lst (XL.nil rfl) rfl) rfl rfl) rfl) bX.stuck (XS.nil rfl) rfl) (XS.nil rfl) rfl) rfl) rfl) rfl rfl (λzz zz=>rfl)) (XS.cons (X1.sattr F (XE.var rfl rfl) (XE.var rfl rfl) rfl rfl (λzz=>rfl) (λzz=>rfl)) (XS.cons (X1.sattr F (XE.var rfl rfl) (XE.var rfl rfl) rfl rfl (λzz=>rfl) (λzz=>rfl)) (XS.cons (X1.sattr F (XE.var rfl rfl) (XE.var rfl rfl) rfl rfl (λzz=>rfl) (λzz=>rfl)) (XS.cons (X1.sattr F (XE.tupleOf F (XE.var rfl rfl) rfl rfl (λzz=>rfl) rfl) (XE.var rfl rfl) rfl rfl (λzz=>rfl) (λzz=>rfl)) (XS.nil rfl) rfl) rfl) rfl) rfl) rfl) rfl) rfl) rfl)
theorem sL (F:bR P K) (cd:Value) (qu:Str):bX P ⟨bW (eC 34 0),vs ["self","rules"],cd,qu⟩ W (cm (eC 34 0)) nj.body:=
 (XS.cons (X1.sattr F (XE.listOf F (XE.var rfl rfl) rfl rfl (λzz=>rfl) rfl) (XE.var rfl rfl) rfl rfl (λzz=>rfl) (λzz=>rfl)) (XS.nil rfl) rfl)
theorem wX (F:bR P K) (cd:Value) (qu:Str):bX P ⟨bW (eC 34 1),vs ["self","term","path","part","rule","table","step"],cd,qu⟩ W (cm (eC 34 1)) tI.body:=
 (XS.cons (X1.for (XI.plain (XE.call F (XL.cons (XE.var rfl rfl) (XL.nil rfl) rfl (λzz=>rfl)) rfl rfl rfl (λzz=>rfl) (λzz zz=>rfl))) (XS.cons (X1.for (XI.plain (XE.attr F (XE.var rfl rfl) rfl rfl (λzz=>rfl))) (XS.cons (X1.asg (XE.call F (XL.cons (XE.attr F (XE.var rfl rfl) rfl rfl (λzz=>rfl)) (XL.cons (XE.var rfl rfl) (XL.nil rfl) rfl (λzz=>rfl)) rfl (λzz=>rfl)) rfl rfl rfl (λzz=>rfl) (λzz zz=>rfl)) rfl rfl rfl (λzz=>rfl)) (XS.cons (X1.iff (XT.cmp (op:=.IsNot) (XE.cmp (XE.var rfl rfl) (XE.none rfl) rfl rfl) rfl) (XS.cons (X1.asg (XE.tup (XL.cons (XE.var rfl rfl) (XL.cons (XE.str rfl) (XL.cons (XE.attr F (XE.var rfl rfl) rfl rfl (λzz=>rfl)) (XL.cons (XE.tupleOf F (XE.sortedItems F (XD.var rfl rfl) rfl rfl rfl (λzz=>rfl) (λzz=>rfl)) rfl rfl (λzz=>rfl) rfl) (XL.cons (XE.bool rfl) (XL.nil rfl) rfl (λzz=>rfl)) rfl (λzz=>rfl)) rfl (λzz=>rfl)) rfl (λzz=>rfl)) rfl (λzz=>rfl)) rfl) rfl rfl rfl (λzz=>rfl)) (XS.cons (X1.ret (XE.tup (XL.cons (XE.var rfl rfl) (XL.cons (XE.call F (XL.cons (XE.var rfl rfl) (XL.cons (XE.var rfl rfl) (XL.cons (XE.call F (XL.cons (XE.attr F (XE.var rfl rfl) rfl rfl (λzz=>rfl)) (XL.cons (XE.var rfl rfl) (XL.nil rfl) rfl (λzz=>rfl)) rfl (λzz=>rfl)) rfl rfl rfl (λzz=>rfl) (λzz zz=>rfl)) (XL.nil rfl) rfl (λzz=>rfl)) rfl (λzz=>rfl)) rfl (λzz=>rfl)) rfl rfl rfl (λzz=>rfl) (λzz zz=>rfl)) (XL.nil rfl) rfl (λzz=>rfl)) rfl (λzz=>rfl)) rfl) rfl) (XS.nil rfl) rfl) rfl) (XS.nil rfl) rfl) (XS.nil rfl) rfl) rfl) rfl rfl (λzz zz=>rfl)) (XS.nil rfl) rfl) rfl rfl (λzz zz=>rfl)) (XS.cons (X1.ret (XE.none rfl) rfl) (XS.nil rfl) rfl) rfl)
theorem yi (F:bR P K) (cd:Value) (qu:Str):bX P ⟨bW (eC 34 2),vs ["self","term","most","steps","found"],cd,qu⟩ W (cm (eC 34 2)) tE.body:=
 (XS.cons (X1.asgs (XRs.cons (XR.ownL (XL.nil rfl) rfl (by decide)) (XRs.cons (XR.val (XE.meth F (XE.var rfl rfl) (XL.cons (XE.var rfl rfl) (XL.nil rfl) rfl (λzz=>rfl)) rfl rfl (λzz=>rfl) (λzz=>rfl) (λzz zz=>rfl))) (XRs.nil rfl) rfl (λzz=>rfl)) rfl (λzz=>rfl)) rfl rfl rfl rfl rfl (by decide) (λzz=>rfl)) (XS.cons (X1.whl (XT.cmp (op:=.IsNot) (XE.cmp (XE.var rfl rfl) (XE.none rfl) rfl rfl) rfl) (XS.cons (X1.iff (XT.cmp (op:=.Eq) (XE.cmp (XE.lenOwn F rfl rfl rfl rfl) (XE.var rfl rfl) rfl rfl) rfl) bX.stuck (XS.nil rfl) rfl) (XS.cons (X1.app (XE.idx (XE.var rfl rfl) (XE.int rfl) rfl (λzz zz=>rfl)) rfl rfl (λzz=>rfl) (λzz=>rfl)) (XS.cons (X1.asg (XE.idx (XE.var rfl rfl) (XE.int rfl) rfl (λzz zz=>rfl)) rfl rfl rfl (λzz=>rfl)) (XS.cons (X1.asg (XE.meth F (XE.var rfl rfl) (XL.cons (XE.var rfl rfl) (XL.nil rfl) rfl (λzz=>rfl)) rfl rfl (λzz=>rfl) (λzz=>rfl) (λzz zz=>rfl)) rfl rfl rfl (λzz=>rfl)) (XS.nil rfl) rfl) rfl) rfl) rfl) rfl) (XS.frV (XS.cons (X1.ret (XE.tup (XL.cons (XE.var rfl rfl) (XL.cons (XE.var rfl rfl) (XL.nil rfl) rfl (λzz=>rfl)) rfl (λzz=>rfl)) rfl) rfl) (XS.nil rfl) rfl) rfl) rfl) rfl)
theorem vG (F:bR P K) (cd:Value) (qu:Str):bX P ⟨bW (eC 34 3),vs ["self","one","other","most","here","steps","there","others","~"],cd,qu⟩ W (cm (eC 34 3)) qe.body:=
 (XS.cons (X1.unp (XE.meth F (XE.var rfl rfl) (XL.cons (XE.var rfl rfl) (XL.cons (XE.var rfl rfl) (XL.nil rfl) rfl (λzz=>rfl)) rfl (λzz=>rfl)) rfl rfl (λzz=>rfl) (λzz=>rfl) (λzz zz=>rfl)) rfl rfl rfl (λzz=>rfl) (λzz=>rfl)) (XS.cons (X1.unp (XE.meth F (XE.var rfl rfl) (XL.cons (XE.var rfl rfl) (XL.cons (XE.var rfl rfl) (XL.nil rfl) rfl (λzz=>rfl)) rfl (λzz=>rfl)) rfl rfl (λzz=>rfl) (λzz=>rfl) (λzz zz=>rfl)) rfl rfl rfl (λzz=>rfl) (λzz=>rfl)) (XS.cons (X1.iff (XT.cmp (op:=.NotEq) (XE.cmp (XE.var rfl rfl) (XE.var rfl rfl) rfl rfl) rfl) (XS.cons (X1.ret (XE.none rfl) rfl) (XS.nil rfl) rfl) (XS.nil rfl) rfl) (XS.cons (X1.ret (XE.bin (XE.var rfl rfl) (XE.comp (XI.rev F (XE.var rfl rfl) rfl rfl rfl (λzz=>rfl)) (XE.bin (XE.slc (XE.var rfl rfl) (XO.no rfl) (XO.yes (XE.int rfl) rfl) rfl) (XE.tup (XL.cons (XE.bool rfl) (XL.nil rfl) rfl (λzz=>rfl)) rfl) rfl) (XC.no rfl) rfl rfl rfl rfl (λzz zz=>rfl)) rfl) rfl) (XS.nil rfl) rfl) rfl) rfl) rfl)
theorem s0 (F:bR P K) (cd:Value) (qu:Str):bX P ⟨bW (eC 35 0),vs ["self","equations","order","most","left","right"],cd,qu⟩ W (cm (eC 35 0)) nq.body:=
 (XS.cons (X1.sattr F (XE.var rfl rfl) (XE.var rfl rfl) rfl rfl (λzz=>rfl) (λzz=>rfl)) (XS.cons (X1.sattr F (XE.var rfl rfl) (XE.var rfl rfl) rfl rfl (λzz=>rfl) (λzz=>rfl)) (XS.cons (X1.sattr F (XE.int rfl) (XE.var rfl rfl) rfl rfl (λzz=>rfl) (λzz=>rfl)) (XS.cons (X1.sattr F (XE.lst (XL.nil rfl) rfl) (XE.var rfl rfl) rfl rfl (λzz=>rfl) (λzz=>rfl)) (XS.cons (X1.sattr F (XE.lst (XL.nil rfl) rfl) (XE.var rfl rfl) rfl rfl (λzz=>rfl) (λzz=>rfl)) (XS.cons (X1.sattrD F (XE.var rfl rfl) rfl rfl (λzz=>rfl) (λzz=>rfl)) (XS.cons (X1.for (XI.plain (XE.var rfl rfl)) (XS.cons (X1.expr (XE.meth F (XE.var rfl rfl) (XL.cons (XE.var rfl rfl) (XL.cons (XE.var rfl rfl) (XL.nil rfl) rfl (λzz=>rfl)) rfl (λzz=>rfl)) rfl rfl (λzz=>rfl) (λzz=>rfl) (λzz zz=>rfl)) rfl (λzz=>rfl)) (XS.nil rfl) rfl) rfl rfl (λzz zz=>rfl)) (XS.nil rfl) rfl) rfl) rfl) rfl) rfl) rfl) rfl)
theorem AO (F:bR P K) (cd:Value) (qu:Str):bX P ⟨bW (eC 35 1),vs ["self","left","right"],cd,qu⟩ W (cm (eC 35 1)) Aa.body:=
 (XS.cons (X1.iff (XT.cmp (op:=.NotEq) (XE.cmp (XE.var rfl rfl) (XE.var rfl rfl) rfl rfl) rfl) (XS.cons (X1.setDA F (XE.bool rfl) (XE.var rfl rfl) (XE.slc (XE.call F (XL.cons (XE.tup (XL.cons (XE.str rfl) (XL.cons (XE.var rfl rfl) (XL.cons (XE.var rfl rfl) (XL.nil rfl) rfl (λzz=>rfl)) rfl (λzz=>rfl)) rfl (λzz=>rfl)) rfl) (XL.cons (XE.dct0 rfl) (XL.nil rfl) rfl (λzz=>rfl)) rfl (λzz=>rfl)) rfl rfl rfl (λzz=>rfl) (λzz zz=>rfl)) (XO.yes (XE.int rfl) rfl) (XO.no rfl) rfl) rfl rfl (λzz=>rfl) (λzz=>rfl) (λzz=>rfl)) (XS.nil rfl) rfl) (XS.nil rfl) rfl) (XS.nil rfl) rfl)
theorem xB (F:bR P K) (cd:Value) (qu:Str):bX P ⟨bW (eC 35 2),vs ["self","left","right","one","other"],cd,qu⟩ W (cm (eC 35 2)) tL.body:=
 (XS.cons (X1.for (XI.plain (XE.tup (XL.cons (XE.tup (XL.cons (XE.var rfl rfl) (XL.cons (XE.var rfl rfl) (XL.nil rfl) rfl (λzz=>rfl)) rfl (λzz=>rfl)) rfl) (XL.cons (XE.tup (XL.cons (XE.var rfl rfl) (XL.cons (XE.var rfl rfl) (XL.nil rfl) rfl (λzz=>rfl)) rfl (λzz=>rfl)) rfl) (XL.nil rfl) rfl (λzz=>rfl)) rfl (λzz=>rfl)) rfl)) (XS.cons (X1.iff (XT.val (XE.meth F (XE.attr F (XE.var rfl rfl) rfl rfl (λzz=>rfl)) (XL.cons (XE.var rfl rfl) (XL.cons (XE.var rfl rfl) (XL.nil rfl) rfl (λzz=>rfl)) rfl (λzz=>rfl)) rfl rfl (λzz=>rfl) (λzz=>rfl) (λzz zz=>rfl)) (λzz zz=>rfl)) (XS.cons (X1.sattr F (XE.bin (XE.attr F (XE.var rfl rfl) rfl rfl (λzz=>rfl)) (XE.int rfl) rfl) (XE.var rfl rfl) rfl rfl (λzz=>rfl) (λzz=>rfl)) (XS.cons (X1.ret (XE.new F (XL.cons (XE.fmade (XE.attr F (XE.var rfl rfl) rfl rfl (λzz=>rfl)) rfl) (XL.cons (XE.var rfl rfl) (XL.cons (XE.var rfl rfl) (XL.cons (XE.tup (XL.nil rfl) rfl) (XL.nil rfl) rfl (λzz=>rfl)) rfl (λzz=>rfl)) rfl (λzz=>rfl)) rfl (λzz=>rfl)) rfl rfl rfl rfl (λzz=>rfl) (λzz zz=>rfl)) rfl) (XS.nil rfl) rfl) rfl) (XS.nil rfl) rfl) (XS.nil rfl) rfl) rfl rfl (λzz zz=>rfl)) (XS.cons (X1.ret (XE.none rfl) rfl) (XS.nil rfl) rfl) rfl)
theorem uI (F:bR P K) (cd:Value) (qu:Str):bX P ⟨bW (eC 35 3),vs ["self","term"],cd,qu⟩ W (cm (eC 35 3)) qs.body:=
 (XS.cons (X1.ret (XE.idx (XE.meth F (XE.new F (XL.cons (XE.attr F (XE.var rfl rfl) rfl rfl (λzz=>rfl)) (XL.nil rfl) rfl (λzz=>rfl)) rfl rfl rfl rfl (λzz=>rfl) (λzz zz=>rfl)) (XL.cons (XE.var rfl rfl) (XL.cons (XE.attr F (XE.var rfl rfl) rfl rfl (λzz=>rfl)) (XL.nil rfl) rfl (λzz=>rfl)) rfl (λzz=>rfl)) rfl rfl (λzz=>rfl) (λzz=>rfl) (λzz zz=>rfl)) (XE.int rfl) rfl (λzz zz=>rfl)) rfl) (XS.nil rfl) rfl)
theorem yY (F:bR P K) (cd:Value) (qu:Str):bX P ⟨bW (eC 35 4),vs ["self","rule","elder","late","one","~"],cd,qu⟩ W (cm (eC 35 4)) xy.body:=
 (XS.cons (X1.takeAttr F (XL.cons (XE.var rfl rfl) (XL.nil rfl) rfl (λzz=>rfl)) rfl rfl rfl rfl rfl rfl (by decide) (λzz=>rfl) (λzz=>rfl)) (XS.cons (X1.asg (XE.new F (XL.cons (XE.lst (XL.cons (XE.var rfl rfl) (XL.nil rfl) rfl (λzz=>rfl)) rfl) (XL.nil rfl) rfl (λzz=>rfl)) rfl rfl rfl rfl (λzz=>rfl) (λzz zz=>rfl)) rfl rfl rfl (λzz=>rfl)) (XS.cons (X1.for (XI.plain (XE.var rfl rfl)) (XS.cons (X1.iff (XT.cmp (op:=.Is) (XE.cmp (XE.meth F (XE.var rfl rfl) (XL.cons (XE.attr F (XE.var rfl rfl) rfl rfl (λzz=>rfl)) (XL.nil rfl) rfl (λzz=>rfl)) rfl rfl (λzz=>rfl) (λzz=>rfl) (λzz zz=>rfl)) (XE.none rfl) rfl rfl) rfl) (XS.cons (X1.appA F (XE.var rfl rfl) rfl rfl rfl (λzz=>rfl) (λzz=>rfl)) (XS.nil rfl) rfl) (XS.cons (X1.expr (XE.meth F (XE.var rfl rfl) (XL.cons (XE.attr F (XE.var rfl rfl) rfl rfl (λzz=>rfl)) (XL.cons (XE.attr F (XE.var rfl rfl) rfl rfl (λzz=>rfl)) (XL.nil rfl) rfl (λzz=>rfl)) rfl (λzz=>rfl)) rfl rfl (λzz=>rfl) (λzz=>rfl) (λzz zz=>rfl)) rfl (λzz=>rfl)) (XS.nil rfl) rfl) rfl) (XS.nil rfl) rfl) rfl rfl (λzz zz=>rfl)) (XS.frA (XS.cons (X1.sattr F (XE.comp (XI.plain (XE.attr F (XE.var rfl rfl) rfl rfl (λzz=>rfl))) (XE.new F (XL.cons (XE.attr F (XE.var rfl rfl) rfl rfl (λzz=>rfl)) (XL.cons (XE.attr F (XE.var rfl rfl) rfl rfl (λzz=>rfl)) (XL.cons (XE.meth F (XE.var rfl rfl) (XL.cons (XE.attr F (XE.var rfl rfl) rfl rfl (λzz=>rfl)) (XL.nil rfl) rfl (λzz=>rfl)) rfl rfl (λzz=>rfl) (λzz=>rfl) (λzz zz=>rfl)) (XL.cons (XE.tup (XL.nil rfl) rfl) (XL.nil rfl) rfl (λzz=>rfl)) rfl (λzz=>rfl)) rfl (λzz=>rfl)) rfl (λzz=>rfl)) rfl rfl rfl rfl (λzz=>rfl) (λzz zz=>rfl)) (XC.no rfl) rfl rfl rfl rfl (λzz zz=>rfl)) (XE.var rfl rfl) rfl rfl (λzz=>rfl) (λzz=>rfl)) (XS.cons (X1.for (XI.plain (XE.attr F (XE.var rfl rfl) rfl rfl (λzz=>rfl))) (XS.cons (X1.expr (XE.meth F (XE.var rfl rfl) (XL.cons (XE.var rfl rfl) (XL.cons (XE.var rfl rfl) (XL.nil rfl) rfl (λzz=>rfl)) rfl (λzz=>rfl)) rfl rfl (λzz=>rfl) (λzz=>rfl) (λzz zz=>rfl)) rfl (λzz=>rfl)) (XS.cons (X1.iff (XT.cmp (op:=.NotEq) (XE.cmp (XE.attr F (XE.var rfl rfl) rfl rfl (λzz=>rfl)) (XE.attr F (XE.var rfl rfl) rfl rfl (λzz=>rfl)) rfl rfl) rfl) (XS.cons (X1.expr (XE.meth F (XE.var rfl rfl) (XL.cons (XE.var rfl rfl) (XL.cons (XE.var rfl rfl) (XL.nil rfl) rfl (λzz=>rfl)) rfl (λzz=>rfl)) rfl rfl (λzz=>rfl) (λzz=>rfl) (λzz zz=>rfl)) rfl (λzz=>rfl)) (XS.nil rfl) rfl) (XS.nil rfl) rfl) (XS.nil rfl) rfl) rfl) rfl rfl (λzz zz=>rfl)) (XS.nil rfl) rfl) rfl) rfl rfl) rfl) rfl) rfl)
theorem Bz (F:bR P K) (cd:Value) (qu:Str):bX P ⟨bW (eC 35 5),vs ["self","rule","other","path","pattern","one","two"],cd,qu⟩ W (cm (eC 35 5)) Ao.body:=
 (XS.cons (X1.for (XI.plain (XE.call F (XL.cons (XE.var rfl rfl) (XL.cons (XE.var rfl rfl) (XL.nil rfl) rfl (λzz=>rfl)) rfl (λzz=>rfl)) rfl rfl rfl (λzz=>rfl) (λzz zz=>rfl))) (XS.cons (X1.expr (XE.meth F (XE.var rfl rfl) (XL.cons (XE.var rfl rfl) (XL.cons (XE.var rfl rfl) (XL.nil rfl) rfl (λzz=>rfl)) rfl (λzz=>rfl)) rfl rfl (λzz=>rfl) (λzz=>rfl) (λzz zz=>rfl)) rfl (λzz=>rfl)) (XS.nil rfl) rfl) rfl rfl (λzz zz=>rfl)) (XS.nil rfl) rfl)
theorem BC (F:bR P K) (cd:Value) (qu:Str) (G:jA P ⟨bW (eC 35 6),vs ["self","pair","left","right","rule"],cd,qu⟩):bX P ⟨bW (eC 35 6),vs ["self","pair","left","right","rule"],cd,qu⟩ W (cm (eC 35 6)) At.body:=
 (XS.cons (X1.iff (XT.cmp (op:=.Eq) (XE.dempty (XD.attr F (XE.var rfl rfl) rfl rfl (λzz=>rfl)) rfl) rfl) (XS.cons (X1.ret (XE.bool rfl) rfl) (XS.nil rfl) rfl) (XS.nil rfl) rfl) (XS.cons (X1.asg (XE.sortedFirst F G (XD.attr F (XE.var rfl rfl) rfl rfl (λzz=>rfl)) rfl rfl rfl rfl rfl rfl rfl rfl (λzz=>rfl) (λzz zz zz zz zz zz zz=>rfl)) rfl rfl rfl (λzz=>rfl)) (XS.cons (X1.popDA F (XE.var rfl rfl) rfl rfl rfl (λzz=>rfl) (λzz=>rfl)) (XS.cons (X1.asgs (XRs.cons (XR.val (XE.meth F (XE.var rfl rfl) (XL.cons (XE.idx (XE.var rfl rfl) (XE.int rfl) rfl (λzz zz=>rfl)) (XL.nil rfl) rfl (λzz=>rfl)) rfl rfl (λzz=>rfl) (λzz=>rfl) (λzz zz=>rfl))) (XRs.cons (XR.val (XE.meth F (XE.var rfl rfl) (XL.cons (XE.idx (XE.var rfl rfl) (XE.int rfl) rfl (λzz zz=>rfl)) (XL.nil rfl) rfl (λzz=>rfl)) rfl rfl (λzz=>rfl) (λzz=>rfl) (λzz zz=>rfl))) (XRs.nil rfl) rfl (λzz=>rfl)) rfl (λzz=>rfl)) rfl rfl rfl rfl rfl (by decide) (λzz=>rfl)) (XS.cons (X1.iff (XT.cmp (op:=.NotEq) (XE.cmp (XE.var rfl rfl) (XE.var rfl rfl) rfl rfl) rfl) (XS.cons (X1.asg (XE.meth F (XE.var rfl rfl) (XL.cons (XE.var rfl rfl) (XL.cons (XE.var rfl rfl) (XL.nil rfl) rfl (λzz=>rfl)) rfl (λzz=>rfl)) rfl rfl (λzz=>rfl) (λzz=>rfl) (λzz zz=>rfl)) rfl rfl rfl (λzz=>rfl)) (XS.cons (X1.iff (XT.cmp (op:=.Is) (XE.cmp (XE.var rfl rfl) (XE.none rfl) rfl rfl) rfl) bX.stuck (XS.cons (X1.expr (XE.meth F (XE.var rfl rfl) (XL.cons (XE.var rfl rfl) (XL.nil rfl) rfl (λzz=>rfl)) rfl rfl (λzz=>rfl) (λzz=>rfl) (λzz zz=>rfl)) rfl (λzz=>rfl)) (XS.nil rfl) rfl) rfl) (XS.nil rfl) rfl) rfl) (XS.nil rfl) rfl) (XS.cons (X1.ret (XE.bool rfl) rfl) (XS.nil rfl) rfl) rfl) rfl) rfl) rfl) rfl)
theorem Cz (F:bR P K) (cd:Value) (qu:Str):bX P ⟨bW (eC 35 7),vs ["self","lap"],cd,qu⟩ W (cm (eC 35 7)) Cn.body:=
 (XS.cons (X1.for (XI.range F (XE.attr F (XE.var rfl rfl) rfl rfl (λzz=>rfl)) rfl rfl rfl (λzz=>rfl)) (XS.cons (X1.iff (XT.not (XT.val (XE.meth0 F (XE.var rfl rfl) rfl rfl (λzz=>rfl)) (λzz zz=>rfl)) rfl) (XS.cons (X1.ret (XE.cmp (XE.attr F (XE.var rfl rfl) rfl rfl (λzz=>rfl)) (XE.lst (XL.nil rfl) rfl) rfl rfl) rfl) (XS.nil rfl) rfl) (XS.nil rfl) rfl) (XS.nil rfl) rfl) rfl rfl (λzz zz=>rfl)) bX.stuck rfl)
theorem Cv (F:bR P K) (cd:Value) (qu:Str):bX P ⟨bW (eC 35 8),vs ["self","one","other"],cd,qu⟩ W (cm (eC 35 8)) C8.body:=
 (XS.cons (X1.ret (XE.meth F (XE.new F (XL.cons (XE.attr F (XE.var rfl rfl) rfl rfl (λzz=>rfl)) (XL.nil rfl) rfl (λzz=>rfl)) rfl rfl rfl rfl (λzz=>rfl) (λzz zz=>rfl)) (XL.cons (XE.var rfl rfl) (XL.cons (XE.var rfl rfl) (XL.cons (XE.attr F (XE.var rfl rfl) rfl rfl (λzz=>rfl)) (XL.nil rfl) rfl (λzz=>rfl)) rfl (λzz=>rfl)) rfl (λzz=>rfl)) rfl rfl (λzz=>rfl) (λzz=>rfl) (λzz zz=>rfl)) rfl) (XS.nil rfl) rfl)
theorem vL (F:bR P K) (cd:Value) (qu:Str):bX P ⟨bW (cj 37),vs ["script","~"],cd,qu⟩ W (cm (cj 37)) qT.body:=
 (XS.cons (X1.ret (XE.lstG (XL.cons (XE.bin (XE.comp (XI.plain (XE.slc (XE.var rfl rfl) (XO.no rfl) (XO.yes (XE.int rfl) rfl) rfl)) (XE.bin (XE.intOf F (XE.var rfl rfl) rfl rfl (λzz=>rfl) rfl) (XE.int rfl) rfl) (XC.no rfl) rfl rfl rfl rfl (λzz zz=>rfl)) (XE.bin (XE.lst (XL.cons (XE.int rfl) (XL.nil rfl) rfl (λzz=>rfl)) rfl) (XE.intOf F (XE.cmp (XE.len F (XE.var rfl rfl) rfl rfl (λzz=>rfl) rfl) (XE.int rfl) rfl rfl) rfl rfl (λzz=>rfl) rfl) rfl) rfl) (XL.cons (XE.int rfl) (XL.nil rfl) rfl (λzz=>rfl)) rfl (λzz=>rfl)) rfl) rfl) (XS.nil rfl) rfl)
theorem vb (F:bR P K) (cd:Value) (qu:Str):bX P ⟨bW (cj 38),vs ["pool","limit","lap","spot"],cd,qu⟩ W (cm (cj 38)) pz.body:=
 (XS.cons (X1.asgs (XRs.cons (XR.val (XE.bin (XE.idx (XE.var rfl rfl) (XE.int rfl) rfl (λzz zz=>rfl)) (XE.len F (XE.idx (XE.var rfl rfl) (XE.int rfl) rfl (λzz zz=>rfl)) rfl rfl (λzz=>rfl) rfl) rfl)) (XRs.cons (XR.val (XE.bin (XE.idx (XE.var rfl rfl) (XE.int rfl) rfl (λzz zz=>rfl)) (XE.len F (XE.idx (XE.var rfl rfl) (XE.int rfl) rfl (λzz zz=>rfl)) rfl rfl (λzz=>rfl) rfl) rfl)) (XRs.nil rfl) rfl (λzz=>rfl)) rfl (λzz=>rfl)) rfl rfl rfl rfl rfl (by decide) (λzz=>rfl)) (XS.cons (X1.setG (XE.bin (XE.idx (XE.var rfl rfl) (XE.int rfl) rfl (λzz zz=>rfl)) (XE.int rfl) rfl) rfl rfl (by decide) (λzz=>rfl) (λzz=>rfl)) (XS.cons (X1.ret (XE.bin (XE.bin (XE.bin (XE.idx (XE.idx (XE.var rfl rfl) (XE.int rfl) rfl (λzz zz=>rfl)) (XE.var rfl rfl) rfl (λzz zz=>rfl)) (XE.bin (XE.bin (XE.bin (XE.int rfl) (XE.var rfl rfl) rfl) (XE.bin (XE.var rfl rfl) (XE.int rfl) rfl) rfl) (XE.int rfl) rfl) rfl) (XE.var rfl rfl) rfl) (XE.var rfl rfl) rfl) rfl) (XS.nil rfl) rfl) rfl) rfl)
theorem vn (F:bR P K) (cd:Value) (qu:Str):bX P ⟨bW (cj 39),vs ["pool","deep","way","~"],cd,qu⟩ W (cm (cj 39)) qm.body:=
 (XS.cons (X1.asg (XE.call F (XL.cons (XE.var rfl rfl) (XL.cons (XE.ite (XT.cmp (op:=.Gt) (XE.cmp (XE.var rfl rfl) (XE.int rfl) rfl rfl) rfl) (XE.int rfl) (XE.int rfl) rfl) (XL.nil rfl) rfl (λzz=>rfl)) rfl (λzz=>rfl)) rfl rfl rfl (λzz=>rfl) (λzz zz=>rfl)) rfl rfl rfl (λzz=>rfl)) (XS.cons (X1.iff (XT.cmp (op:=.Lt) (XE.cmp (XE.var rfl rfl) (XE.int rfl) rfl rfl) rfl) (XS.cons (X1.ret (XE.tup (XL.cons (XE.idx (XE.str rfl) (XE.var rfl rfl) rfl (λzz zz=>rfl)) (XL.nil rfl) rfl (λzz=>rfl)) rfl) rfl) (XS.nil rfl) rfl) (XS.nil rfl) rfl) (XS.cons (X1.ret (XE.bin (XE.tup (XL.cons (XE.idx (XE.str rfl) (XE.bin (XE.var rfl rfl) (XE.int rfl) rfl) rfl (λzz zz=>rfl)) (XL.nil rfl) rfl (λzz=>rfl)) rfl) (XE.tupleOf F (XE.comp (XI.range F (XE.bin (XE.int rfl) (XE.bin (XE.var rfl rfl) (XE.int rfl) rfl) rfl) rfl rfl rfl (λzz=>rfl)) (XE.call F (XL.cons (XE.var rfl rfl) (XL.cons (XE.bin (XE.var rfl rfl) (XE.int rfl) rfl) (XL.nil rfl) rfl (λzz=>rfl)) rfl (λzz=>rfl)) rfl rfl rfl (λzz=>rfl) (λzz zz=>rfl)) (XC.no rfl) rfl rfl rfl rfl (λzz zz=>rfl)) rfl rfl (λzz=>rfl) rfl) rfl) rfl) (XS.nil rfl) rfl) rfl) rfl)
theorem sD (F:bR P K) (cd:Value) (qu:Str):bX P ⟨bW (cj 40),vs ["some","found","term","~"],cd,qu⟩ W (cm (cj 40)) nI.body:=
 (XS.cons (X1.asg (XE.lst (XL.nil rfl) rfl) rfl rfl rfl (λzz=>rfl)) (XS.cons (X1.for (XI.plain (XE.var rfl rfl)) (XS.cons (X1.asg (XE.bin (XE.var rfl rfl) (XE.comp (XI.plain (XE.call F (XL.cons (XE.slc (XE.var rfl rfl) (XO.yes (XE.int rfl) rfl) (XO.no rfl) rfl) (XL.nil rfl) rfl (λzz=>rfl)) rfl rfl rfl (λzz=>rfl) (λzz zz=>rfl))) (XE.var rfl rfl) (XC.yes (XT.cmp (op:=.NotIn) (XE.isIn (XE.var rfl rfl) (XE.var rfl rfl) rfl rfl) rfl) rfl) rfl rfl rfl rfl (λzz zz=>rfl)) rfl) rfl rfl rfl (λzz=>rfl)) (XS.cons (X1.asg (XE.bin (XE.var rfl rfl) (XE.bin (XE.lst (XL.cons (XE.var rfl rfl) (XL.nil rfl) rfl (λzz=>rfl)) rfl) (XE.intOf F (XE.isIn (XE.var rfl rfl) (XE.var rfl rfl) rfl rfl) rfl rfl (λzz=>rfl) rfl) rfl) rfl) rfl rfl rfl (λzz=>rfl)) (XS.nil rfl) rfl) rfl) rfl rfl (λzz zz=>rfl)) (XS.cons (X1.ret (XE.var rfl rfl) rfl) (XS.nil rfl) rfl) rfl) rfl)
theorem rE (F:bR P K) (cd:Value) (qu:Str):bX P ⟨bW (cj 41),vs ["terms","pairs","labels","one","other","kept","lost","term","heads","head","~","~"],cd,qu⟩ W (cm (cj 41)) mq.body:=
 (XS.cons (X1.ownDictOf F (XE.comp (XI.plain (XE.var rfl rfl)) (XE.tup (XL.cons (XE.var rfl rfl) (XL.cons (XE.var rfl rfl) (XL.nil rfl) rfl (λzz=>rfl)) rfl (λzz=>rfl)) rfl) (XC.no rfl) rfl rfl rfl rfl (λzz zz=>rfl)) rfl rfl rfl rfl rfl (λzz=>rfl)) (XS.cons (X1.whl (XT.cmp (op:=.NotEq) (XE.cmp (XE.var rfl rfl) (XE.lst (XL.nil rfl) rfl) rfl rfl) rfl) (XS.cons (X1.for (XI.plain (XE.var rfl rfl)) (XS.cons (X1.asgs (XRs.cons (XR.val (XE.dget (XD.var rfl rfl) (XE.var rfl rfl) rfl (λzz zz=>rfl))) (XRs.cons (XR.val (XE.dget (XD.var rfl rfl) (XE.var rfl rfl) rfl (λzz zz=>rfl))) (XRs.nil rfl) rfl (λzz=>rfl)) rfl (λzz=>rfl)) rfl rfl rfl rfl rfl (by decide) (λzz=>rfl)) (XS.cons (X1.for (XI.plain (XE.var rfl rfl)) (XS.cons (X1.setD (XE.ite (XT.cmp (op:=.Eq) (XE.cmp (XE.dget (XD.var rfl rfl) (XE.var rfl rfl) rfl (λzz zz=>rfl)) (XE.var rfl rfl) rfl rfl) rfl) (XE.var rfl rfl) (XE.dget (XD.var rfl rfl) (XE.var rfl rfl) rfl (λzz zz=>rfl)) rfl) (XE.var rfl rfl) rfl rfl (λzz=>rfl) (λzz=>rfl)) (XS.nil rfl) rfl) rfl rfl (λzz zz=>rfl)) (XS.nil rfl) rfl) rfl) rfl rfl (λzz zz=>rfl)) (XS.cons (X1.asgs (XRs.cons (XR.ownD rfl) (XRs.cons (XR.ownL (XL.nil rfl) rfl (by decide)) (XRs.nil rfl) rfl (λzz=>rfl)) rfl (λzz=>rfl)) rfl rfl rfl rfl rfl (by decide) (λzz=>rfl)) (XS.cons (X1.for (XI.plain (XE.var rfl rfl)) (XS.cons (X1.asg (XE.bin (XE.tup (XL.cons (XE.idx (XE.var rfl rfl) (XE.int rfl) rfl (λzz zz=>rfl)) (XL.nil rfl) rfl (λzz=>rfl)) rfl) (XE.tupleOf F (XE.comp (XI.plain (XE.slc (XE.var rfl rfl) (XO.yes (XE.int rfl) rfl) (XO.no rfl) rfl)) (XE.dget (XD.var rfl rfl) (XE.var rfl rfl) rfl (λzz zz=>rfl)) (XC.no rfl) rfl rfl rfl rfl (λzz zz=>rfl)) rfl rfl (λzz=>rfl) rfl) rfl) rfl rfl rfl (λzz=>rfl)) (XS.cons (X1.sdB (XE.var rfl rfl) (XE.var rfl rfl) (XE.dget (XD.var rfl rfl) (XE.var rfl rfl) rfl (λzz zz=>rfl)) (XS.cons (X1.app (XE.tup (XL.cons (XE.dget (XD.var rfl rfl) (XE.var rfl rfl) rfl (λzz zz=>rfl)) (XL.cons (XE.var rfl rfl) (XL.nil rfl) rfl (λzz=>rfl)) rfl (λzz=>rfl)) rfl) rfl rfl (λzz=>rfl) (λzz=>rfl)) (XS.nil rfl) rfl) rfl rfl rfl rfl (λzz zz=>rfl) (λzz=>rfl) (λzz=>rfl) (λzz=>rfl) (λzz zz=>rfl) rfl) (XS.nil rfl) rfl) rfl) rfl rfl (λzz zz=>rfl)) (XS.frV (XS.nil rfl) rfl) rfl) rfl) rfl) rfl) (XS.frV (XS.cons (X1.ret (XE.var rfl rfl) rfl) (XS.nil rfl) rfl) rfl) rfl) rfl)
theorem C0 (F:bR P K) (cd:Value) (qu:Str):bX P ⟨bW (cj 42),vs ["script","pool","told","far","order","maker","terms","labels","forms","seen","places","term","~","~","~","~","~","~","~"],cd,qu⟩ W (cm (cj 42)) Cj.body:=
 (XS.cons (X1.asg (XE.call F (XL.cons (XE.var rfl rfl) (XL.nil rfl) rfl (λzz=>rfl)) rfl rfl rfl (λzz=>rfl) (λzz zz=>rfl)) rfl rfl rfl (λzz=>rfl)) (XS.cons (X1.asgComp (XI.range F (XE.bin (XE.int rfl) (XE.call F (XL.cons (XE.var rfl rfl) (XL.cons (XE.int rfl) (XL.nil rfl) rfl (λzz=>rfl)) rfl (λzz=>rfl)) rfl rfl rfl (λzz=>rfl) (λzz zz=>rfl)) rfl) rfl rfl rfl (λzz=>rfl)) (XE.tupleOf F (XE.comp (XI.range F (XE.int rfl) rfl rfl rfl (λzz=>rfl)) (XE.call F (XL.cons (XE.var rfl rfl) (XL.cons (XE.int rfl) (XL.nil rfl) rfl (λzz=>rfl)) rfl (λzz=>rfl)) rfl rfl rfl (λzz=>rfl) (λzz zz=>rfl)) (XC.no rfl) rfl rfl rfl rfl (λzz zz=>rfl)) rfl rfl (λzz=>rfl) rfl) (XC.no rfl) rfl rfl rfl rfl rfl rfl (λzz zz=>rfl) (λzz=>⟨_,rfl⟩)) (XS.cons (X1.asgComp (XI.range F (XE.int rfl) rfl rfl rfl (λzz=>rfl)) (XE.call F (XL.cons (XE.var rfl rfl) (XL.cons (XE.int rfl) (XL.nil rfl) rfl (λzz=>rfl)) rfl (λzz=>rfl)) rfl rfl rfl (λzz=>rfl) (λzz zz=>rfl)) (XC.no rfl) rfl rfl rfl rfl rfl rfl (λzz zz=>rfl) (λzz=>⟨_,rfl⟩)) (XS.cons (X1.asg (XE.new F (XL.cons (XE.dictOf F (XE.comp (XI.plain (XE.lst (XL.cons (XE.str rfl) (XL.cons (XE.str rfl) (XL.cons (XE.str rfl) (XL.cons (XE.str rfl) (XL.nil rfl) rfl (λzz=>rfl)) rfl (λzz=>rfl)) rfl (λzz=>rfl)) rfl (λzz=>rfl)) rfl)) (XE.tup (XL.cons (XE.var rfl rfl) (XL.cons (XE.call F (XL.cons (XE.var rfl rfl) (XL.cons (XE.int rfl) (XL.nil rfl) rfl (λzz=>rfl)) rfl (λzz=>rfl)) rfl rfl rfl (λzz=>rfl) (λzz zz=>rfl)) (XL.nil rfl) rfl (λzz=>rfl)) rfl (λzz=>rfl)) rfl) (XC.no rfl) rfl rfl rfl rfl (λzz zz=>rfl)) rfl rfl (λzz=>rfl) rfl) (XL.nil rfl) rfl (λzz=>rfl)) rfl rfl rfl rfl (λzz=>rfl) (λzz zz=>rfl)) rfl rfl rfl (λzz=>rfl)) (XS.cons (X1.asg (XE.new F (XL.cons (XE.var rfl rfl) (XL.cons (XE.var rfl rfl) (XL.cons (XE.int rfl) (XL.nil rfl) rfl (λzz=>rfl)) rfl (λzz=>rfl)) rfl (λzz=>rfl)) rfl rfl rfl rfl (λzz=>rfl) (λzz zz=>rfl)) rfl rfl rfl (λzz=>rfl)) (XS.cons (X1.iff (XT.or (XT.not (XT.val (XE.meth0 F (XE.var rfl rfl) rfl rfl (λzz=>rfl)) (λzz zz=>rfl)) rfl) (XT.cmp (op:=.NotEq) (XE.cmp (XE.attr F (XE.var rfl rfl) rfl rfl (λzz=>rfl)) (XE.lst (XL.nil rfl) rfl) rfl rfl) rfl) rfl) (XS.cons (X1.ret (XE.bool rfl) rfl) (XS.nil rfl) rfl) (XS.nil rfl) rfl) (XS.cons (X1.asg (XE.call F (XL.cons (XE.bin (XE.comp2 (XI.plain (XE.var rfl rfl)) (XI.plain (XE.var rfl rfl)) (XE.var rfl rfl) rfl rfl rfl rfl rfl (λzz zz=>rfl) (λzz zz=>rfl)) (XE.var rfl rfl) rfl) (XL.nil rfl) rfl (λzz=>rfl)) rfl rfl rfl (λzz=>rfl) (λzz zz=>rfl)) rfl rfl rfl (λzz=>rfl)) (XS.cons (X1.asg (XE.call F (XL.cons (XE.var rfl rfl) (XL.cons (XE.var rfl rfl) (XL.nil rfl) rfl (λzz=>rfl)) rfl (λzz=>rfl)) rfl rfl rfl (λzz=>rfl) (λzz zz=>rfl)) rfl rfl rfl (λzz=>rfl)) (XS.cons (X1.asg (XE.dictOf F (XE.comp (XI.plain (XE.var rfl rfl)) (XE.tup (XL.cons (XE.var rfl rfl) (XL.cons (XE.meth F (XE.var rfl rfl) (XL.cons (XE.var rfl rfl) (XL.nil rfl) rfl (λzz=>rfl)) rfl rfl (λzz=>rfl) (λzz=>rfl) (λzz zz=>rfl)) (XL.nil rfl) rfl (λzz=>rfl)) rfl (λzz=>rfl)) rfl) (XC.no rfl) rfl rfl rfl rfl (λzz zz=>rfl)) rfl rfl (λzz=>rfl) rfl) rfl rfl rfl (λzz=>rfl)) (XS.cons (X1.asgs (XRs.cons (XR.ownD rfl) (XRs.cons (XR.ownD rfl) (XRs.nil rfl) rfl (λzz=>rfl)) rfl (λzz=>rfl)) rfl rfl rfl rfl rfl (by decide) (λzz=>rfl)) (XS.cons (X1.for (XI.plain (XE.var rfl rfl)) (XS.cons (X1.sdA (XE.dget (XD.var rfl rfl) (XE.var rfl rfl) rfl (λzz zz=>rfl)) (XE.dget (XD.var rfl rfl) (XE.var rfl rfl) rfl (λzz zz=>rfl)) (XE.dget (XD.var rfl rfl) (XE.var rfl rfl) rfl (λzz zz=>rfl)) (XS.cons (X1.ret (XE.bool rfl) rfl) (XS.nil rfl) rfl) rfl rfl (λzz=>rfl) (λzz=>rfl) (λzz=>rfl) (λzz zz=>rfl) rfl) (XS.cons (X1.sdC (XE.dget (XD.var rfl rfl) (XE.var rfl rfl) rfl (λzz zz=>rfl)) (XE.dget (XD.var rfl rfl) (XE.var rfl rfl) rfl (λzz zz=>rfl)) (XE.dget (XD.var rfl rfl) (XE.var rfl rfl) rfl (λzz zz=>rfl)) (XT.cmp (op:=.NotEq) (XE.cmp (XE.meth F (XE.var rfl rfl) (XL.cons (XE.dget (XD.var rfl rfl) (XE.var rfl rfl) rfl (λzz zz=>rfl)) (XL.nil rfl) rfl (λzz=>rfl)) rfl rfl (λzz=>rfl) (λzz=>rfl) (λzz zz=>rfl)) (XE.dget (XD.var rfl rfl) (XE.var rfl rfl) rfl (λzz zz=>rfl)) rfl rfl) rfl) (XS.cons (X1.ret (XE.bool rfl) rfl) (XS.nil rfl) rfl) rfl rfl (λzz=>rfl) (λzz=>rfl) (λzz=>rfl) (λzz zz=>rfl) rfl) (XS.nil rfl) rfl) rfl) rfl rfl (λzz zz=>rfl)) (XS.cons (X1.ret (XE.cmp (XE.cmp (XE.meth F (XE.var rfl rfl) (XL.cons (XE.idx (XE.var rfl rfl) (XE.int rfl) rfl (λzz zz=>rfl)) (XL.cons (XE.idx (XE.var rfl rfl) (XE.int rfl) rfl (λzz zz=>rfl)) (XL.nil rfl) rfl (λzz=>rfl)) rfl (λzz=>rfl)) rfl rfl (λzz=>rfl) (λzz=>rfl) (λzz zz=>rfl)) (XE.none rfl) rfl rfl) (XE.cmp (XE.dget (XD.var rfl rfl) (XE.idx (XE.var rfl rfl) (XE.int rfl) rfl (λzz zz=>rfl)) rfl (λzz zz=>rfl)) (XE.dget (XD.var rfl rfl) (XE.idx (XE.var rfl rfl) (XE.int rfl) rfl (λzz zz=>rfl)) rfl (λzz zz=>rfl)) rfl rfl) rfl rfl) rfl) (XS.nil rfl) rfl) rfl) rfl) rfl) rfl) rfl) rfl) rfl) rfl) rfl) rfl) rfl)
end
theorem o0:∀ f:Fn,f∈mZ:=λf=>aW (i:=f.ctorIdx) (by cases f <;> rfl)
theorem yM (h:Heap):(hY h).In h:=by
 intro a o e
 obtain ⟨b,zz,hb⟩:=List.mem_filterMap.mp (eB e)
 obtain ⟨x,hx,hy⟩:=Option.map_eq_some_iff.mp hb
 clear e hb
 cases hy
 exact hx
noncomputable def z8 (w:World) (h:Heap):Pm:=⟨pw,w,sS,hideAll h [359],359,sX,(("Completion.step":Str)++(".<locals>.":Str))++("<lambda>":Str),qh⟩
theorem wP {v:Value}(h:Dc v=true):∃ a b,v=.str a b:=by cases v with | str=>exact ⟨_,_,rfl⟩ | _=>exact iU h
theorem qY {v:Value}(h:AX v=true):∃ a b,v=.int a b:=by cases v with | int=>exact ⟨_,_,rfl⟩ | _=>exact iU h
theorem vj {v:Value}(h:Ab v=true):∃ a,v=.bool a:=by cases v with | bool=>exact ⟨_,rfl⟩ | _=>exact iU h
theorem an {a b:Bool}(h:(a && b)=true):a=true/\b=true:=aC.mp h
structure EE (h:Heap):Prop where
 fn:∀ f∈mZ,Dj h f=true
 kp:∀ f∈mZ,keepIn (hY h) (.ref (qh f))=true
 cl:∀ c∈[0,1,2,3],DK (hY h) c=true
 mt:∀ q∈rA,(findIn (hY h) (.ref (sS q.1.1)) q.1.2 == some (some (.ref (qh q.2))) && typeIn (hY h) (.ref (qh q.2)) == some (.type "function"))=true
 g1:∀ q∈AR qh sS,(h.nsMap mainGlobals q.1 == some q.2)=true
 g2:∀ q∈xk qh sS,(h.nsMap mainGlobals q.1 == some q.2)=true
 g3:∀ q∈BA,(h.nsMap mainGlobals q.1 == none && h.nsMap builtinsNs q.1 == some q.2)=true
 m1:h.Ns mainGlobals (h.nsMap mainGlobals)
 m2:h.Ns builtinsNs (h.nsMap builtinsNs)
 m3:h.Ns cStatics (h.nsMap cStatics)
 n4:h.nsMap cStatics "sys.recursionlimit"=none
 n5:h.nsMap mainGlobals "__builtins__"=some (.ref 4)
 n6:h.nsMap mainGlobals "law"=some (.ref 417)
 co:yh (h.get? 363)=true
 st:xM (h.get? 364)=true
 mo:AZ (h.get? 4)=true
 sy:Cy (h.get? sysModules)=true
theorem iZ {h:Heap}(e:Bc h=true):EE h:=
 ⟨aG.mp (an (an e).1).1,aG.mp (an (an (an e).1).2).1,aG.mp (an (an (an (an e).1).2).2).1,aG.mp (an (an (an (an e).1).2).2).2,aG.mp (an (an (an (an e).2).1).1).1,aG.mp (an (an (an (an (an e).2).1).1).2).1,aG.mp (an (an (an (an (an e).2).1).1).2).2,.of_isNs (an (an (an (an e).2).1).2).1,.of_isNs (an (an (an (an (an e).2).1).2).2).1,.of_isNs (an (an (an (an (an (an e).2).1).2).2).2).1,bg (an (an (an (an (an (an (an e).2).1).2).2).2).2).1,bg (an (an (an (an (an (an (an (an e).2).1).2).2).2).2).2).1,bg (an (an (an (an (an (an (an (an e).2).1).2).2).2).2).2).2,(an (an (an e).2).2).1,(an (an (an (an e).2).2).2).1,(an (an (an (an (an e).2).2).2).2).1,(an (an (an (an (an e).2).2).2).2).2⟩
noncomputable abbrev BV (f:Fn):List Str:=(rU f).2.map Str.ofString
def BF (f:Fn) (xs:List Value):Prop:=∀ fd:FuncData,bindArgs { fd with params:=tZ (rU f).1,defaults:=.none } ⟨xs,[]⟩=pure (((BV f).take (tbl f).np).zip xs)
theorem DM {P:List Value->Prop}{xs:List Value}(k:P []) (h:xs.length=0):P xs:=ba.mp h ▸ k
theorem wz {P:List Value->Prop}{xs:List Value}{n:Nat}(k:∀ a {r:List Value},r.length=n->P (a::r)) (h:xs.length=n+1):P xs:=by
 cases xs with
 | nil=>cases h
 | cons a r=>exact k a (Nat.succ.inj h)
theorem Cg {P:List Value->Prop}{xs:List Value}(k:∀ a,P [a]) (h:xs.length=1):P xs:=wz (λa=>DM (P:=λr=>P (a::r)) (k a)) h
theorem CZ {P:List Value->Prop}{xs:List Value}(k:∀ a b,P [a,b]) (h:xs.length=2):P xs:=wz (λa=>Cg (P:=λr=>P (a::r)) (k a)) h
theorem Ck {P:List Value->Prop}{xs:List Value}(k:∀ a b c,P [a,b,c]) (h:xs.length=3):P xs:=wz (λa=>CZ (P:=λr=>P (a::r)) (k a)) h
theorem CI {P:List Value->Prop}{xs:List Value}(k:∀ a b c d,P [a,b,c,d]) (h:xs.length=4):P xs:=wz (λa=>Ck (P:=λr=>P (a::r)) (k a)) h
theorem DO {P:List Value->Prop}{xs:List Value}(k:∀ a b c d e,P [a,b,c,d,e]) (h:xs.length=5):P xs:=wz (λa=>CI (P:=λr=>P (a::r)) (k a)) h
theorem AY (f:Fn) {xs:List Value}(hl:xs.length=(tbl f).np):BF f xs:=by
 cases f <;> first
  | exact Cg (P:=BF _) (λa fd=>by kernel_rfl) hl
  | exact CZ (P:=BF _) (λa b fd=>by kernel_rfl) hl
  | exact Ck (P:=BF _) (λa b c fd=>by kernel_rfl) hl
  | exact CI (P:=BF _) (λa b c d fd=>by kernel_rfl) hl
  | exact DO (P:=BF _) (λa b c d e fd=>by kernel_rfl) hl
theorem CH (f:Fn) {fd:FuncData}{xs:List Value}(hp:fd.params=tZ (rU f).1) (hd:fd.defaults=.none) (hl:xs.length=(tbl f).np):bindArgs fd ⟨xs,[]⟩=pure (((BV f).take (tbl f).np).zip xs):=by
 have:=AY f hl fd
 rw [← hp,← hd] at this
 exact this
noncomputable def EC (f:Fn):Bool:=Ds (bW (rU f).1) (BV f) (tbl f).np && decide ((tbl f).np<=(BV f).length)
theorem Eu (f:Fn):EC f=true:=by cases f <;> kernel_rfl
theorem EA (f:Fn):(bW (rU f).1).kind=.function:=by cases f <;> rfl
theorem DB {P:Pm}{K:Frag}{W:Nat}(F:bR P K) (cd:Value) (qu:Str) (f:Fn) (hf:f=.step->∀ sc v,jA P ⟨sc,v,cd,qu⟩):
  bX P ⟨bW (rU f).1,(BV f).zipIdx,cd,qu⟩ W (cm (rU f).1) (tbl f).body:=by
 cases f
 ·exact z0 F cd qu
 ·exact zc F cd qu
 ·exact pv F cd qu
 ·exact xu F cd qu
 ·exact za F cd qu
 ·exact wL F cd qu
 ·exact sB F cd qu
 ·exact vz F cd qu
 ·exact uU F cd qu
 ·exact zg F cd qu
 ·exact qG F cd qu
 ·exact rP F cd qu
 ·exact yT F cd qu
 ·exact vJ F cd qu
 ·exact oD F cd qu
 ·exact sI F cd qu
 ·exact y0 F cd qu
 ·exact uT F cd qu
 ·exact yU F cd qu
 ·exact vM F cd qu
 ·exact sP F cd qu
 ·exact rX F cd qu
 ·exact sL F cd qu
 ·exact wX F cd qu
 ·exact yi F cd qu
 ·exact vG F cd qu
 ·exact s0 F cd qu
 ·exact AO F cd qu
 ·exact xB F cd qu
 ·exact uI F cd qu
 ·exact yY F cd qu
 ·exact Bz F cd qu
 ·exact BC F cd qu (hf rfl _ _)
 ·exact Cz F cd qu
 ·exact Cv F cd qu
 ·exact vL F cd qu
 ·exact vb F cd qu
 ·exact vn F cd qu
 ·exact sD F cd qu
 ·exact rE F cd qu
 ·exact C0 F cd qu
section
variable {w:World}{s:Shared}{h:Heap}
theorem io (k:∀ b o,s.heap.get? b=some o->h.get? b=some o):∀ b o,b≠359->s.heap.get? b=some o->(z8 w h).h0.get? b=some o:=
 λb o n e=>hideAll_get [359] (k b o e) (by simpa using n)
theorem ij {h':Heap}{a:Addr}{m:Str->Option Value}(k:∀ b o,b≠359->s.heap.get? b=some o->h'.get? b=some o) (n:a≠359) (x:s.heap.Ns a m):h'.Ns a m:=
 let ⟨o,es,ep,e,r⟩:=x; ⟨o,es,ep,k _ _ n e,r⟩
theorem qM (e:Bc s.heap=true) (k:∀ b o,s.heap.get? b=some o->h.get? b=some o):bR (z8 w h) (hY s.heap):=by
 have k':=io (w:=w) k
 have e:=iZ e
 have cls:∀ c,c < 4->DK (hY s.heap) c=true:=λc hc=>e.cl c (List.mem_range.mpr hc)
 have cl:∀ c,c < 4->_:=λc hc=>an (cls c hc)
 refine ⟨⟨λa o e=>?_,⟨_,ij k' (by decide) e.m3,e.n4⟩,λf=>e.kp f (o0 f),λc hc=>(an (cl c hc).1).1,λc hc=>bg (an (an (cl c hc).1).2).1,λc hc=>bg (an (an (an (cl c hc).1).2).2).1,λc hc=>bg (an (an (an (cl c hc).1).2).2).2,λc hc=>(an (cl c hc).2).1,
  λc hc=>(an (an (cl c hc).2).2).1,λc hc=>(an (an (an (cl c hc).2).2).2).1,λc n hn=>?_⟩,λq hq=>⟨?_,?_⟩,λq hq=>?_⟩
 ·refine k' a o (λz=>?_) (yM s.heap a o e)
  clear cls k
  subst z
  obtain ⟨b,hb,hb'⟩:=List.mem_filterMap.mp (eB e)
  obtain ⟨x,hx,hy⟩:=Option.map_eq_some_iff.mp hb'
  clear hb' hx
  cases hy
  exact absurd hb (by decide)
 ·by_cases hc:c < 4
  ·exact bg (aG.mp (an (an (an (cl c hc).2).2).2).2 n hn)
  ·match c,hc with
   | c+4,_=>cases hn
 ·have:((fF (z8 w h)).all λq=>!(q.1 == ("__debug__":Str)))=true:=by kernel_rfl
  exact Bool.not_eq_true' _ ▸ aG.mp this q hq
 ·rcases aU.mp hq with hq | hq
  ·exact .inl ⟨_,ij k' (by decide) e.m1,bg (e.g1 q hq)⟩
  ·rcases aU.mp hq with hq | hq
   ·exact .inl ⟨_,ij k' (by decide) e.m1,bg (e.g2 q hq)⟩
   ·have:=an (e.g3 q hq)
    exact .inr ⟨_,_,ij k' (by decide) e.m1,bg this.1,ij k' (by decide) e.m2,bg this.2⟩
 ·have c1:(rA.all λq=>decide (q.1.1 < 4) && !(bH q.1.1).contains q.1.2)=true:=by kernel_rfl
  have c1:=an (aG.mp c1 q hq)
  have c2:=an (e.mt q hq)
  exact ⟨bw c1.1,bg c2.1,bg c2.2,λz=>by have c:=c1.2; rw [List.contains_iff_mem.mpr z] at c; exact iU c⟩
end
section
variable {w:World}{s:Shared}{h:Heap}{W:Nat}
inductive AH (o:Option Obj):Prop
 | mk (o':Obj) (vs:Array Value) (file:Str) (tf:Tok) (flags:Int) (tg:Tok) (inF:Bool) (text:Int) (tt:Tok):o=some o'->o'.cls=.type "code"->o'.data=.fields vs->vs[11]?=some (.ref 359)->vs.getD 11 .none=.ref 359->vs.getD 18 .none=.str file tf->vs.getD 7 .none=.int flags tg->vs.getD 9 .none=.bool inF->vs.getD 10 .none=.int text tt->AH o
theorem uw {o:Option Obj}(h:yh o=true):AH o:=by
 cases o with
 | none=>exact iU h
 | some o=>
  obtain ⟨cls,d,dat,sl⟩:=o
  cases dat with
  | fields vs=>
   obtain ⟨zz,zz,e1⟩:=wP (an (an h).2).1
   obtain ⟨zz,zz,e2⟩:=qY (an (an (an h).2).2).1
   obtain ⟨zz,e3⟩:=vj (an (an (an (an h).2).2).2).1
   obtain ⟨zz,zz,e4⟩:=qY (an (an (an (an h).2).2).2).2
   exact ⟨_,vs,_,_,_,_,_,_,_,rfl,bg (an (an h).1).1,rfl,bg (an (an (an h).1).2).1,bg (an (an (an h).1).2).2,e1,e2,e3,e4⟩
  | _=>exact iU h
theorem zb {o:Option Obj}(h:AZ o=true):∃ o',o=some o'/\o'.cls=.type "module"/\o'.dict=some builtinsNs/\o'.data=.plain:=by
 cases o with
 | none=>exact iU h
 | some o=>
  obtain ⟨cls,d,dat,sl⟩:=o
  cases dat with
  | plain=>exact ⟨_,rfl,bg (an h).1,bg (an h).2,rfl⟩
  | _=>exact iU h
theorem BG (e:Bc s.heap=true) (k:∀ b o,s.heap.get? b=some o->h.get? b=some o) {cd:Value}{qu:Str}(hc:cd=.ref 363) (hq:qu=("Completion.step":Str)++(".<locals>.":Str)) (sc:Scope) (v:pj):jA (z8 w h) ⟨sc,v,cd,qu⟩:=
 have k':=io (w:=w) k
 have e:=iZ e
 match uw e.co,zb e.mo with
 | .mk o vs file tf flags tg inF text tt ho r1 r2 r3 r4 r5 r6 r7 r8,⟨o2,hm,m⟩=>⟨⟨_,ij k' (by decide) e.m1,4,_,e.n5,by decide,by decide,(by decide:(4:Nat)≠359),k' 4 _ (by decide) hm,m.1,m.2.1,m.2.2⟩,(by decide:mainGlobals≠359),⟨363,hc,o,vs,file,tf,flags,tg,inF,text,tt,k' 363 o (by decide) ho,r1,r2,r3,r4,r5,r6,r7,r8,(by decide:(363:Nat)≠359)⟩,rfl,by rw [hq]; rfl⟩
inductive Eh (h:Heap) (f:Fn) (x:Arguments × FuncBody × Scope):Prop
 | mk (cls:Value) (d:Option Addr) (fd:FuncData) (sl:Array (Option Value)):h.get? (qh f)=some ⟨cls,d,.func fd,sl⟩->((fd.globals == mainGlobals && (fd.closure.isEmpty && fd.builtins == builtinsNs)) && (fd.defaults == .none && h.codeRecOk fd.code fd.qualname))=true->(fd.params,fd.body,fd.scope)=x->Eh h f x
theorem BI {f:Fn}{x:Arguments × FuncBody × Scope}(h1:Dj h f=true) (h2:Dm h f=some x):Eh h f x:=by
 unfold Dj at h1
 unfold Dm at h2
 generalize ho:h.get? (qh f)=of at h1 h2
 cases of with
 | none=>exact iU h1
 | some of=>
  obtain ⟨cls,d,dat,sl⟩:=of
  cases dat with
  | func fd=>exact ⟨cls,d,fd,sl,ho,h1,av h2⟩
  | _=>exact iU h1
theorem uK {h':Heap}{v:Value}{q:Str}(c:h.CodeRec v q) (k:∀ b o,b≠359->h.get? b=some o->h'.get? b=some o) (ht:h.get? 359=some (tabObj #[])):h'.CodeRec v q:=by
 obtain ⟨c,o,vs,t,q1,q2,q3⟩:=c
 refine ⟨c,o,vs,t,q1,k _ _ (λz=>?_) q2,q3⟩
 rw [z,ht] at q2
 cases q2
 cases q3.1
 cases q3.2
theorem CQ (e:BS s=val) (k:∀ b o,s.heap.get? b=some o->h.get? b=some o) (f:Fn):BH (z8 w h) W f (tbl f):=by
 have e1:Bc s.heap=true:=congrArg Prod.fst e
 have e2:mZ.map (Dm s.heap)=mZ.map λf=>some (tZ (rU f).1,.stmts (cm (rU f).1),bW (rU f).1):=congrArg (λx=>x.2.1) e
 have e2:=List.map_inj_left.mp e2 f (o0 f)
 have F:=qM (w:=w) e1 k
 have k':=io (w:=w) k
 obtain ⟨cls,d,fd,sl,ho,h1,e2⟩:=BI ((iZ e1).fn f (o0 f)) e2
 have hs:=an (Eu f)
 have nt:qh f≠359:=Nat.ne_of_beq_eq_false (by cases f <;> rfl)
 have e3:fd.scope=bW (rU f).1:=congrArg (λx=>x.2.2) e2
 refine ⟨_,fd,cm (rU f).1,BV f,k' _ _ nt ho,rfl,congrArg (λx=>x.2.1) e2,bg (an (an h1).1).1,List.isEmpty_iff.mp (an (an (an h1).1).2).1,bg (an (an (an h1).1).2).2,?_,by rw [e3]; exact wK (EA f) hs.1,bw hs.2,λxs hl=>CH f (congrArg (λx=>x.1) e2) (bg (an (an h1).2).1) hl,?_⟩
 ·exact uK (Heap.CodeRec.of_ok (an (an h1).2).2) k' (congrArg (λx=>x.2.2) e)
 ·rw [e3]
  refine DB F _ _ f λhq sc v=>?_
  have hst:=(iZ e1).st
  rw [show s.heap.get? 364=some ⟨cls,d,.func fd,sl⟩ by rw [hq] at ho; exact ho] at hst
  exact BG e1 k (bg (an hst).1) (by rw [bg (an hst).2]) sc v
theorem w4 {s₁:Shared}{a:Addr}{vs:List Value}{ns:List Int}{g':G}{R:Result->Shared->Prop}(e:BS s=val) (k:∀ b o,s.heap.get? b=some o->s₁.heap.get? b=some o) (ha:s₁.heap.get? a=some { cls:=.type "list",data:=.seq vs.toArray }) (hi:IntsAre vs ns)
  (hr:kj W tbl 60 .law [.lst (ns.map .int)] []=some (.bool true,g')) (hR:∀ h' tk,OldK s₁.heap h'->R (.ok (.ret (.bool true))) (Sh s₁ h' tk)):codeAny (model pw w) callerA (.call (.ref 417) ⟨[.ref a],[]⟩) R s₁:=by
 have e1:Bc s.heap=true:=congrArg Prod.fst e
 have ht:s₁.heap.get? 359=some (tabObj #[]):=k _ _ (congrArg (λx=>x.2.2) e)
 have hd:∃ o,s.heap.get? sysModules=some o/\o.cls=.type "dict":=by
  have h:=(iZ e1).sy
  generalize s.heap.get? sysModules=o at h
  cases o with
  | none=>exact iU h
  | some o=>exact ⟨o,rfl,bg h⟩
 obtain ⟨om,hm,hmc⟩:=hd
 have n1:a≠359:=λz=>by rw [z,ht] at ha; cases ha
 have n2:a≠sysModules:=λz=>by rw [z,k _ _ hm] at ha; cases ha; exact absurd hmc (show ¬ Value.type "list"=Value.type "dict" by decide)
 have C:=mL (P:=z8 w s₁.heap) (W:=W) (tbl:=tbl) (λf=>CQ e k f) (qM (w:=w) e1 k).kn.lim 60
 let γ:Gh:=⟨λb=>if b=359 then .tab else if b=a then .frozen else .other,λzz=>0,0⟩
 have rt:γ.role 359=.tab:=rfl
 have ra:γ.role a=.frozen:=(if_neg n1).trans (if_pos rfl)
 have ro:∀ b,b≠359->γ.role b=.other\/γ.role b=.frozen:=λb n=>by
  by_cases q:b=a
  ·exact .inr (q ▸ ra)
  ·exact .inl ((if_neg n).trans (if_neg q))
 have I:bP (z8 w s₁.heap) γ s₁.heap []:=by
  refine ⟨rfl,λb hb=>?_,λn ob e=>by simp at e,λb o hb=>⟨ro b λz=>?_,of_hideAll _ hb⟩,⟨rt,#[],ht,trivial,.inl rfl⟩,?_,aq.mpr ⟨om,io k _ _ (by decide) hm⟩⟩
  rotate_right
  ·show (if sysModules=359 then cQ.tab else if sysModules=a then .frozen else .other)=.other
   rw [if_neg (by decide),if_neg (Ne.symm n2)]
  ·by_cases q1:b=359
   ·rw [q1,ht]; rfl
   ·by_cases q2:b=a
    ·rw [q2,ha]; rfl
    ·exact absurd ((if_neg q1).trans (if_neg q2)) hb
  ·have hb':(hideAll s₁.heap [359]).get? b=some o:=hb
   rw [hideAll_none [359] (by rw [z]; simp)] at hb'
   cases hb'
 have rl:∀ {vs:List Value}{ns:List Int},IntsAre vs ns->bI (z8 w s₁.heap) γ s₁.heap (ns.map .int) vs:=λh=>by
  induction h with
  | nil=>exact .nil
  | cons n t _ ih=>exact .cons (⟨t,rfl⟩) ih
 refine C .law callerA γ s₁ [] [.lst (ns.map .int)] (.bool true) g' [.ref a] ⟨rfl,by decide,by decide⟩ I (.cons (⟨a,vs.toArray,rfl,ra,⟨_,ha⟩,rl hi⟩) .nil) hr R λx γ' h' tk f I' r=>?_
 subst r
 obtain ⟨rt',ps,ht',zz⟩:=I'.tab
 have old:∀ b o,b≠359->s₁.heap.get? b=some o->h'.get? b=some o:=λb o n q=>(ro b n).elim (λr=>(f.oth b o r q).2) λr=>(f.fro b o r q).2
 refine hR h' tk ⟨λb o q=>?_,λb o q=>?_⟩
 ·by_cases z:b=359
  ·rw [z,ht] at q
   cases q
   obtain ⟨o,vs,zz,zz,zz,zz,zz,zz,zz,ho,r1,r2,r3,zz⟩:=uw (iZ e1).co
   refine .inr (.inl ⟨?_,rfl,#[],ps,rfl,?_⟩)
   ·exact ⟨363,o,vs,k _ _ ho,r1,r2,by rw [z]; exact r3⟩
   ·rw [z]
    exact ht'.trans (by simp)
  ·exact .inl (old b o z q)
 ·by_cases z:b=359
  ·rw [z]; exact ⟨_,ht'⟩
  ·exact ⟨_,old b o z q⟩
end
theorem ut {tb:String->Option Builtin}{p:Program}{w:World}{n₀:Nat}{ann:Option Value}:∀ {n:Nat}{s s':SharedT}{t:Thread},zQ (stepT (denote tb) p w) n₀ ann n s t=some s'->topRun tb p w n₀ ann n s.abs t=some s'.abs
 | 0,_,_,_,h=>by cases h
 | n+1,s,s',t,h=>by
  unfold zQ at h
  unfold topRun
  cases ht:through t with
  | true=>rw [ht] at h; cases h; rfl
  | false=>
   rw [ht] at h
   cases hk:stepOk n₀ ann t with
   | false=>rw [hk] at h; cases h
   | true=>
    rw [hk] at h
    cases hs:stepT (denote tb) p w s t with
    | none=>rw [hs] at h; cases h
    | some r=>
     rw [hs] at h
     obtain ⟨s₂,t₂⟩:=r
     dsimp only
     rw [stepT_spec hs]
     exact ut h
theorem w7:∀ P:Params,(λos=>(Aw P os).abs)=λos=>⟨boot_heap P,#[],boot_drawn,boot_toks,os⟩:=λP=>by kernel_rfl
theorem zA:∀ P:Params,((boot_heap P).isNs mainGlobals && (boot_heap P).objs.size == 11)=true:=λP=>by kernel_rfl
theorem xJ {α β γ:Type}{o:Option α}{a:α}{f:α->β × γ}{b:β}{c:γ}(h:o=some a) (h1:(f a).1=b) (h2:(f a).2=c):o.map f=some (b,c):=by
 rw [h,Option.map_some,← h1,← h2]
theorem zf {tb:String->Option Builtin}{p:Program}{w:World}{N:Nat}{s₀ s:Shared}(h:fencedOpening tb p w N=some s₀) (h':topFrom tb p w N s₀=some s):openEnds tb p w N=some s:=by
 unfold openEnds
 rw [h]; exact h'
theorem yZ {tb:String->Option Builtin}{p:Program}{w:World}{N n:Nat}{s₀ s₁:Shared}(h:(s₀.heap.isNs mainGlobals && s₀.gens.size == 0)=true) (hn:s₀.heap.objs.size=n)
  (r:topRun tb p w n (s₀.heap.nsMap mainGlobals "__annotations__") N s₀ (topStub p)=some s₁)
  (l:(staticsOk (importedModules p.main.body) s₀.heap s₁.heap && namesBound p s₁.heap && gensDone s₁ && laidKept s₀.heap s₁.heap)=true):topFrom tb p w N s₀=some s₁:=by
 unfold topFrom
 rw [h,hn]
 dsimp only
 rw [r]
 show (match _ with | true=>some s₁ | false=>none)=_
 rw [l]
theorem Bs (w:World):(fencedOpening treeTable pw w 3170).map (λs=>(s.heap,s.gens,s.drawn,s.toks))=some (boot_heap w.params,Array.mk [],boot_drawn,boot_toks):=
 boot_open (p:=pw) (N:=3170) (by kernel_rfl) (by rfl) (λs=>by kernel_rfl) w
theorem Be (w:World):∃ os,fencedOpening treeTable pw w 3170=some ⟨boot_heap w.params,#[],boot_drawn,boot_toks,os⟩:=by
 obtain ⟨s₀,h0,hv⟩:=Option.map_eq_some_iff.mp (Bs w)
 obtain ⟨heap,gens,drawn,toks,os⟩:=s₀
 simp only [Prod.mk.injEq] at hv
 obtain ⟨rfl,rfl,rfl,rfl⟩:=hv
 exact ⟨os,h0⟩
theorem C4:C3 ⟨stepT,denote,treeTable⟩:=by rw [DU]; exact Dy
theorem A7 {α β γ δ:Type}{o:Option α}{f:α->β × γ × δ}{b:β}{c:γ}{d:δ}(h:o.map f=some (b,c,d)):∃ s,o=some s/\(f s).1=b/\(f s).2.1=c/\(f s).2.2=d:=by
 obtain ⟨s,hs,hl⟩:=Option.map_eq_some_iff.mp h
 exact ⟨s,hs,by rw [hl],by rw [hl],by rw [hl]⟩
theorem left:LeftO pw vw lo xt BS (λzz=>val) 3170:=λw=>by
 obtain ⟨os,h0⟩:=Be w
 have hb:=aC.mp (zA w.params)
 obtain ⟨s,hs,l1,l2,l3⟩:=A7 (congrFun (C4 w) os)
 have r:=ut hs
 rw [congrFun (w7 w.params) os] at r
 exact xJ (zf h0 (yZ (n:=11) (aC.mpr ⟨hb.1,rfl⟩) (bg hb.2) r l1)) l2 l3
theorem Dz:B4.wellSaid=true:=(congrFun PySem.W.Fast.te9446332074065402090 B4).trans (by kernel_rfl)
abbrev YP (w:World) (h:Heap):Prop:=∃ s:Shared,BS s=val/\∀ b o,s.heap.get? b=some o->h.get? b=some o
noncomputable def nH:DefRec × List (Str × Expr):=(defOf vw "law").getD (⟨"",⟨[],[],none,[],[],none,[]⟩,[],⟨.function,[],false,false,[]⟩,⟨0,0,0,0⟩⟩,[])
theorem zX {h:Heap}{P:Params}{vs:List Value}{xs:List Int}(w:WellAll P h vs (xs.map .int)):IntsAre vs xs:=by
 induction xs generalizing vs with
 | nil=>cases w; exact .nil
 | cons x xs ih=>
  cases w with
  | cons a b=>cases a; exact .cons _ _ (ih b)
set_option maxHeartbeats 2000000 in
set_option tactic.hygienic true in
theorem DQ (plain:∀ xs:List Int,xs.length<=63->∃ g,kj 10000 tbl 60 .law [.lst (xs.map .int)] []=some (.bool true,g)):WalkO vw lo (XL vw []) YP B4.row.toRowW nH.1 nH.2 λf vs=>PySem.call f vs:=by
 intro w s₀ s₁ mg mb G Y a o pm cd doc dV kV ho hd hcd hD hmg hg args vals as hpre hlay hrd hwl hlo
 obtain ⟨s,e,k⟩:=Y
 have ha:a=417:=by
  have e1:Bc s.heap=true:=congrArg Prod.fst e
  have e1:=iZ e1
  have n1:=e1.m1.keeps k
  have:mg nH.1.name=s.heap.nsMap mainGlobals "law":=by
   have q:nH.1.name=("law":Str):=by kernel_rfl
   rw [q,G.T.g.eq_nsMap,n1.eq_nsMap]
  rw [hmg,e1.n6] at this
  cases this; rfl
 subst ha
 wrow_args hpre hlay hrd hwl hlo
 rename_i nz _ _ _ _ _ _ _ la lv _ hL _ w1 _ hI _ hlen _
 refine enter_call ?_
 have hx:ofPy (PyData.list (nz.map PyData.int))=.list (nz.map .int):=by
  have:∀ l:List Int,ofPys (l.map PyData.int)=l.map .int:=λl=>by
   induction l with
   | nil=>rfl
   | cons x l ih=>rw [List.map_cons,List.map_cons,← ih]; rfl
  rw [← this]; rfl
 rw [hx] at w1 ⊢
 cases w1 with
 | list hget wa=>
  obtain ⟨g,hr⟩:=plain nz (by lia)
  refine w4 (W:=10000) (g':=g) e k hget (zX wa) hr λh' tk old=>⟨.inl ⟨.bool true,.bool true,[],rfl,λzz=>rfl,.bool true,by wrow_post,λzz=>⟨List.nodup_nil,λa h=>nomatch h⟩⟩,old,rfl,.of_eq hg⟩
theorem CG (plain:∀ xs:List Int,xs.length<=63->∃ g,kj 10000 tbl 60 .law [.lst (xs.map .int)] []=some (.bool true,g)):B4.Holds:=by
 refine holds_law Dz λsaid'=>?_
 refine holds_open (q:=vw) (loose:=lo) (Xt:=xt) (XP:=XL vw []) (Yf:=BS) (Ya:=λzz=>val) (YP:=YP) (d:=nH.1) (kwd:=nH.2) (N:=3170) left (λw s e=>⟨s,e,λzz zz e=>e⟩) (λw h h' ⟨s,e,k⟩ k'=>⟨s,e,λb o q=>k' _ _ (k b o q)⟩)
  (λs e=>xl_of s (aC.mp e).1) XL.keeps (by kernel_rfl) (by kernel_rfl) (by kernel_rfl) (λs e=>recFacts_of (aC.mp e).2) (by rfl) said' (by decide +kernel) ⟨rfl,rfl,rfl,rfl,rfl,by decide +kernel⟩ ?_ (DQ plain)
 exact ⟨[.list []],by decide +kernel,by decide +kernel⟩
noncomputable abbrev tA:V:=.tup [.str ⟨#[97]⟩]
noncomputable abbrev tB:V:=.tup [.str ⟨#[98]⟩]
noncomputable abbrev tF (x:V):V:=.tup [.str ⟨#[102]⟩,x]
noncomputable abbrev tG (x:V):V:=.tup [.str ⟨#[103]⟩,x]
noncomputable abbrev tH (x y:V):V:=.tup [.str ⟨#[104]⟩,x,y]
inductive Tm:Nat->V->Prop
 | a {n}:Tm (n+1) tA
 | b {n}:Tm (n+1) tB
 | f {n x}:Tm n x->Tm (n+1) (tF x)
 | g {n x}:Tm n x->Tm (n+1) (tG x)
 | h {n x y}:Tm n x->Tm n y->Tm (n+1) (tH x y)
theorem Tm.up {n m:Nat}{v:V}(h:Tm n v) (l:n<=m):Tm m v:=by
 induction h generalizing m with
 | a=>cases m with | zero=>cases l | succ m=>exact .a
 | b=>cases m with | zero=>cases l | succ m=>exact .b
 | f _ ih=>cases m with | zero=>cases l | succ m=>exact .f (ih (au l))
 | g _ ih=>cases m with | zero=>cases l | succ m=>exact .g (ih (au l))
 | h _ _ i j=>cases m with | zero=>cases l | succ m=>exact .h (i (au l)) (j (au l))
theorem Tm.pos {n:Nat}{v:V}(h:Tm n v):0 < n:=by cases h <;> exact Nat.succ_pos _
theorem Tm.term {n:Nat}{v:V}(h:Tm n v):d9 n v=true:=by
 induction h with
 | a=>rfl
 | b=>rfl
 | f _ i=>exact (Bool.and_true _).trans i
 | g _ i=>exact (Bool.and_true _).trans i
 | h _ _ i j=>exact aC.mpr ⟨i,(Bool.and_true _).trans j⟩
theorem D9 {n m:Nat}{x y:V}(hx:Tm n x) (hy:Tm n y) (l:n<=m):∃ t,mT m x y=some t/\(t=true↔x=y):=kN n m x y hx.term hy.term l
noncomputable def bV:V->List V
 | .tup (_::ks)=>ks
 | _=>[]
noncomputable def kid (i:Nat) (v:V):V:=(bV v).getD i .none
theorem cL {k v:V}(h:k∈bV v):sizeOf k < sizeOf v:=by
 cases v with
 | tup l=>cases l with
  | nil=>cases h
  | cons s ks=>rw [V.tup.sizeOf_spec,List.cons.sizeOf_spec]; exact br (List.sizeOf_lt_of_mem h) (aj (Nat.le_add_left _ (1+sizeOf s)) (Nat.le_add_left _ 1))
 | _=>cases h
theorem Tm.kid {n:Nat}{v k:V}(h:Tm n v) (hk:k∈bV v):Tm (n - 1) k:=by
 cases h with
 | a=>cases hk
 | b=>cases hk
 | f h=>cases ay.mp hk; exact h
 | g h=>cases ay.mp hk; exact h
 | h i j=>
  rcases az.mp hk with e | e
  ·exact e ▸ i
  ·exact ay.mp e ▸ j
theorem Tm.inv {n:Nat}{v:V}(h:Tm n v):∃ m,n=m+1/\∀ k∈bV v,Tm m k:=⟨n - 1,(Nat.succ_pred_eq_of_pos h.pos).symm,λzz=>h.kid⟩
inductive dN (u:V):V->Prop
 | refl:dN u u
 | kid {v k:V}:k∈bV v->dN u k->dN u v
theorem dN.size {u v:V}(h:dN u v):sizeOf u<=sizeOf v:=by
 induction h with
 | refl=>exact ak _
 | kid m _ ih=>exact aj ih (Nat.le_of_lt (cL m))
theorem dN.trans {u v w:V}(a:dN u v) (b:dN v w):dN u w:=by
 induction b with
 | refl=>exact a
 | kid m _ ih=>exact .kid m ih
theorem dN.of {k v:V}(h:k∈bV v):dN k v:=.kid h .refl
theorem dN.tm {u v:V}{n:Nat}(h:dN u v) (t:Tm n v):Tm n u:=by
 induction h generalizing n with
 | refl=>exact t
 | kid m _ ih=>exact (ih (t.kid m)).up (Nat.sub_le _ _)
theorem dN.anti {u v:V}(a:dN u v) (b:dN v u):u=v:=by
 cases a with
 | refl=>rfl
 | kid m h=>exact (Nat.lt_irrefl _ (aI h.size (br (cL m) b.size))).elim
noncomputable def ox:V->Nat
 | .tup (.str s::_)=>s.cps.toList.headD 0
 | _=>0
noncomputable def dA (rk:Nat->Int) (v:V):Int:=rk (ox v) * 1000+ox v
noncomputable def ar (c:Nat):Nat:=cond (Nat.ble c 100) 0 (cond (Nat.ble c 103) 1 2)
theorem Tm.ar {n:Nat}{v:V}(h:Tm n v):(bV v).length=ar (ox v)/\ox v < 1000/\(bV v).length<=2:=by cases h <;> exact ⟨rfl,aE rfl,aE rfl⟩
theorem Tm.node {n:Nat}{v:V}(h:Tm n v):v=.tup (.str ⟨#[ox v]⟩::bV v):=by cases h <;> rfl
theorem yf {rk:Nat->Int}{n m:Nat}{s t:V}(a:Tm n s) (b:Tm m t) (k:dA rk s=dA rk t):ox s=ox t:=by
 have a:=a.ar.2.1
 have b:=b.ar.2.1
 unfold dA at k
 lia
inductive vS:V->V->List (V × V)->Prop
 | a:vS tA tA []
 | b:vS tB tB []
 | f {x y:V}:vS (tF x) (tF y) [(x,y)]
 | g {x y:V}:vS (tG x) (tG y) [(x,y)]
 | h {x x' y y':V}:vS (tH x x') (tH y y') [(x,y),(x',y')]
theorem pg {k j:Nat}{x y:V}(hx:Tm k x) (hy:Tm j y):(∃ zs,vS x y zs)\/ox x≠ox y:=by
 cases hx with
 | a=>cases hy with
  | a=>exact .inl ⟨_,.a⟩
  | _=>exact .inr (Nat.ne_of_beq_eq_false rfl)
 | b=>cases hy with
  | b=>exact .inl ⟨_,.b⟩
  | _=>exact .inr (Nat.ne_of_beq_eq_false rfl)
 | f=>cases hy with
  | f=>exact .inl ⟨_,.f⟩
  | _=>exact .inr (Nat.ne_of_beq_eq_false rfl)
 | g=>cases hy with
  | g=>exact .inl ⟨_,.g⟩
  | _=>exact .inr (Nat.ne_of_beq_eq_false rfl)
 | h=>cases hy with
  | h=>exact .inl ⟨_,.h⟩
  | _=>exact .inr (Nat.ne_of_beq_eq_false rfl)
inductive Gt (rk:Nat->Int):V->V->Prop
 | eq {s t}:t∈bV s->Gt rk s t
 | sub {s t k}:k∈bV s->Gt rk k t->Gt rk s t
 | head {s t}:(∀ k∈bV t,Gt rk s k)->dA rk t < dA rk s->Gt rk s t
 | lexa {s t x y q q'}:(∀ k∈bV t,Gt rk s k)->dA rk s=dA rk t->bV s=x::q->bV t=y::q'->Gt rk x y->Gt rk s t
 | lexb {s t x y z q q'}:(∀ k∈bV t,Gt rk s k)->dA rk s=dA rk t->bV s=z::x::q->bV t=z::y::q'->Gt rk x y->Gt rk s t
section
variable {rk:Nat->Int}
theorem dn {a b N:Nat}(h:a < N+1) (k:b < a):b < N:=br k (Nat.le_of_lt_succ h)
theorem Gt.no (N:Nat):∀ {s t:V},sizeOf s+sizeOf t < N->dN s t->Gt rk s t->False:=by
 induction N with
 | zero=>exact λh=>absurd h (aY _)
 | succ N ih=>
  intro s t h p g
  have stop:(∀ k∈bV t,Gt rk s k)->s=t:=λall=>by
   cases p with
   | refl=>rfl
   | kid m q=>exact (ih (dn h (Nat.add_lt_add_left (cL m) _)) q (all _ m)).elim
  cases g with
  | eq m=>exact Nat.lt_irrefl _ (br (cL m) p.size)
  | sub m g=>exact ih (dn h (Nat.add_lt_add_right (cL m) _)) ((dN.of m).trans p) g
  | head all k=>exact Int.lt_irrefl _ (stop all ▸ k)
  | lexa all k hs ht g=>exact ih (dn h (Nat.add_lt_add (cL (v:=s) (hs ▸ .head _)) (cL (v:=t) (ht ▸ .head _)))) ((List.cons.inj (hs.symm.trans (stop all ▸ ht))).1 ▸ .refl) g
  | lexb all k hs ht g=>exact ih (dn h (Nat.add_lt_add (cL (v:=s) (hs ▸ .tail _ (.head _))) (cL (v:=t) (ht ▸ .tail _ (.head _))))) ((List.cons.inj (List.cons.inj (hs.symm.trans (stop all ▸ ht))).2).1 ▸ .refl) g
theorem Gt.not {s t:V}(g:Gt rk s t) (p:dN s t):False:=Gt.no _ (Nat.lt_succ_self _) p g
theorem Gt.irr {s t:V}(g:Gt rk s t):s≠t:=λe=>g.not (e ▸ .refl)
theorem Gt.trans (N:Nat):∀ {s t u:V},sizeOf s+sizeOf t+sizeOf u < N->Gt rk s t->Gt rk t u->Gt rk s u:=by
 induction N with
 | zero=>exact λh=>absurd h (aY _)
 | succ N ih=>
  intro s t u h g1 g2
  have gY:(∀ k∈bV u,Gt rk t k)->∀ k∈bV u,Gt rk s k:=λall k m=>ih (dn h (Nat.add_lt_add_left (cL m) _)) g1 (all k m)
  have low:∀ {k:V},(∀ k∈bV t,Gt rk s k)->k∈bV t->Gt rk k u->Gt rk s u:=λall m g=>ih (dn h (Nat.add_lt_add_right (Nat.add_lt_add_left (cL m) _) _)) (all _ m) g
  have next:∀ {x y z:V},x∈bV s->y∈bV t->z∈bV u->Gt rk x y->Gt rk y z->Gt rk x z:=λa b c=>ih (dn h (Nat.add_lt_add (Nat.add_lt_add (cL a) (cL b)) (cL c)))
  cases g1 with
  | eq m=>exact .sub m g2
  | sub m g=>exact .sub m (ih (dn h (Nat.add_lt_add_right (Nat.add_lt_add_right (cL m) _) _)) g g2)
  | head all k1=>cases g2 with
   | eq m=>exact all _ m
   | sub m g=>exact low all m g
   | head al k2=>exact .head (gY al) (Int.lt_trans k2 k1)
   | lexa al k2=>exact .head (gY al) (k2 ▸ k1)
   | lexb al k2=>exact .head (gY al) (k2 ▸ k1)
  | lexa all k1 a1 b1 g1=>cases g2 with
   | eq m=>exact all _ m
   | sub m g=>exact low all m g
   | head al k2=>exact .head (gY al) (k1 ▸ k2)
   | lexa al k2 a2 b2 g2=>exact .lexa (gY al) (k1.trans k2) a1 b2 (next (a1 ▸ .head _) (b1 ▸ .head _) (b2 ▸ .head _) g1 ((List.cons.inj (b1.symm.trans a2)).1 ▸ g2))
   | lexb al k2 a2 b2 g2=>exact .lexa (gY al) (k1.trans k2) a1 b2 ((List.cons.inj (b1.symm.trans a2)).1 ▸ g1)
  | lexb all k1 a1 b1 g1=>cases g2 with
   | eq m=>exact all _ m
   | sub m g=>exact low all m g
   | head al k2=>exact .head (gY al) (k1 ▸ k2)
   | lexa al k2 a2 b2 g2=>exact .lexa (gY al) (k1.trans k2) a1 b2 ((List.cons.inj (b1.symm.trans a2)).1 ▸ g2)
   | lexb al k2 a2 b2 g2=>
    obtain ⟨e,e'⟩:=List.cons.inj (b1.symm.trans a2)
    exact .lexb (gY al) (k1.trans k2) a1 (e ▸ b2) (next (a1 ▸ .tail _ (.head _)) (b1 ▸ .tail _ (.head _)) (b2 ▸ .tail _ (.head _)) g1 ((List.cons.inj e').1 ▸ g2))
theorem Gt.tr {s t u:V}(a:Gt rk s t) (b:Gt rk t u):Gt rk s u:=Gt.trans _ (Nat.lt_succ_self _) a b
theorem Gt.part {s t u:V}(a:Gt rk s t) (b:dN u t):Gt rk s u:=by
 induction b with
 | refl=>exact a
 | kid m _ ih=>exact ih (a.tr (.eq m))
theorem Gt.asym {s t:V}(a:Gt rk s t) (b:Gt rk t s):False:=(a.tr b).irr rfl
theorem Gt.total (N:Nat):∀ {n m:Nat}{s t:V},n+m < N->Tm n s->Tm m t->s≠t->Gt rk s t\/Gt rk t s:=by
 induction N with
 | zero=>exact λh=>absurd h (aY _)
 | succ N ih=>
  intro n m s t h a b ne
  have kid:∀ {k u v:V}{n m:Nat},n+m < N+1->Tm n u->Tm m v->k∈bV u->¬ (∃ k∈bV u,k=v\/Gt rk k v)->Gt rk v k:=λ{k u v n m} h a b hk no=>by
   obtain ⟨n,rfl,ks⟩:=a.inv
   exact (ih (Nat.lt_of_succ_lt_succ (show n+m+1 < N+1 from Nat.add_right_comm n 1 m ▸ h)) (ks _ hk) b λe=>no ⟨_,hk,.inl e⟩).resolve_left λg=>no ⟨_,hk,.inr g⟩
  have up:∀ {u v:V},(∃ k∈bV u,k=v\/Gt rk k v)->Gt rk u v:=λ⟨k,hk,e⟩=>e.elim (λe=>.eq (e ▸ hk)) (.sub hk)
  by_cases hA:∃ k∈bV s,k=t\/Gt rk k t
  ·exact .inl (up hA)
  by_cases hB:∃ k∈bV t,k=s\/Gt rk k s
  ·exact .inr (up hB)
  have als:∀ k∈bV s,Gt rk t k:=λk hk=>kid h a b hk hA
  have alt:∀ k∈bV t,Gt rk s k:=λk hk=>kid (Nat.add_comm n m ▸ h) b a hk hB
  rcases Int.lt_trichotomy (dA rk s) (dA rk t) with k | k | k
  ·exact .inr (.head als k)
  ·have one:∀ {x y:V},x∈bV s->y∈bV t->x≠y->Gt rk x y\/Gt rk y x:=λhx hy=>by
    obtain ⟨n,rfl,ks⟩:=a.inv
    obtain ⟨m,rfl,kt⟩:=b.inv
    exact ih (Nat.lt_of_succ_lt (Nat.lt_of_succ_lt_succ (show n+m+1+1 < N+1 from Nat.add_right_comm n 1 m ▸ h))) (ks _ hx) (kt _ hy)
   rcases pg a b with ⟨zs,tp⟩ | no
   ·clear a b kid h up hA hB ih
    cases tp with
    | a=>exact absurd rfl ne
    | b=>exact absurd rfl ne
    | f=>exact (one (.head _) (.head _) λe=>ne (congrArg tF e)).imp (.lexa alt k rfl rfl) (.lexa als k.symm rfl rfl)
    | g=>exact (one (.head _) (.head _) λe=>ne (congrArg tG e)).imp (.lexa alt k rfl rfl) (.lexa als k.symm rfl rfl)
    | @h x1 x2 y1 y2=>
     by_cases e:x1=y1
     ·subst e
      exact (one (.tail _ (.head _)) (.tail _ (.head _)) λe=>ne (congrArg (tH _) e)).imp (.lexb alt k rfl rfl) (.lexb als k.symm rfl rfl)
     ·exact (one (.head _) (.head _) e).imp (.lexa alt k rfl rfl) (.lexa als k.symm rfl rfl)
   ·exact absurd (yf a b k) no
  ·exact .inl (.head alt k)
theorem Gt.monoF {x y:V}(g:Gt rk x y):Gt rk (tF x) (tF y):=.lexa (am.mpr (.sub (.head _) g)) rfl rfl rfl g
theorem Gt.monoG {x y:V}(g:Gt rk x y):Gt rk (tG x) (tG y):=.lexa (am.mpr (.sub (.head _) g)) rfl rfl rfl g
theorem Gt.monoL {x y z:V}(g:Gt rk x y):Gt rk (tH x z) (tH y z):=.lexa (ao.mpr ⟨.sub (.head _) g,am.mpr (.eq (.tail _ (.head _)))⟩) rfl rfl rfl g
theorem Gt.monoR {x y z:V}(g:Gt rk x y):Gt rk (tH z x) (tH z y):=.lexb (ao.mpr ⟨.eq (.head _),am.mpr (.sub (.tail _ (.head _)) g)⟩) rfl rfl rfl g
end
noncomputable abbrev jP:=V->V->Prop
open Classical in
noncomputable def eS (R:jP) (v:V):V:=if h:∃ r,R v r then Classical.choose h else v
noncomputable def Dt (R:jP):Nat->V->V
 | n+1,.tup (s::ks)=>eS R (.tup (s::ks.map (Dt R n)))
 | _,v=>v
structure gf (R:jP) (rk:Nat->Int):Prop where
 fn:∀ {l r r'},R l r->R l r'->r=r'
 gt:∀ {l r},R l r->Gt rk l r
 rt:∀ {l r l' r'},R l r->R l' r'->¬ dN l r'
 lt:∀ {l r l' r'},R l r->R l' r'->dN l l'->l=l'
def df (R:jP) (v:V):Prop:=∀ l r,R l r->¬ dN l v
section
variable {R:jP}{rk:Nat->Int}
theorem jg {v:V}(h:¬ ∃ r,R v r):eS R v=v:=dif_neg h
theorem gu {l r:V}(fn:∀ {l r r'},R l r->R l r'->r=r') (h:R l r):eS R l=r:=by
 have e:∃ r,R l r:=⟨r,h⟩
 exact (dif_pos e).trans (fn (Classical.choose_spec e) h)
theorem s9 {n m:Nat}{v:V}(h:Tm n v) (l:n<=m):Dt R m v=Dt R n v:=by
 induction h generalizing m with
 | a=>cases m with | zero=>cases l | succ m=>rfl
 | b=>cases m with | zero=>cases l | succ m=>rfl
 | f _ i=>cases m with | zero=>cases l | succ m=>exact congrArg (λv=>eS R (.tup [_,v])) (i (au l))
 | g _ i=>cases m with | zero=>cases l | succ m=>exact congrArg (λv=>eS R (.tup [_,v])) (i (au l))
 | h _ _ i j=>cases m with | zero=>cases l | succ m=>exact (congrArg (λv=>eS R (.tup [_,v,_])) (i (au l))).trans (congrArg (λv=>eS R (.tup [_,_,v])) (j (au l)))
noncomputable def nf (R:jP) (v:V):V:=Dt R 12 v
variable {n:Nat}{x y:V}
theorem Ep:nf R tA=eS R tA:=rfl
theorem Em:nf R tB=eS R tB:=rfl
theorem qw (h:Tm 11 x):nf R (tF x)=eS R (tF (nf R x)):=congrArg (λv=>eS R (.tup [_,v])) (s9 h (Nat.le_succ 11)).symm
theorem qn (h:Tm 11 x):nf R (tG x)=eS R (tG (nf R x)):=congrArg (λv=>eS R (.tup [_,v])) (s9 h (Nat.le_succ 11)).symm
theorem qH (h:Tm 11 x) (k:Tm 11 y):nf R (tH x y)=eS R (tH (nf R x) (nf R y)):=(congrArg (λv=>eS R (.tup [_,v,_])) (s9 h (Nat.le_succ 11)).symm).trans (congrArg (λv=>eS R (.tup [_,_,v])) (s9 k (Nat.le_succ 11)).symm)
theorem df.kid {v k:V}(h:df R v) (m:k∈bV v):df R k:=λl r a b=>h l r a (.kid m b)
theorem df.mk {v:V}(h:∀ r,¬ R v r) (k:∀ k∈bV v,df R k):df R v:=λl r a b=>by
 cases b with
 | refl=>exact h r a
 | kid m q=>exact k _ m l r a q
theorem df.root {v:V}(h:df R v):eS R v=v:=jg λ⟨r,q⟩=>h v r q .refl
theorem lS (h:Tm n x) (l:n<=12) (N:df R x):nf R x=x:=by
 induction h with
 | a=>exact N.root
 | b=>exact N.root
 | f h i=>rw [qw (h.up (au l)),i (aJ l) (N.kid (.head _))]; exact N.root
 | g h i=>rw [qn (h.up (au l)),i (aJ l) (N.kid (.head _))]; exact N.root
 | h h k i j=>rw [qH (h.up (au l)) (k.up (au l)),i (aJ l) (N.kid (.head _)),j (aJ l) (N.kid (.tail _ (.head _)))]; exact N.root
theorem eN (G:gf R rk) {v:V}(k:∀ k∈bV v,df R k):df R (eS R v):=by
 by_cases h:∃ r,R v r
 ·obtain ⟨r,h⟩:=h
  rw [gu (R:=R) G.fn h]
  exact λl r' a b=>G.rt a h b
 ·rw [jg h]; exact .mk (λr q=>h ⟨r,q⟩) k
theorem iB (G:gf R rk) (h:Tm n x) (l:n<=12):df R (nf R x):=by
 induction h with
 | a=>exact eN G λk m=>nomatch m
 | b=>exact eN G λk m=>nomatch m
 | f h i=>rw [qw (h.up (au l))]; exact eN G (am.mpr (i (aJ l)))
 | g h i=>rw [qn (h.up (au l))]; exact eN G (am.mpr (i (aJ l)))
 | h h k i j=>rw [qH (h.up (au l)) (k.up (au l))]; exact eN G (ao.mpr ⟨i (aJ l),am.mpr (j (aJ l))⟩)
theorem oA (G:gf R rk) {l r:V}(h:Tm n l) (le:n<=12) (a:R l r):nf R l=r:=by
 have kn:∀ k∈bV l,nf R k=k:=λk m=>lS (h.kid m) (aj (Nat.sub_le _ _) le) λl' r' a' q=>Nat.lt_irrefl _ (aI (G.lt a' a (.kid m q) ▸ q.size) (cL m))
 have:nf R l=eS R l:=by
  cases h with
  | a=>rfl
  | b=>rfl
  | f h=>rw [qw (h.up (au le)),kn _ (.head _)]
  | g h=>rw [qn (h.up (au le)),kn _ (.head _)]
  | h h k=>rw [qH (h.up (au le)) (k.up (au le)),kn _ (.head _),kn _ (.tail _ (.head _))]
 rw [this,gu (R:=R) G.fn a]
theorem ia (G:gf R rk) {l r:V}(h:Tm n r) (le:n<=12) (a:R l r):nf R r=r:=lS h le λl' r' b q=>G.rt b a q
structure ds (c:V->V):Prop where
 f:∀ {x x'},Tm 11 x->Tm 11 x'->c x=c x'->c (tF x)=c (tF x')
 g:∀ {x x'},Tm 11 x->Tm 11 x'->c x=c x'->c (tG x)=c (tG x')
 h:∀ {x x' y y'},Tm 11 x->Tm 11 x'->Tm 11 y->Tm 11 y'->c x=c x'->c y=c y'->c (tH x y)=c (tH x' y')
theorem gs:ds (nf R) where
 f:=λa b e=>by rw [qw a,qw b,e]
 g:=λa b e=>by rw [qn a,qn b,e]
 h:=λa b c d e e'=>by rw [qH a c,qH b d,e,e']
inductive jD (l r:V):List Nat->V->V->Prop
 | here:jD l r [] l r
 | f {p x x'}:jD l r p x x'->jD l r (0::p) (tF x) (tF x')
 | g {p x x'}:jD l r p x x'->jD l r (0::p) (tG x) (tG x')
 | h1 {p x x' y}:jD l r p x x'->jD l r (0::p) (tH x y) (tH x' y)
 | h2 {p x y y'}:jD l r p y y'->jD l r (1::p) (tH x y) (tH x y')
theorem jD.sub {l r v v':V}{p:List Nat}(h:jD l r p v v'):dN l v:=by
 induction h with
 | here=>exact .refl
 | f _ i=>exact .kid aa i
 | g _ i=>exact .kid aa i
 | h1 _ i=>exact .kid aa i
 | h2 _ i=>exact .kid (ai _ aa) i
theorem jD.gt {l r v v':V}{p:List Nat}(g:Gt rk l r) (h:jD l r p v v'):Gt rk v v':=by
 induction h with
 | here=>exact g
 | f _ i=>exact i.monoF
 | g _ i=>exact i.monoG
 | h1 _ i=>exact i.monoL
 | h2 _ i=>exact i.monoR
theorem jD.same {c:V->V}{l r v v':V}{p:List Nat}(C:ds c) (e:c l=c r) (h:jD l r p v v') (a:Tm 12 v) (b:Tm 12 v'):c v=c v':=by
 have dA:∀ {v v':V}{p:List Nat},jD l r p v v'->∀ {n:Nat},n<=12->Tm n v->Tm n v'->c v=c v':=by
  intro v v' p h
  induction h with
  | here=>intro _ _ _ _; exact e
  | f _ i=>intro n le a b; exact C.f ((a.kid (.head _)).up (bj le)) ((b.kid (.head _)).up (bj le)) (i (aj (Nat.sub_le _ _) le) (a.kid (.head _)) (b.kid (.head _)))
  | g _ i=>intro n le a b; exact C.g ((a.kid (.head _)).up (bj le)) ((b.kid (.head _)).up (bj le)) (i (aj (Nat.sub_le _ _) le) (a.kid (.head _)) (b.kid (.head _)))
  | h1 _ i=>intro n le a b; exact C.h ((a.kid (.head _)).up (bj le)) ((b.kid (.head _)).up (bj le)) ((a.kid (.tail _ (.head _))).up (bj le)) ((b.kid (.tail _ (.head _))).up (bj le)) (i (aj (Nat.sub_le _ _) le) (a.kid (.head _)) (b.kid (.head _))) rfl
  | h2 _ i=>intro n le a b; exact C.h ((a.kid (.head _)).up (bj le)) ((b.kid (.head _)).up (bj le)) ((a.kid (.tail _ (.head _))).up (bj le)) ((b.kid (.tail _ (.head _))).up (bj le)) rfl (i (aj (Nat.sub_le _ _) le) (a.kid (.tail _ (.head _))) (b.kid (.tail _ (.head _))))
 exact dA h (ak _) a b
end
section
variable {R:jP}{rk:Nat->Int}
inductive g6 (R:jP) (k:Nat):Nat->V->Prop
 | leaf {n l r}:R l r->k<=n->g6 R k n r
 | a {n}:g6 R k (n+1) tA
 | b {n}:g6 R k (n+1) tB
 | f {n x}:g6 R k n x->g6 R k (n+1) (tF x)
 | g {n x}:g6 R k n x->g6 R k (n+1) (tG x)
 | h {n x y}:g6 R k n x->g6 R k n y->g6 R k (n+1) (tH x y)
theorem Tm.bud {n k:Nat}{v:V}(h:Tm n v):g6 R k n v:=by
 induction h with
 | a=>exact .a
 | b=>exact .b
 | f _ i=>exact .f i
 | g _ i=>exact .g i
 | h _ _ i j=>exact .h i j
theorem bs {n j N k:Nat}(h:n+1+j<=N+1+k):n+j<=N+k:=by
 rw [Nat.add_right_comm n 1,Nat.add_right_comm N 1] at h
 exact au h
theorem g6.tm {n k j:Nat}{v:V}(hr:∀ l r,R l r->Tm j r) (h:g6 R k n v):∀ {N:Nat},n<=N->n+j<=N+k->Tm N v:=by
 induction h with
 | leaf a l=>exact λzz h=>(hr _ _ a).up (Nat.le_of_add_le_add_left (aj (bB l j) (Nat.add_comm _ k ▸ h)))
 | a=>exact λh zz=>Tm.a.up (n:=1) (aj (aR (aZ _)) h)
 | b=>exact λh zz=>Tm.b.up (n:=1) (aj (aR (aZ _)) h)
 | f _ i=>intro N h e; cases N with | zero=>cases h | succ N=>exact .f (i (au h) (bs e))
 | g _ i=>intro N h e; cases N with | zero=>cases h | succ N=>exact .g (i (au h) (bs e))
 | h _ _ i j=>intro N h e; cases N with | zero=>cases h | succ N=>exact .h (i (au h) (bs e)) (j (au h) (bs e))
theorem g6.or {n k:Nat}{v:V}(h:g6 R k n v):Tm n v\/k<=n:=by
 induction h with
 | leaf _ l=>exact .inr l
 | a=>exact .inl .a
 | b=>exact .inl .b
 | f _ i=>exact i.imp .f Nat.le_succ_of_le
 | g _ i=>exact i.imp .g Nat.le_succ_of_le
 | h _ _ i j=>exact i.elim (λa=>j.imp (.h a) Nat.le_succ_of_le) λl=>.inr (Nat.le_succ_of_le l)
theorem g6.inv {n k:Nat}{v:V}(h:g6 R k n v):(∃ l,R l v)\/∃ m,n=m+1/\∀ u∈bV v,g6 R k m u:=by
 cases h with
 | leaf a _=>exact .inl ⟨_,a⟩
 | a=>exact .inr ⟨_,rfl,λzz h=>nomatch h⟩
 | b=>exact .inr ⟨_,rfl,λzz h=>nomatch h⟩
 | f h=>exact .inr ⟨_,rfl,am.mpr h⟩
 | g h=>exact .inr ⟨_,rfl,am.mpr h⟩
 | h h k=>exact .inr ⟨_,rfl,ao.mpr ⟨h,am.mpr k⟩⟩
theorem g6.step {n k:Nat}{l r v v':V}{p:List Nat}(G:gf R rk) (low:∀ {l r m},R l r->Tm m l->k<=m) (a:R l r) (h:jD l r p v v') (b:g6 R k n v):g6 R k n v':=by
 have go:∀ {v v':V}{p:List Nat}{n:Nat},jD l r p v v'->g6 R k n v->(∀ m,(∀ u∈bV v,g6 R k m u)->g6 R k (m+1) v')->g6 R k n v':=λh b k=>by
  rcases b.inv with ⟨zz,c⟩ | ⟨m,rfl,ks⟩
  ·exact (G.rt a c h.sub).elim
  ·exact k m ks
 induction h generalizing n with
 | here=>exact .leaf a (b.or.elim (low a) id)
 | f h i=>exact go (jD.f h) b λm ks=>.f (i (ks _ (.head _)))
 | g h i=>exact go (jD.g h) b λm ks=>.g (i (ks _ (.head _)))
 | h1 h i=>exact go (jD.h1 h) b λm ks=>.h (i (ks _ (.head _))) (ks _ (.tail _ (.head _)))
 | h2 h i=>exact go (jD.h2 h) b λm ks=>.h (ks _ (.head _)) (i (ks _ (.tail _ (.head _))))
open Classical in
noncomputable def vR (R:jP) (v:V):Nat:=if df R v then 0 else 1
theorem jG {v:V}:vR R v<=1:=by
 by_cases h:df R v
 ·exact aj (Nat.le_of_eq (if_pos h)) (aZ 1)
 ·exact Nat.le_of_eq (if_neg h)
theorem l0 {v:V}(h:df R v):vR R v=0:=if_pos h
theorem zL {v:V}(h:¬ df R v):vR R v=1:=if_neg h
noncomputable def mS (R:jP):Nat->V->Nat
 | n+1,.tup (s::ks)=>vR R (.tup (s::ks))+(ks.map (mS R n)).sum
 | _,_=>0
theorem mV {v:V}:mS R 0 v=0:=by cases v <;> rfl
theorem BW {m:Nat}:mS R (m+1) tA=vR R tA:=rfl
theorem CV {m:Nat}:mS R (m+1) tB=vR R tB:=rfl
theorem zC {m:Nat}{x:V}:mS R (m+1) (tF x)=vR R (tF x)+(mS R m x+0):=rfl
theorem y3 {m:Nat}{x:V}:mS R (m+1) (tG x)=vR R (tG x)+(mS R m x+0):=rfl
theorem u7 {m:Nat}{x y:V}:mS R (m+1) (tH x y)=vR R (tH x y)+(mS R m x+(mS R m y+0)):=rfl
noncomputable def wt:Nat->Nat
 | 0=>0
 | n+1=>2 * wt n+1
theorem DL {w:Nat}:1+(w+(w+0))<=2 * w+1:=by lia
theorem yA {n m:Nat}(h:n<=m):wt n<=wt m:=by
 induction h with
 | refl=>exact ak _
 | step _ i=>exact aj i (aj (Nat.le_add_left _ _) (aj (bu (bn _ _) 1) DL))
theorem AW {n m:Nat}{v:V}(h:Tm n v):mS R m v<=wt n:=by
 have one:∀ {b c w:Nat},b<=1->c<=w->b+(c+0)<=2 * w+1:=λh k=>aj (Nat.add_le_add h (Nat.add_le_add k (aZ _))) DL
 induction h generalizing m with
 | a=>cases m with
  | zero=>rw [mV]; exact aZ _
  | succ m=>exact aj jG (aR (aZ _))
 | b=>cases m with
  | zero=>rw [mV]; exact aZ _
  | succ m=>exact aj jG (aR (aZ _))
 | f _ i=>cases m with
  | zero=>rw [mV]; exact aZ _
  | succ m=>exact one jG i
 | g _ i=>cases m with
  | zero=>rw [mV]; exact aZ _
  | succ m=>exact one jG i
 | h _ _ i j=>cases m with
  | zero=>rw [mV]; exact aZ _
  | succ m=>exact aj (Nat.add_le_add jG (Nat.add_le_add i (bB j 0))) DL
theorem wd {n:Nat}{v:V}(h:Tm n v) (N:df R v):∀ {m:Nat},mS R m v=0:=by
 have k1:∀ {s x:V},df R (.tup [s,x])->df R x:=λh=>h.kid aa
 induction h with
 | a=>intro m; cases m with | zero=>exact mV | succ m=>rw [BW,l0 N]
 | b=>intro m; cases m with | zero=>exact mV | succ m=>rw [CV,l0 N]
 | f _ i=>intro m; cases m with | zero=>exact mV | succ m=>rw [zC,l0 N,i (k1 N)]
 | g _ i=>intro m; cases m with | zero=>exact mV | succ m=>rw [y3,l0 N,i (k1 N)]
 | h _ _ i j=>intro m; cases m with | zero=>exact mV | succ m=>rw [u7,l0 N,i (N.kid aa),j (N.kid (ai _ aa))]
theorem yV {m:Nat}{v:V}(t:Tm m v) (y:vR R v=1):0 < mS R m v:=by
 cases t with
 | a=>rw [BW,y]; exact Nat.one_pos
 | b=>rw [CV,y]; exact Nat.one_pos
 | f=>rw [zC,y]; exact Nat.add_pos_left Nat.one_pos _
 | g=>rw [y3,y]; exact Nat.add_pos_left Nat.one_pos _
 | h=>rw [u7,y]; exact Nat.add_pos_left Nat.one_pos _
theorem wg {l r v v':V}{p:List Nat}(G:gf R rk) (a:R l r) (h:jD l r p v v'):∀ {m:Nat},Tm m v->Tm m v'->mS R m v' < mS R m v:=by
 have yes:∀ {v v':V}{p:List Nat},jD l r p v v'->vR R v=1:=λh=>zL λN=>N l r a h.sub
 have lt:∀ {v':V}{x y:Nat},x < y->vR R v'+x < 1+y:=λh=>aI (bB jG _) (Nat.add_lt_add_left h 1)
 induction h with
 | here=>
  intro m t t'
  rw [wd t' λl' r' b q=>G.rt b a q]
  exact yV t (yes .here)
 | f h i=>
  intro m t t'
  obtain ⟨m,rfl,ks⟩:=t.inv
  rw [zC,zC,yes (.f h)]
  exact lt (i (ks _ (.head _)) (t'.kid (.head _)))
 | g h i=>
  intro m t t'
  obtain ⟨m,rfl,ks⟩:=t.inv
  rw [y3,y3,yes (.g h)]
  exact lt (i (ks _ (.head _)) (t'.kid (.head _)))
 | h1 h i=>
  intro m t t'
  obtain ⟨m,rfl,ks⟩:=t.inv
  rw [u7,u7,yes (.h1 h)]
  exact lt (Nat.add_lt_add_right (i (ks _ (.head _)) (t'.kid (.head _))) _)
 | h2 h i=>
  intro m t t'
  obtain ⟨m,rfl,ks⟩:=t.inv
  rw [u7,u7,yes (.h2 h)]
  exact lt (Nat.add_lt_add_left (i (ks _ (.tail _ (.head _))) (t'.kid (.tail _ (.head _)))) _)
theorem zh (G:gf R rk) (v:V):eS R v=v\/∃ l r,R l r/\eS R v=r/\Gt rk v r:=by
 by_cases h:∃ r,R v r
 ·obtain ⟨r,h⟩:=h
  exact .inr ⟨v,r,h,gu (R:=R) G.fn h,G.gt h⟩
 ·exact .inl (jg h)
def oP (R:jP) (rk:Nat->Int) (v w:V):Prop:=w=v\/(Gt rk v w/\∃ l r,R l r/\dN r w)
theorem oP.root (G:gf R rk) {v w:V}(h:oP R rk v w):oP R rk v (eS R w):=by
 rcases zh G w with e | ⟨l,r,a,e,g⟩
 ·rw [e]; exact h
 ·rw [e]
  refine .inr ⟨?_,l,r,a,.refl⟩
  rcases h with e | ⟨g',_⟩
  ·exact e ▸ g
  ·exact g'.tr g
theorem tN (G:gf R rk) {n:Nat}{v:V}(h:Tm n v) (le:n<=12):oP R rk v (nf R v):=by
 induction h with
 | a=>exact oP.root G (.inl rfl)
 | b=>exact oP.root G (.inl rfl)
 | f h i=>
  rw [qw (h.up (au le))]
  exact oP.root G ((i (aJ le)).imp (congrArg tF) λ⟨g,l,r,a,s⟩=>⟨g.monoF,l,r,a,.kid aa s⟩)
 | g h i=>
  rw [qn (h.up (au le))]
  exact oP.root G ((i (aJ le)).imp (congrArg tG) λ⟨g,l,r,a,s⟩=>⟨g.monoG,l,r,a,.kid aa s⟩)
 | h h k i j=>
  rw [qH (h.up (au le)) (k.up (au le))]
  refine oP.root G ?_
  rcases i (aJ le) with e | ⟨g,l,r,a,s⟩
  ·rw [e]
   exact (j (aJ le)).imp (congrArg (tH _)) λ⟨g,l,r,a,s⟩=>⟨g.monoR,l,r,a,.kid (ai _ aa) s⟩
  ·refine .inr ⟨?_,l,r,a,.kid aa s⟩
   rcases j (aJ le) with e | ⟨g',_⟩
   ·rw [e]; exact g.monoL
   ·exact g.monoL.tr g'.monoR
end
section
variable {R:jP}{rk:Nat->Int}{n k j N:Nat}{v w l r p q x y:V}{c:V->V}
theorem ic (G:gf R rk) (low:∀ {l r m},R l r->Tm m l->k<=m) (h:g6 R k n w):g6 R k n (eS R w):=by
 by_cases e:∃ r,R w r
 ·obtain ⟨r,a⟩:=e
  rw [gu (R:=R) G.fn a]
  exact .leaf a (h.or.elim (low a) id)
 ·rw [jg e]; exact h
theorem hZ (G:gf R rk) (s:∀ {l r},R l r->c l=c r):c (eS R w)=c w:=by
 by_cases e:∃ r,R w r
 ·obtain ⟨r,a⟩:=e
  rw [gu (R:=R) G.fn a]; exact (s a).symm
 ·rw [jg e]
theorem oO (G:gf R rk) (low:∀ {l r m},R l r->Tm m l->k<=m) (hr:∀ l r,R l r->Tm j r) (hN:N<=11/\N+j<=11+k/\j<=12) (h:g6 R k n v):n<=N->g6 R k n (nf R v)/\(ds c->(∀ {l r},R l r->c l=c r)->c (nf R v)=c v):=by
 have t11:∀ {n v},n<=N->g6 R k n v->Tm 11 v:=λhn b=>b.tm hr (aj hn hN.1) (aj (bB hn j) hN.2.1)
 induction h with
 | leaf a l=>intro _; rw [ia G (hr _ _ a) hN.2.2 a]; exact ⟨.leaf a l,λzz zz=>rfl⟩
 | a=>exact λzz=>⟨ic G low .a,λzz s=>hZ G s⟩
 | b=>exact λzz=>⟨ic G low .b,λzz s=>hZ G s⟩
 | f h i=>
  intro hn
  have hn:=aJ hn
  have i:=i hn
  rw [qw (t11 hn h)]
  exact ⟨ic G low (.f i.1),λC s=>(hZ G s).trans (C.f (t11 hn i.1) (t11 hn h) (i.2 C s))⟩
 | g h i=>
  intro hn
  have hn:=aJ hn
  have i:=i hn
  rw [qn (t11 hn h)]
  exact ⟨ic G low (.g i.1),λC s=>(hZ G s).trans (C.g (t11 hn i.1) (t11 hn h) (i.2 C s))⟩
 | h h h' i i'=>
  intro hn
  have hn:=aJ hn
  have i:=i hn
  have i':=i' hn
  rw [qH (t11 hn h) (t11 hn h')]
  exact ⟨ic G low (.h i.1 i'.1),λC s=>(hZ G s).trans (C.h (t11 hn i.1) (t11 hn h) (t11 hn i'.1) (t11 hn h') (i.2 C s) (i'.2 C s))⟩
theorem uk {M:Nat}(G:gf R rk) (low:∀ {l r m},R l r->Tm m l->k<=m) (hr:∀ l r,R l r->Tm j r) (hN:n<=11/\n+j<=11+k/\j<=12) (h:Tm n v) (h1:n<=M) (h2:n+j<=M+k):Tm M (nf R v):=(oO (c:=id) G low hr hN h.bud (ak n)).1.tm hr h1 h2
theorem sM (G:gf R rk) (low:∀ {l r m},R l r->Tm m l->k<=m) (hr:∀ l r,R l r->Tm j r) (hN:n<=11/\n+j<=11+k/\j<=12) (h:Tm n v) (C:ds c) (s:∀ {l r},R l r->c l=c r):c (nf R v)=c v:=(oO G low hr hN h.bud (ak n)).2 C s
noncomputable abbrev R1 (l r:V):jP:=λa b=>a=l/\b=r
theorem c5 (g:Gt rk l r):gf (R1 l r) rk:=⟨λa b=>a.2.trans b.2.symm,λa=>a.1 ▸ a.2 ▸ g,λa b=>a.1 ▸ b.2 ▸ g.not,λa b zz=>a.1.trans b.1.symm⟩
def Ex (k:Nat) (v:V):Prop:=Tm k v/\∀ m,Tm m v->k<=m
theorem Tm.ex (h:Tm n v):∃ k,k<=n/\Ex k v:=by
 induction n with
 | zero=>exact absurd h.pos (Nat.lt_irrefl _)
 | succ n ih=>
  by_cases e:Tm n v
  ·obtain ⟨k,l,x⟩:=ih e
   exact ⟨k,Nat.le_succ_of_le l,x⟩
  ·refine ⟨n+1,ak _,h,λm t=>?_⟩
   rcases Nat.lt_or_ge m (n+1) with q | q
   ·exact absurd (t.up (Nat.le_of_lt_succ q)) e
   ·exact q
theorem dN.less {u v:V}(s:dN u v) (ne:u≠v) (h:Tm n v):Tm (n - 1) u:=by
 cases s with
 | refl=>exact absurd rfl ne
 | kid m s=>exact s.tm (h.kid m)
structure Iv (rk:Nat->Int) (l r p q:V) (k kp:Nat):Prop where
 g:Gt rk l r
 lk:Ex k l
 k3:k<=3
 tp:Tm kp p
 p3:kp<=3
 tq:Tm 3 q
 tr:Tm (6 - kp) r
 sq:dN l q->Tm 3 r
 f:kp=3\/(k < kp/\dN l p)
theorem Iv.low (I:Iv rk l r p q k kp):∀ {a b m},R1 l r a b->Tm m a->k<=m:=λh t=>I.lk.2 _ (h.1 ▸ t)
theorem Iv.kp2 {kp:Nat}(I:Iv rk l r p q k kp):2<=kp:=I.f.elim (λe=>e ▸ by decide) λe=>aj (aR I.lk.1.pos) e.1
theorem Iv.r4 {kp:Nat}(I:Iv rk l r p q k kp):Tm 4 r:=I.tr.up (Nat.sub_le_sub_left I.kp2 6)
theorem Iv.pq {kp:Nat}(I:Iv rk l r p q k kp):Tm (6 - k) (nf (R1 l r) p)/\Tm (6 - k) (nf (R1 l r) q):=by
 have p6:kp+(6 - kp)=6:=Nat.add_sub_cancel' (aj I.p3 (by decide))
 have k6:6<=6 - k+k:=Nat.le_of_eq (Nat.sub_add_cancel (aj I.k3 (by decide))).symm
 have le:∀ {n},n<=3->n<=6 - k:=λh=>Nat.le_sub_of_add_le (Nat.add_le_add h I.k3)
 have l11:6<=11+k:=aj (by decide) (bn 11 k)
 constructor
 ·exact uk (c5 I.g) I.low (j:=6 - kp) (λa b h=>h.2 ▸ I.tr) ⟨aj I.p3 (by decide),p6.symm ▸ l11,aj (Nat.sub_le _ _) (by decide)⟩ I.tp (le I.p3) (p6.symm ▸ k6)
 ·by_cases s:dN l q
  ·exact uk (c5 I.g) I.low (j:=3) (λa b h=>h.2 ▸ I.sq s) ⟨by decide,l11,by decide⟩ I.tq (le (ak 3)) k6
  ·rw [lS (R:=R1 l r) I.tq (by decide) λa b h t=>s (h.1 ▸ t)]
   exact I.tq.up (le (ak 3))
theorem Iv.norm {kp:Nat}(I:Iv rk l r p q k kp):¬ dN l (nf (R1 l r) p)/\¬ dN l (nf (R1 l r) q):=⟨iB (c5 I.g) I.tp (aj I.p3 (by decide)) l r ⟨rfl,rfl⟩,iB (c5 I.g) I.tq (by decide) l r ⟨rfl,rfl⟩⟩
def A8 (l r p q l' r':V):Prop:=(l'=nf (R1 l r) p/\r'=nf (R1 l r) q)\/(l'=nf (R1 l r) q/\r'=nf (R1 l r) p)
variable {l' r':V}{kp:Nat}
theorem Iv.old (I:Iv rk l r p q k kp) (h:A8 l r p q l' r') (g:Gt rk l' r') (s:dN l' r):Tm 3 r'/\(dN l p->l'=r):=by
 have no:¬ dN r r':=λt=>g.not (s.trans t)
 have F:=λ{n v}(h:Tm n v) (le:n<=12)=>tN (c5 I.g) h le
 have un:∀ {n v},Tm n v->n<=12->nf (R1 l r) v=v\/dN r (nf (R1 l r) v):=λh le=>(F h le).imp id λ⟨_,_,_,a,s⟩=>a.2 ▸ s
 have up:=un I.tp (aj I.p3 (by decide))
 have uq:=un I.tq (by decide)
 rcases h with ⟨e1,e2⟩ | ⟨e1,e2⟩
 ·refine ⟨?_,λh=>?_⟩
  ·rcases uq with e | e
   ·rw [e2,e]; exact I.tq
   ·exact (no (e2 ▸ e)).elim
  ·rcases up with e | e
   ·exact (I.norm.1 (e.symm ▸ h)).elim
   ·exact s.anti (e1 ▸ e)
 ·refine ⟨?_,λh=>?_⟩
  ·rcases up with e | e
   ·rw [e2,e]; exact I.tp.up I.p3
   ·exact (no (e2 ▸ e)).elim
  ·rcases up with e | e
   ·exact (I.norm.1 (e.symm ▸ h)).elim
   ·exact (no (e2 ▸ e)).elim
theorem Iv.new (I:Iv rk l r p q k kp) (h:A8 l r p q l' r'):(Tm (6 - k) l'/\Tm (6 - k) r')/\¬ dN l l'/\¬ dN l r':=by
 have a:=I.pq
 have b:=I.norm
 clear I
 rcases h with ⟨rfl,rfl⟩ | ⟨rfl,rfl⟩
 ·exact ⟨a,b⟩
 ·exact ⟨⟨a.2,a.1⟩,b.2,b.1⟩
theorem Iv.next (I:Iv rk l r p q k kp) (h:A8 l r p q l' r') (g:Gt rk l' r') (s:dN l' l):∃ k',k' < k/\Iv rk l' r' l r k' k:=by
 obtain ⟨⟨t1,t2⟩,n1,n2⟩:=I.new h
 have ne:l'≠l:=λe=>n1 (e ▸ .refl)
 obtain ⟨k',le,ex⟩:=(s.less ne I.lk.1).ex
 have lt:k' < k:=aI le (Nat.sub_lt I.lk.1.pos Nat.one_pos)
 have p3:kp=3:=I.f.elim id λe=>Nat.le_antisymm I.p3 (aj (aR (aj (aR ex.1.pos) lt)) e.1)
 exact ⟨k',lt,g,ex,aj (Nat.le_of_lt lt) I.k3,I.lk.1,I.k3,(p3 ▸ I.tr:Tm (6 - 3) r),t2,λs=>(I.old h g s).1,.inr ⟨lt,s⟩⟩
theorem Iv.last (I:Iv rk l r p q k kp) (h:A8 l r p q l' r') (g:Gt rk l' r'):Tm 5 (nf (R1 l' r') r)/\(¬ dN l' r\/Tm 3 r'):=by
 by_cases s:dN l' r
 ·obtain ⟨o1,o2⟩:=I.old h g s
  refine ⟨?_,.inr o1⟩
  rcases I.f with e | ⟨_,e⟩
  ·exact uk (c5 g) (k:=1) (j:=3) (λh t=>t.pos) (λa b h=>h.2 ▸ o1) (by decide) (n:=3) (e ▸ I.tr:Tm (6 - 3) r) (by decide) (by decide)
  ·have:=o2 e
   clear o2
   subst this
   rw [oA (c5 g) (I.r4) (by decide) ⟨rfl,rfl⟩]
   exact o1.up (by decide)
 ·rw [lS (R:=R1 l' r') I.r4 (by decide) λa b h t=>s (h.1 ▸ t)]
  exact ⟨I.r4.up (by decide),.inl s⟩
noncomputable abbrev R2 (l r l' r':V):jP:=λa b=>(a=l/\b=r)\/(a=l'/\b=r')
theorem B8 {l r l' r':V}(g:Gt rk l r) (g':Gt rk l' r') (a:¬ dN l r') (b:¬ dN l' r) (c:¬ dN l l') (d:¬ dN l' l):gf (R2 l r l' r') rk:=
 ⟨λh k=>h.elim (λh=>k.elim (λk=>h.2.trans k.2.symm) λk=>(c ((h.1.symm.trans k.1) ▸ .refl)).elim) λh=>k.elim (λk=>(c ((k.1.symm.trans h.1) ▸ .refl)).elim) λk=>h.2.trans k.2.symm,
  λh=>h.elim (λh=>h.1 ▸ h.2 ▸ g) λh=>h.1 ▸ h.2 ▸ g',
  λh k=>h.elim (λh=>k.elim (λk=>h.1 ▸ k.2 ▸ g.not) λk=>h.1 ▸ k.2 ▸ a) λh=>k.elim (λk=>h.1 ▸ k.2 ▸ b) λk=>h.1 ▸ k.2 ▸ g'.not,
  λh k s=>h.elim (λh=>k.elim (λk=>h.1.trans k.1.symm) λk=>(c (h.1 ▸ k.1 ▸ s)).elim) λh=>k.elim (λk=>(d (h.1 ▸ k.1 ▸ s)).elim) λk=>h.1.trans k.1.symm⟩
theorem Iv.good (I:Iv rk l r p q k kp) (h:A8 l r p q l' r') (g:Gt rk l' r') (s:¬ dN l' l):gf (R2 l' r' l (nf (R1 l' r') r)) rk:=
 B8 g ((tN (c5 g) I.r4 (by decide)).elim (λe=>e.symm ▸ I.g) λe=>I.g.tr e.1) (iB (c5 g) I.r4 (by decide) l' r' ⟨rfl,rfl⟩) (I.new h).2.2 s (I.new h).2.1
theorem Iv.snd (I:Iv rk l r p q k kp) (C:ds c) (e:c l=c r) {v:V}(t:Tm n v) (le:n<=3):c (nf (R1 l r) v)=c v:=
 sM (c5 I.g) (k:=1) (j:=4) (λh t=>t.pos) (λa b h=>h.2 ▸ I.r4) ⟨aj le (by decide),aj (bB le 4) (by decide),by decide⟩ t C λh=>h.1 ▸ h.2 ▸ e
theorem Iv.same (I:Iv rk l r p q k kp) (h:A8 l r p q l' r') (C:ds c) (e:c l=c r):c p=c q↔c l'=c r':=by
 have ep:=I.snd C e I.tp I.p3
 have eq:=I.snd C e I.tq (ak 3)
 rw [← ep,← eq]
 exact h.elim (λh=>h.1 ▸ h.2 ▸ Iff.rfl) λh=>h.1 ▸ h.2 ▸ eq_comm
theorem Iv.same2 (I:Iv rk l r p q k kp) (h:A8 l r p q l' r') (g:Gt rk l' r') (C:ds c) (e:c l'=c r'):c (nf (R1 l' r') r)=c r:=
 sM (c5 g) (k:=1) (j:=5) (λh t=>t.pos) (λa b h'=>h'.2 ▸ (I.new h).1.2.up (Nat.sub_le_sub_left I.lk.1.pos 6)) (by decide) I.r4 C λh=>h.1 ▸ h.2 ▸ e
end
section
open Classical
variable {W:List V}{L:V->V}{R:jP}{rk:Nat->Int}{s t u w x y:V}
structure pV (W:List V) (L:V->V):Prop where
 mem:∀ w∈W,L w∈W
 idem:∀ w∈W,L (L w)=L w
noncomputable def kG (L:V->V) (s t:V):V->V:=λw=>if L w=L t then L s else L w
theorem je (h:L w=L t):kG L s t w=L s:=if_pos h
theorem rm (h:L w≠L t):kG L s t w=L w:=if_neg h
theorem lu (L:V->V) (s t w:V):(L w=L t/\kG L s t w=L s)\/(L w≠L t/\kG L s t w=L w):=by
 by_cases h:L w=L t
 ·exact .inl ⟨h,je h⟩
 ·exact .inr ⟨h,rm h⟩
theorem qj (h:L x=L y):kG L s t x=kG L s t y:=by unfold kG; rw [h]
theorem xV:kG L s t s=kG L s t t:=by
 rw [je (w:=t) rfl]
 rcases lu L s t s with ⟨_,e⟩ | ⟨_,e⟩ <;> exact e
theorem pV.mrg (l:pV W L) (hs:s∈W) (ht:t∈W):pV W (kG L s t) where
 mem:=λw hw=>by
  rcases lu L s t w with ⟨zz,e⟩ | ⟨zz,e⟩
  ·rw [e]; exact l.mem s hs
  ·rw [e]; exact l.mem w hw
 idem:=λw hw=>by
  have up:∀ v,v∈W->Mine.kG L s t (L v)=Mine.kG L s t v:=λv hv=>qj (l.idem v hv)
  rcases lu L s t w with ⟨e',e⟩ | ⟨e',e⟩
  ·rw [e,up s hs,xV]; exact je rfl
  ·rw [e,up w hw,e]
noncomputable def oN (W:List V) (L:V->V):Nat:=W.countP λw=>decide (L w=w)
theorem xA {p q:V->Bool}:∀ {l:List V},(∀ x∈l,p x=true->q x=true)->x∈l->q x=true->p x=false->l.countP p < l.countP q
 | y::l,h,m,a,b=>by
  have le:=List.countP_mono_left (l:=l) λx hx=>h x (ai _ hx)
  rcases az.mp m with e | m
  ·subst e
   rw [List.countP_cons,List.countP_cons,a,b]
   exact Nat.lt_succ_of_le le
  ·have:=xA (λx hx=>h x (ai _ hx)) m a b
   have hy:=h y aa
   rw [List.countP_cons,List.countP_cons]
   cases e:p y with
   | true=>rw [hy e]; omega
   | false=>cases q y <;> simp <;> omega
theorem ql (l:pV W L) (hs:s∈W) (hw:w∈W) (h:kG L s t w=w):L w=w:=by
 rcases lu L s t w with ⟨e',e⟩ | ⟨e',e⟩
 ·rw [← h,e]; exact l.idem s hs
 ·rw [← e,h]
theorem zO (l:pV W L) (hs:s∈W):oN W (kG L s t)<=oN W L:=List.countP_mono_left λw hw h=>be (ql l hs hw (bw h))
theorem zG (l:pV W L) (hs:s∈W) (ht:t∈W) (ne:L s≠L t):oN W (kG L s t) < oN W L:=
 xA (λw hw h=>be (ql l hs hw (bw h))) (l.mem t ht) (be (l.idem t ht)) (bq λh=>ne ((je (l.idem t ht)).symm.trans h))
noncomputable def jY (L:V->V):List (V × V)->V->V
 | []=>L
 | p::ps=>jY (kG L p.1 p.2) ps
variable {ps:List (V × V)}
theorem jO:∀ {ps:List (V × V)}{L:V->V},L x=L y->jY L ps x=jY L ps y
 | [],_,h=>h
 | p::ps,L,h=>jO (ps:=ps) (L:=kG L p.1 p.2) (qj h)
theorem ui:∀ {ps:List (V × V)}{L:V->V}{p:V × V},p∈ps->jY L ps p.1=jY L ps p.2
 | q::ps,L,p,h=>by
  rcases az.mp h with e | h
  ·rw [e]; exact jO (ps:=ps) (L:=kG L q.1 q.2) xV
  ·exact ui (ps:=ps) (L:=kG L q.1 q.2) h
def AC (W:List V) (ps:List (V × V)):Prop:=∀ p∈ps,p.1∈W/\p.2∈W
theorem lO:∀ {ps:List (V × V)}{L:V->V},pV W L->AC W ps->pV W (jY L ps)/\oN W (jY L ps)<=oN W L
 | [],_,l,_=>⟨l,ak _⟩
 | p::ps,L,l,h=>by
  obtain ⟨a,b⟩:=h p aa
  obtain ⟨c,d⟩:=lO (l.mrg a b) λq hq=>h q (ai _ hq)
  exact ⟨c,aj d (zO l a)⟩
theorem zN (l:pV W L) (h:AC W ps) (ne:ps≠[]) (d:∀ p∈ps,L p.1≠L p.2):oN W (jY L ps) < oN W L:=by
 cases ps with
 | nil=>exact absurd rfl ne
 | cons p ps=>
  obtain ⟨a,b⟩:=h p aa
  exact aI (lO (l.mrg a b) λq hq=>h q (ai _ hq)).2 (zG l a b (d p aa))
def yG (F:V->V) (W:List V) (L:V->V):Prop:=∀ w∈W,F (L w)=F w
variable {F:V->V}
theorem yG.mrg (h:yG F W L) (hs:s∈W) (ht:t∈W) (e:F s=F t):yG F W (kG L s t):=λw hw=>by
 rcases lu L s t w with ⟨e',q⟩ | ⟨e',q⟩
 ·rw [q,h s hs,e,← h t ht,← e',h w hw]
 ·rw [q,h w hw]
theorem pG:∀ {ps:List (V × V)}{L:V->V},yG F W L->AC W ps->(∀ p∈ps,F p.1=F p.2)->yG F W (jY L ps)
 | [],_,h,_,_=>h
 | p::ps,L,h,i,e=>by
  obtain ⟨a,b⟩:=i p aa
  exact pG (ps:=ps) (L:=Mine.kG L p.1 p.2) (h.mrg a b (e p aa)) (λq hq=>i q (ai _ hq)) λq hq=>e q (ai _ hq)
noncomputable def dl (L:V->V):V->V
 | .tup (s::ks)=>.tup (s::ks.map L)
 | v=>v
theorem wY {n m:Nat}(h:Tm n w) (k:∀ x∈bV w,Tm m (L x)):Tm (m+1) (dl L w):=by
 cases h with
 | a=>exact .a
 | b=>exact .b
 | f h=>exact .f (k _ aa)
 | g h=>exact .g (k _ aa)
 | h a b=>exact .h (k _ aa) (k _ (ai _ aa))
theorem n9 {n:Nat}{v:V}(h:Tm n v):ox (dl L v)=ox v:=by cases h <;> rfl
theorem vB {v:V}(C:ds F) (h:yG F W L) (cl:∀ w∈W,∀ k∈bV w,k∈W) (hv:Tm 11 v) (hw:Tm 11 w) (mv:v∈W) (mw:w∈W) (e:dl L v=dl L w):F v=F w:=by
 rcases pg hv hw with ⟨zs,tp⟩ | no
 ·have kv:=λk hk=>h k (cl v mv k hk)
  have kw:=λk hk=>h k (cl w mw k hk)
  have tv:=λk hk=>(hv.kid (k:=k) hk).up (show 11 - 1<=11 by decide)
  have tw:=λk hk=>(hw.kid (k:=k) hk).up (show 11 - 1<=11 by decide)
  clear h cl hv hw mv mw
  cases tp with
  | a=>rfl
  | b=>rfl
  | f=>exact C.f (tv _ (.head _)) (tw _ (.head _)) ((kv _ (.head _)).symm.trans ((congrArg (λv=>F (kid 0 v)) e).trans (kw _ (.head _))))
  | g=>exact C.g (tv _ (.head _)) (tw _ (.head _)) ((kv _ (.head _)).symm.trans ((congrArg (λv=>F (kid 0 v)) e).trans (kw _ (.head _))))
  | h=>exact C.h (tv _ (.head _)) (tw _ (.head _)) (tv _ (.tail _ (.head _))) (tw _ (.tail _ (.head _))) ((kv _ (.head _)).symm.trans ((congrArg (λv=>F (kid 0 v)) e).trans (kw _ (.head _)))) ((kv _ (.tail _ (.head _))).symm.trans ((congrArg (λv=>F (kid 1 v)) e).trans (kw _ (.tail _ (.head _)))))
 ·exact absurd ((n9 hv).symm.trans ((congrArg ox e).trans (n9 hw))) no
abbrev uX (W:List V) (L:V->V):Prop:=∀ w∈W,∀ w'∈W,dl L w=dl L w'->L w=L w'
noncomputable def RL (W:List V) (L:V->V):jP:=λv y=>∃ w∈W,dl L w=v/\L w=y
theorem B3 {n:Nat}(cg:uX W L) (cl:∀ w∈W,∀ k∈bV w,k∈W) (h:Tm n w):n<=12->w∈W->nf (RL W L) w=L w:=by
 have fn:∀ {l r r'},RL W L l r->RL W L l r'->r=r':=λ{l r r'} ⟨w,hw,e,q⟩ ⟨w',hw',e',q'⟩=>by rw [← q,← q']; exact cg w hw w' hw' (e.trans e'.symm)
 have hit:∀ {w},w∈W->eS (RL W L) (dl L w)=L w:=λ{w} m=>gu fn ⟨w,m,rfl,rfl⟩
 induction h with
 | a=>intro _ m; exact hit m
 | b=>intro _ m; exact hit m
 | f h i=>intro hn m; rw [qw (h.up (au hn)),i (aJ hn) (cl _ m _ aa)]; exact hit m
 | g h i=>intro hn m; rw [qn (h.up (au hn)),i (aJ hn) (cl _ m _ aa)]; exact hit m
 | h h h' i j=>intro hn m; rw [qH (h.up (au hn)) (h'.up (au hn)),i (aJ hn) (cl _ m _ aa),j (aJ hn) (cl _ m _ (ai _ aa))]; exact hit m
end
noncomputable abbrev C (n:Nat):Fn->List V->G->Option (V × G):=kj 10000 tbl n
section
variable {W n:Nat}{cf:Fn->List V->G->Option (V × G)}{env e1 e2:En}{g g1 g2 g3:G}{v x y z:V}{vs us:List V}{f:Fn}{a b c e elt:E}{es:List E}{s:S}{ss b1 b2:List S}{r:Option (Fl × En × G)}{i k:Nat}
theorem b8 {args:List V}(h:dE 10000 (C n) (tbl f).body (args.map (λv=>some (.val v))++List.replicate ((tbl f).nv - (tbl f).np) none) g=some (.ret v,e1,g1)) (hl:args.length=(tbl f).np:=by rfl):C (n+1) f args g=some (v,g1):=(if_pos hl).trans (bL h rfl)
theorem jq {args:List V}(h:dE 10000 (C n) (tbl f).body (args.map (λv=>some (.val v))++List.replicate ((tbl f).nv - (tbl f).np) none) g=some (.nxt,e1,g1)) (hl:args.length=(tbl f).np:=by rfl):C (n+1) f args g=some (.none,g1):=(if_pos hl).trans (bL h rfl)
theorem bF (h:s W cf env g=some (.nxt,e1,g1)) (k:dE W cf ss e1 g1=r):dE W cf (s::ss) env g=r:=bL h k
theorem bS (h:s W cf env g=some (.ret v,e1,g1)):dE W cf (s::ss) env g=some (.ret v,e1,g1):=bL h rfl
theorem bQ (h:s W cf env g=r):dE W cf [s] env g=r:=by
 rcases r with _ | ⟨_ | _,_,_⟩
 ·exact congrArg (Option.bind · _) h
 ·exact bL h rfl
 ·exact bL h rfl
theorem cY (h:e cf env g=some (v,g1)):(S.ret e) W cf env g=some (.ret v,env,g1):=bL h rfl
theorem cV (h:e cf env g=some (v,g1)):(S.asg i e) W cf env g=some (.nxt,env.set i (some (.val v)),g1):=bL h rfl
theorem iA {j:Nat}(h1:a cf env g=some (x,g1)) (h2:b cf env g1=some (y,g2)):(S.asgs [i,j] [.val a,.val b]) W cf env g=some (.nxt,(env.set i (some (.val x))).set j (some (.val y)),g2):=(if_pos rfl).trans (bL (bL (bL h1 rfl) (bL (bL (bL h2 rfl) (bL rfl rfl)) rfl)) rfl)
theorem eV (h:c cf env g=some (.bool true,g1)) (k:dE W cf b1 env g1=r):(S.iff c b1 b2) W cf env g=r:=cG h k
theorem cP (h:c cf env g=some (.bool false,g1)) (k:dE W cf b2 env g1=r):(S.iff c b1 b2) W cf env g=r:=cG h k
theorem dj {tg:List Nat}{kd:nX}{its:List (List V)}(h1:a cf env g=some (x,g1)) (h2:b cf env g1=some (y,g2)) (h3:cJ kd tg.length x y=some its) (h4:gG (dE W cf b1) tg its env g2=r):(S.for tg kd a b b1) W cf env g=r:=bL h1 (bL h2 (bL h3 h4))
theorem mD (h:e cf env g=some (v,g1)):(S.expr e) W cf env g=some (.nxt,env,g1):=bL h rfl
theorem dh {b:En->G->Option (Fl × En × G)}{tg:List Nat}{it:List V}{its:List (List V)}(h:b (bZ env tg it) g=some (.nxt,e1,g1)) (k:gG b tg its e1 g1=r):gG b tg (it::its) env g=r:=bL h k
theorem lP {b:En->G->Option (Fl × En × G)}{tg:List Nat}{it:List V}{its:List (List V)}(h:b (bZ env tg it) g=some (.ret v,e1,g1)):gG b tg (it::its) env g=some (.ret v,e1,g1):=bL h rfl
theorem ca (h:e cf env g=some (v,g1)) (k:jL cf es env g1=some (vs,g2)):jL cf (e::es) env g=some (v::vs,g2):=bL h (bL k rfl)
theorem cO (h:e cf env g=some (v,g1)):jL cf [e] env g=some ([v],g1):=bL h rfl
theorem bO (h:jL cf es env g=some (vs,g1)) (k:cf f vs g1=some (v,g2)):(E.call f es) cf env g=some (v,g2):=bL h k
theorem ck {c:Nat}(h0:a cf env g=some (x,g1)) (hi:jV g1 c x=true) (h:jL cf es env g1=some (vs,g2)) (k:cf f (x::vs) g2=some (v,g3)):(E.meth c f a es) cf env g=some (v,g3):=bL h0 ((if_pos hi).trans (bL h k))
theorem l8 {c:Nat}(h:jL cf es env g=some (vs,g1)) (k:o6 cf c f vs g1=some (v,g2)):(E.new c f es) cf env g=some (v,g2):=bL h k
theorem cF {op:BK}(h1:a cf env g=some (x,g1)) (h2:b cf env g1=some (y,g2)) (h3:mz op x y=some z):(E.bin op a b) cf env g=some (z,g2):=bL h1 (bL h2 (bL h3 rfl))
theorem cN {op:A9}(h1:a cf env g=some (x,g1)) (h2:b cf env g1=some (y,g2)) (h3:l7 op x y=some z):(E.cmp op a b) cf env g=some (z,g2):=bL h1 (bL h2 (bL h3 rfl))
theorem Ai (h1:a cf env g=some (x,g1)) (h2:b cf env g1=some (y,g2)) (h3:Bp g2 x y=some z):(E.idx a b) cf env g=some (z,g2):=bL h1 (bL h2 (bL h3 rfl))
theorem j6 (h:jL cf es env g=some (vs,g1)) (hl:vs.length<=lim):(E.tup es) cf env g=some (.tup vs,g1):=bL h (bL (if_pos hl) rfl)
theorem Ei (h:jL cf es env g=some (vs,g1)) (hl:vs.length<=lim):(E.lst es) cf env g=some (.lst vs,g1):=bL h (bL (if_pos hl) rfl)
theorem cB (h:e cf env g=some (x,g1)) (hs:gj x=some vs):(E.tupleOf e) cf env g=some (.tup vs,g1):=bL h (bL (bL hs rfl) rfl)
theorem yo (h:e cf env g=some (x,g1)) (hs:gj x=some vs):(E.listOf e) cf env g=some (.lst vs,g1):=bL h (bL (bL hs rfl) rfl)
theorem ub (h:e cf env g=some (x,g1)) (hs:yO x=some y):(E.len e) cf env g=some (y,g1):=bL h (bL hs rfl)
theorem pc (h:a cf env g=some (.bool false,g1)):(E.and a b) cf env g=some (.bool false,g1):=cG h rfl
theorem yn {t:Bool}(h:a cf env g=some (.bool true,g1)) (k:b cf env g1=some (.bool t,g2)):(E.and a b) cf env g=some (.bool t,g2):=cG h (cG (k:=λu g=>some (V.bool u,g)) k rfl)
theorem xl (h:a cf env g=some (.bool true,g1)):(E.or a b) cf env g=some (.bool true,g1):=cG h rfl
theorem iI {t:Bool}(h:a cf env g=some (.bool false,g1)) (k:b cf env g1=some (.bool t,g2)):(E.or a b) cf env g=some (.bool t,g2):=cG h (cG (k:=λu g=>some (V.bool u,g)) k rfl)
theorem pI {t:Bool}(h:a cf env g=some (.bool t,g1)):(E.not a) cf env g=some (.bool (!t),g1):=cG h rfl
theorem oY {o:Option (V × G)}(h:c cf env g=some (.bool true,g1)) (k:a cf env g1=o):(E.ite c a b) cf env g=o:=cG h k
theorem wF {o:Option (V × G)}(h:c cf env g=some (.bool false,g1)) (k:b cf env g1=o):(E.ite c a b) cf env g=o:=cG h k
theorem cy {tg:List Nat}{kd:nX}{its:List (List V)}{cond:Option E}(h1:a cf env g=some (x,g1)) (h2:b cf env g1=some (y,g2)) (h3:cJ kd tg.length x y=some its) (h4:eU (λit=>fV (elt cf) (rF cf cond) (bZ env tg it)) its g2=some (vs,g3)):
  (E.comp elt tg kd a b cond) cf env g=some (.lst vs,g3):=bL h1 (bL h2 (bL h3 (bL h4 rfl)))
theorem cw {α:Type}{f:α->G->Option (List V × G)}{x:α}{xs:List α}(h:f x g=some (vs,g1)) (k:eU f xs g1=some (us,g2)):eU f (x::xs) g=some (vs++us,g2):=bL h (bL k rfl)
theorem eh {f:En->G->Option (V × G)}(h:f env g=some (v,g1)):fV f (rF cf none) env g=some ([v],g1):=bL (o:=f env g) h rfl
theorem CO {f:En->G->Option (V × G)}(hc:c cf env g=some (.bool true,g1)) (h:f env g1=some (v,g2)):fV f (rF cf (some c)) env g=some ([v],g2):=cG hc (bL h rfl)
theorem AK {f:En->G->Option (V × G)}(hc:c cf env g=some (.bool false,g1)):fV f (rF cf (some c)) env g=some ([],g1):=cG hc rfl
theorem fB {α β:Type}{f:α->G->Option (List V × G)}{q:β->α}{φ:β->V}:∀ {xs:List β},(∀ x∈xs,f (q x) g=some ([φ x],g))->eU f (xs.map q) g=some (xs.map φ,g)
 | [],_=>rfl
 | x::xs,h=>cw (h x aa) (fB λy hy=>h y (ai _ hy))
theorem uA {α β:Type}{f:α->G->Option (List V × G)}{q:β->α}:∀ {xs:List β},(∀ x∈xs,f (q x) g=some ([],g))->eU f (xs.map q) g=some ([],g)
 | [],_=>rfl
 | x::xs,h=>cw (h x aa) (uA λy hy=>h y (ai _ hy))
theorem Tm.tup (h:Tm n v):∃ l,v=.tup l:=by cases h <;> exact ⟨_,rfl⟩
theorem lU {n m:Nat}(hx:Tm n x) (hy:Tm m y) (h:n<=20/\m<=20):∃ t,l7 .eq x y=some (.bool t)/\l7 .ne x y=some (.bool !t)/\(t=true↔x=y):=by
 obtain ⟨t,e,i⟩:=D9 (hx.up h.1) (hy.up h.2) (ak 20)
 obtain ⟨l,rfl⟩:=hx.tup
 exact ⟨t,bL e rfl,bL e rfl,i⟩
end
section
variable {n m:Nat}{g:G}{v x y:V}
theorem da (h:Tm m v):C (n+1) .isVar [v] g=some (.bool false,g):=by cases h <;> rfl
noncomputable abbrev again (s:E) (f:Fn):E:=E.bin .add s (E.tupleOf (eK (.call f [x2,x1]) 2 (cI x0)))
theorem u4 {D:V}(h:Tm m v):C (n+m+1) .placed [v,D] g=some (v,g):=by
 have st:∀ {v:V}{m k:Nat}{w:V},Tm m v->again (E.tup [hd x0]) .placed (C (k+1)) [some (.val v),some (.val D),none] g=some (w,g)->C (k+2) .placed [v,D] g=some (w,g):=λh q=>
  b8 (bS (eV (pI (bO rfl (da h))) (bQ (cY q))))
 induction h with
 | @a m=>exact st (.a (n:=m)) rfl
 | @b m=>exact st (.b (n:=m)) rfl
 | f h i=>exact st (.f h) (cF rfl (cB (cy rfl rfl rfl (cw (eh (bO rfl i)) rfl)) rfl) rfl)
 | g h i=>exact st (.g h) (cF rfl (cB (cy rfl rfl rfl (cw (eh (bO rfl i)) rfl)) rfl) rfl)
 | h h h' i j=>exact st (.h h h') (cF rfl (cB (cy rfl rfl rfl (cw (eh (bO rfl i)) (cw (eh (bO rfl j)) rfl))) rfl) rfl)
theorem sZ (h:Tm m v):C (n+m+1) .renamed [v,.dct [] []] g=some (v,g):=by
 have st:∀ {v:V}{k:Nat}{w:V},again (E.tup [.dgetD (.var 1) (hd x0) (hd x0)]) .renamed (C k) [some (.val v),some (.val (.dct [] [])),none] g=some (w,g)->C (k+1) .renamed [v,.dct [] []] g=some (w,g):=λq=>b8 (bS (cY q))
 induction h with
 | a=>exact st rfl
 | b=>exact st rfl
 | f h i=>exact st (cF rfl (cB (cy rfl rfl rfl (cw (eh (bO rfl i)) rfl)) rfl) rfl)
 | g h i=>exact st (cF rfl (cB (cy rfl rfl rfl (cw (eh (bO rfl i)) rfl)) rfl) rfl)
 | h h h' i j=>exact st (cF rfl (cB (cy rfl rfl rfl (cw (eh (bO rfl i)) (cw (eh (bO rfl j)) rfl))) rfl) rfl)
theorem pF {D:V}(h:Tm m v):C (n+m+1) .named [v,D] g=some (v,g):=by
 have st:∀ {v:V}{m k:Nat}{w:V},Tm m v->again (BQ x0) .named (C k) [some (.val v),some (.val D),none] g=some (w,g)->C (k+1) .named [v,D] g=some (w,g):=λh q=>by
  cases h <;> exact b8 (bF (cP rfl rfl) (bS (cY q)))
 induction h with
 | @a m=>exact st (.a (n:=m)) rfl
 | @b m=>exact st (.b (n:=m)) rfl
 | f h i=>exact st (.f h) (cF rfl (cB (cy rfl rfl rfl (cw (eh (bO rfl i)) rfl)) rfl) rfl)
 | g h i=>exact st (.g h) (cF rfl (cB (cy rfl rfl rfl (cw (eh (bO rfl i)) rfl)) rfl) rfl)
 | h h h' i j=>exact st (.h h h') (cF rfl (cB (cy rfl rfl rfl (cw (eh (bO rfl i)) (cw (eh (bO rfl j)) rfl))) rfl) rfl)
theorem xS {D:V}(h:Tm m x) (k:Tm m y):C (n+m+2) .named [.tup [.str vP,x,y],D] g=some (.tup [.str vP,x,y],g):=
 b8 (bF (cP rfl rfl) (bS (cY (cF rfl (cB (cy rfl rfl rfl (cw (eh (bO rfl (pF h))) (cw (eh (bO rfl (pF k))) rfl))) rfl) rfl))))
end
noncomputable abbrev fG (p:List Nat):V:=.tup (p.map λk:Nat=>.int (k:Int))
noncomputable abbrev vt (q:List Nat × V):V:=.tup [fG q.1,q.2]
noncomputable abbrev at_ (i:Nat) (l:List (List Nat × V)):List (List Nat × V):=l.map λq=>(i::q.1,q.2)
noncomputable def iC:Nat->V->List (List Nat × V)
 | n+1,.tup [s]=>[([],.tup [s])]
 | n+1,.tup [s,x]=>([],.tup [s,x])::at_ 0 (iC n x)
 | n+1,.tup [s,x,y]=>([],.tup [s,x,y])::(at_ 0 (iC n x)++at_ 1 (iC n y))
 | _,_=>[]
inductive Pt (u:V):List Nat->V->Prop
 | here:Pt u [] u
 | f {p x}:Pt u p x->Pt u (0::p) (tF x)
 | g {p x}:Pt u p x->Pt u (0::p) (tG x)
 | h1 {p x y}:Pt u p x->Pt u (0::p) (tH x y)
 | h2 {p x y}:Pt u p y->Pt u (1::p) (tH x y)
theorem Pt.sub {u v:V}{p:List Nat}(h:Pt u p v):dN u v:=by
 induction h with
 | here=>exact .refl
 | f _ i=>exact .kid aa i
 | g _ i=>exact .kid aa i
 | h1 _ i=>exact .kid aa i
 | h2 _ i=>exact .kid (ai _ aa) i
theorem xL {i:Nat}{l:List (List Nat × V)}{q:List Nat × V}(h:q∈at_ i l):∃ p,q.1=i::p/\(p,q.2)∈l:=by
 obtain ⟨r,hr,rfl⟩:=bx.mp h
 exact ⟨r.1,rfl,hr⟩
theorem lq {m:Nat}{v:V}(h:Tm m v):∀ q∈iC m v,Pt q.2 q.1 v/\q.1.length < m:=by
 have one:∀ {q:List Nat × V}{v:V}{m:Nat},q=([],v)->Pt q.2 q.1 v/\q.1.length < m+1:=λe=>by rw [e]; exact ⟨.here,Nat.succ_pos _⟩
 have rest:∀ {l:List (List Nat × V)}{i m:Nat}{x v:V}{q:List Nat × V},(∀ q∈l,Pt q.2 q.1 x/\q.1.length < m)->(∀ p u,Pt u p x->Pt u (i::p) v)->q∈at_ i l->Pt q.2 q.1 v/\q.1.length < m+1:=λh k m=>by
  obtain ⟨p,e,hm⟩:=xL m
  rw [e]
  exact ⟨k _ _ (h _ hm).1,Nat.succ_lt_succ (h _ hm).2⟩
 induction h with
 | a=>intro q hq; exact one (ay.mp hq)
 | b=>intro q hq; exact one (ay.mp hq)
 | f h i=>intro q hq; exact (az.mp hq).elim one (rest i λzz zz=>.f)
 | g h i=>intro q hq; exact (az.mp hq).elim one (rest i λzz zz=>.g)
 | h h k i j=>intro q hq; exact (az.mp hq).elim one λhq=>(aU.mp hq).elim (rest i λzz zz=>.h1) (rest j λzz zz=>.h2)
theorem fM {m:Nat}{v:V}(h:Tm m v):(iC m v).length+1<=2 ^ m:=by
 have pos:=λn=>Nat.two_pow_pos n
 induction h with
 | @a n=>have:=pos n; rw [Nat.pow_succ]; show 1+1<=_; omega
 | @b n=>have:=pos n; rw [Nat.pow_succ]; show 1+1<=_; omega
 | @f n x h i=>rw [Nat.pow_succ]; show (at_ 0 (iC n x)).length+1+1<=_; rw [aw]; omega
 | @g n x h i=>rw [Nat.pow_succ]; show (at_ 0 (iC n x)).length+1+1<=_; rw [aw]; omega
 | @h n x y h k i j=>rw [Nat.pow_succ]; show (at_ 0 (iC n x)++at_ 1 (iC n y)).length+1+1<=_; rw [aB,aw,aw]; lia
theorem kO {m:Nat}{u v:V}(h:Tm m v) (s:dN u v):∃ p,(p,u)∈iC m v:=by
 have top:∀ {m:Nat}{v:V},Tm m v->([],v)∈iC m v:=λh=>by cases h <;> exact aa
 have low:∀ {i:Nat}{l:List (List Nat × V)}{p:List Nat},(p,u)∈l->(i::p,u)∈at_ i l:=λh=>bx.mpr ⟨_,h,rfl⟩
 induction s generalizing m with
 | refl=>exact ⟨_,top h⟩
 | kid hk s ih=>
  clear s top
  cases h with
  | a=>cases hk
  | b=>cases hk
  | f h=>cases ay.mp hk; obtain ⟨p,hp⟩:=ih h; exact ⟨0::p,ai _ (low hp)⟩
  | g h=>cases ay.mp hk; obtain ⟨p,hp⟩:=ih h; exact ⟨0::p,ai _ (low hp)⟩
  | h h k=>
   rcases az.mp hk with e | e
   ·clear hk
    subst e; obtain ⟨p,hp⟩:=ih h; exact ⟨0::p,ai _ (aP _ (low hp))⟩
   ·clear h hk
    cases ay.mp e; obtain ⟨p,hp⟩:=ih k; exact ⟨1::p,ai _ (aQ _ (low hp))⟩
section
variable {W n m:Nat}{cf:Fn->List V->G->Option (V × G)}{env:En}{g g1:G}{v x y u:V}{e:E}{xs:List V}
theorem oM {k j:Nat}(h:k+1<=2 ^ j) (l:j<=9):k+512<=lim:=by
 have:2 ^ j<=2 ^ 9:=Nat.pow_le_pow_right (by decide) l
 simp only [lim]; lia
theorem iT {β:Type}{a b:β->V}{l:List β}(h:l.length<=lim):cJ .plain 2 (.lst (l.map λq=>.tup [a q,b q])) .none=some (l.map λq=>[a q,b q]):=by
 refine bL (if_pos (by rw [aw]; exact h)) ?_
 clear h
 induction l with
 | nil=>rfl
 | cons q l ih=>exact bL rfl (bL ih rfl)
theorem dL {xs:List V}{q:V}(hs:gj q=some xs):cJ .plain 1 q .none=some (xs.map λx=>[x]):=by
 refine bL hs ?_
 clear hs
 induction xs with
 | nil=>rfl
 | cons q l ih=>exact bL rfl (bL ih rfl)
theorem kA {i:Nat}{sl:bN}(h:env[i]?=some (some sl)):c7 env i=some sl:=bL h rfl
theorem Da {i:Nat}{zs:List V}(h:e cf env g=some (.lst xs,g1)) (h2:env[i]?=some (some (.ol zs))) (hl:zs.length+xs.length<=lim):(S.ext i e) W cf env g=some (.nxt,env.set i (some (.ol (zs++xs))),g1):=bL h (bL rfl (bL (bL (kA h2) rfl) (if_pos hl)))
theorem ul {a b:List V}(h:a.length+b.length<=lim):mz .add (.tup a) (.tup b)=some (.tup (a++b)):=if_pos h
theorem Cu (h:e cf env g=some (.tup xs,g1)) (hl:xs.length<=lim):(BQ e) cf env g=some (.tup (xs.take 1),g1):=
 bL h (bL rfl (bL rfl (bL (bL rfl (if_pos ⟨by decide,by decide,hl⟩)) rfl)))
theorem oZ (h:e cf env g=some (.tup xs,g1)) (hl:xs.length<=lim):(cI e) cf env g=some (.tup (xs.drop 1),g1):=
 bL h (bL rfl (bL rfl (bL (bL rfl (bL rfl (if_pos ⟨rfl,by decide,by decide,hl⟩))) rfl)))
theorem gH {k:Nat}{a0 a2 a3 a4 a5:Option bN}{zs:List V}{l:List (List Nat × V)}(hc:C n .parts [x] g=some (.lst (l.map vt),g)) (hl:l.length+512<=lim) (hz:zs.length<=512) (hp:∀ q∈l,q.1.length < 9):
  dE W (C n) [.ext 1 (.comp (.tup [cK (.tup [x2]) x4,x5]) [4,5] .plain (.call .parts [x3]) .none none)] (bZ [a0,some (.ol zs),a2,a3,a4,a5] [2,3] [.int (k:Int),x]) g =
   some (.nxt,[a0,some (.ol (zs++(at_ k l).map vt)),some (.val (.int k)),some (.val x),a4,a5],g):=by
 have q1:((at_ k l).map vt)=l.map λq=>vt (k::q.1,q.2):=by rw [List.map_map]; rfl
 refine bQ (Da (xs:=l.map λq=>vt (k::q.1,q.2)) (cy (bO rfl hc) rfl (iT (by lia)) (fB λq hq=>eh (j6 (ca (cF rfl rfl (ul ?_)) rfl) (show 2<=lim by decide)))) rfl ?_) |>.trans ?_
 ·rw [aw]; have:=hp q hq; show 1+_<=_; simp only [lim]; lia
 ·rw [aw]; simp only [lim] at hl ⊢; lia
 ·rw [q1]; rfl
theorem gg {k:Nat}{v:V}{zs:List V}{its:List (List V)}(hi:cJ .enum 2 (.tup (bV v)) .none=some its) (h1:(cI x0) (C k) [some (.val v),some (.ol [vt ([],v)]),none,none,none,none] g=some (.tup (bV v),g))
  (h2:∃ a2 a3,gG (dE 10000 (C k) [.ext 1 (.comp (.tup [cK (.tup [x2]) x4,x5]) [4,5] .plain (.call .parts [x3]) .none none)]) [2,3] its [some (.val v),some (.ol [vt ([],v)]),none,none,none,none] g=some (.nxt,[some (.val v),some (.ol zs),a2,a3,none,none],g)):
  C (k+1) .parts [v] g=some (.lst zs,g):=let ⟨a2,a3,h2⟩:=h2; b8 (bF rfl (bF (dj h1 rfl hi h2) (bF rfl (bS rfl))))
theorem nQ {o:Str}{l1 l2:List (List Nat × V)}(h1:C n .parts [x] g=some (.lst (l1.map vt),g)) (h2:C n .parts [y] g=some (.lst (l2.map vt),g)) (b1:l1.length < 256) (b2:l2.length < 256) (p1:∀ q∈l1,q.1.length < 9) (p2:∀ q∈l2,q.1.length < 9):
  C (n+1) .parts [.tup [.str o,x,y]] g=some (.lst (((([],.tup [.str o,x,y]):List Nat × V)::(at_ 0 l1++at_ 1 l2)).map vt),g):=by
 refine (gg (v:=.tup [.str o,x,y]) rfl rfl ⟨_,_,dh (gH h1 (by simp only [lim]; omega) (show 1<=512 by decide) p1) (dh (gH (k:=1) h2 (by simp only [lim]; omega) ?_ p2) rfl)⟩).trans ?_
 ·rw [aB,aw,aw]; show 1+_<=_; omega
 ·rw [List.map_cons,List.map_append]; rfl
theorem gh {m:Nat}{x:V}(h:Tm m x) (l:m<=8):(iC m x).length < 256:=by
 have:=fM h
 have:2 ^ m<=2 ^ 8:=Nat.pow_le_pow_right (by decide) l
 lia
theorem f9 {m:Nat}{x:V}(h:Tm m x) (l:m<=8):∀ q∈iC m x,q.1.length < 9:=λq hq=>by have:=(lq h q hq).2; omega
theorem g9 (h:Tm m v) (l:m<=8):C (n+m+1) .parts [v] g=some (.lst ((iC m v).map vt),g):=by
 have len:∀ {m:Nat}{x:V},Tm m x->m<=8->(iC m x).length+512<=lim:=λh l=>oM (fM h) (by lia)
 induction h with
 | a=>exact gg (v:=tA) rfl rfl ⟨_,_,rfl⟩
 | b=>exact gg (v:=tB) rfl rfl ⟨_,_,rfl⟩
 | f h i=>exact gg (v:=tF _) rfl rfl ⟨_,_,dh (gH (i (by omega)) (len h (by omega)) (show 1<=512 by decide) (f9 h (by omega))) rfl⟩
 | g h i=>exact gg (v:=tG _) rfl rfl ⟨_,_,dh (gH (i (by omega)) (len h (by omega)) (show 1<=512 by decide) (f9 h (by omega))) rfl⟩
 | h h k i j=>exact nQ (i (by omega)) (j (by omega)) (gh h (by omega)) (gh k (by omega)) (f9 h (by omega)) (f9 k (by omega))
end
section
variable {W n m:Nat}{cf:Fn->List V->G->Option (V × G)}{env:En}{g g1 g2:G}{v x y u l r:V}{e:E}{xs:List V}{p:List Nat}
theorem pU (h:Pt l p v) (hl:p.length<=20):∃ v',jD l r p v v'/\C (n+p.length+3) .replaced [v,fG p,r] g=some (v',g):=by
 have st:∀ {i k:Nat}{p:List Nat}{v x x' w:V},p.length+1<=20->C (n+p.length+3) .partAt [v,.tup [.int (i:Int)]] g=some (x,g)->C (n+p.length+3) .replaced [x,fG p,r] g=some (x',g) ->
   (cK (cK (.slc x0 none (some (cK (hd x1) i1))) (.tup [.call .replaced [x3,cI x1,x2]])) (.slc x0 (some (cK (hd x1) i2)) none)) (C (n+p.length+3)) [some (.val v),some (.val (fG (i::p))),some (.val r),some (.val x)] g=some (w,g) ->
   C (n+(p.length+1)+3) .replaced [v,fG (i::p),r] g=some (w,g):=λ{i k p v x x' w} hl h1 h2 h3=>
  b8 (bF (cP rfl rfl) (bF (cV (bO (ca rfl (cO (Cu (xs:=.int (i:Int)::p.map λk:Nat=>.int (k:Int)) rfl (by rw [aO,aw]; simp only [lim]; omega)))) h1)) (bS (cY h3))))
 have mid:∀ {i:Nat}{p:List Nat}{v x x' a b c d:V},p.length+1<=20->C (n+p.length+3) .replaced [x,fG p,r] g=some (x',g)->(E.slc x0 none (some (cK (hd x1) i1))) (C (n+p.length+3)) [some (.val v),some (.val (fG (i::p))),some (.val r),some (.val x)] g=some (a,g) ->
   mz .add a (.tup [x'])=some b->(E.slc x0 (some (cK (hd x1) i2)) none) (C (n+p.length+3)) [some (.val v),some (.val (fG (i::p))),some (.val r),some (.val x)] g=some (c,g)->mz .add b c=some d ->
   (cK (cK (.slc x0 none (some (cK (hd x1) i1))) (.tup [.call .replaced [x3,cI x1,x2]])) (.slc x0 (some (cK (hd x1) i2)) none)) (C (n+p.length+3)) [some (.val v),some (.val (fG (i::p))),some (.val r),some (.val x)] g=some (d,g):=λ{i p v x x' a b c d} hl h1 h2 h3 h4 h5=>
  cF (cF h2 (j6 (cO (bO (ca rfl (ca (oZ (xs:=.int (i:Int)::p.map λk:Nat=>.int (k:Int)) rfl (by rw [aO,aw]; simp only [lim]; omega)) rfl)) h1)) (show 1<=lim by decide)) h3) h4 h5
 induction h with
 | here=>exact ⟨r,.here,b8 (bS (eV rfl (bQ rfl)))⟩
 | f h i=>obtain ⟨x',o,q⟩:=i (by simp only [aO] at hl; omega); exact ⟨_,.f o,st (k:=0) hl rfl q (mid hl q rfl rfl rfl rfl)⟩
 | g h i=>obtain ⟨x',o,q⟩:=i (by simp only [aO] at hl; omega); exact ⟨_,.g o,st (k:=0) hl rfl q (mid hl q rfl rfl rfl rfl)⟩
 | h1 h i=>obtain ⟨x',o,q⟩:=i (by simp only [aO] at hl; omega); exact ⟨_,.h1 o,st (k:=0) hl rfl q (mid hl q rfl rfl rfl rfl)⟩
 | h2 h i=>obtain ⟨x',o,q⟩:=i (by simp only [aO] at hl; omega); exact ⟨_,.h2 o,st (k:=0) hl rfl q (mid hl q rfl rfl rfl rfl)⟩
theorem D8 (h:m<=8):wt m<=255:=yA h
inductive Ws:Nat->List (V × V)->Prop
 | nil:Ws 0 []
 | snoc {N k j ws a b}:Ws N ws->Tm k a->Tm j b->Ws (N+wt k) (ws++[(a,b)])
theorem Ws.len {N:Nat}{ws:List (V × V)}(h:Ws N ws):ws.length<=N:=by
 induction h with
 | nil=>exact ak _
 | snoc _ h _ i=>rw [aB]; exact Nat.add_le_add i (yA (n:=1) h.pos)
noncomputable abbrev dG (p:V × V):V:=.tup [p.1,p.2]
noncomputable abbrev gR (l s:V) (ws:List (V × V)) (a b:Option bN):En:=[some (.val l),some (.val s),some (.val (.dct [] [])),some (.ol (ws.map dG)),a,b]
noncomputable def Al:List (V × V)->Prop
 | []=>True
 | p::r=>p.1=p.2/\Al r
theorem fX {b:List (V × V)}:∀ {a:List (V × V)},Al (a++b)↔Al a/\Al b
 | []=>⟨λh=>⟨trivial,h⟩,λh=>h.2⟩
 | _::_=>⟨λh=>⟨⟨h.1,(fX.mp h.2).1⟩,(fX.mp h.2).2⟩,λh=>⟨h.1.1,fX.mpr ⟨h.1.2,h.2⟩⟩⟩
theorem vS.al {zs:List (V × V)}(t:vS x y zs):(x=y->Al zs)/\(Al zs->x=y):=by
 cases t with
 | a=>exact ⟨λzz=>trivial,λzz=>rfl⟩
 | b=>exact ⟨λzz=>trivial,λzz=>rfl⟩
 | f=>exact ⟨λe=>⟨congrArg (kid 0) e,trivial⟩,λh=>congrArg tF h.1⟩
 | g=>exact ⟨λe=>⟨congrArg (kid 0) e,trivial⟩,λh=>congrArg tG h.1⟩
 | h=>exact ⟨λe=>⟨congrArg (kid 0) e,congrArg (kid 1) e,trivial⟩,λh=>(congrArg (tH · _) h.1).trans (congrArg (tH _) h.2.1)⟩
theorem vS.ws {k j N:Nat}{zs ws:List (V × V)}(t:vS x y zs) (hx:Tm k x) (hy:Tm j y) (h:Ws N ws):∃ M,Ws M (ws++zs)/\M < N+wt k:=by
 obtain ⟨k,rfl,ix⟩:=hx.inv
 obtain ⟨zz,zz,iy⟩:=hy.inv
 clear hx hy
 have lt:N+wt k < N+(2 * wt k+1)/\N+wt k+wt k < N+(2 * wt k+1):=by lia
 cases t with
 | a=>exact ⟨N,(bA ws).symm ▸ h,Nat.lt_add_of_pos_right (Nat.succ_pos _)⟩
 | b=>exact ⟨N,(bA ws).symm ▸ h,Nat.lt_add_of_pos_right (Nat.succ_pos _)⟩
 | f=>exact ⟨_,.snoc h (ix _ (.head _)) (iy _ (.head _)),lt.1⟩
 | g=>exact ⟨_,.snoc h (ix _ (.head _)) (iy _ (.head _)),lt.1⟩
 | h=>exact ⟨_,(List.append_assoc ws [_] [_]).subst (motive:=Ws _) (Ws.snoc (.snoc h (ix _ (.head _)) (iy _ (.head _))) (ix _ (.tail _ (.head _))) (iy _ (.tail _ (.head _)))),lt.2⟩
inductive qE (l s:V) (g:G) (ws:List (V × V)) (x y:V):Option (Fl × En × G)->Prop
 | nxt {zs:List (V × V)}{a b:Option bN}:vS x y zs->qE l s g ws x y (some (.nxt,gR l s (ws++zs) a b,g))
 | ret {e:En}:x≠y->qE l s g ws x y (some (.ret .none,e,g))
def Bt (b:En->G->Option (Fl × En × G)) (l s:V) (g:G):Prop:=∀ {ws:List (V × V)}{x y:V}{k j:Nat}{a4 a5:Option bN},Tm k x->Tm j y->ws.length<=900->qE l s g ws x y (b (gR l s (ws++[(x,y)]) a4 a5) g)
inductive BP (l s:V) (g:G) (P:Prop):Option (Fl × En × G)->Prop
 | eq {a b:Option bN}:P->BP l s g P (some (.nxt,gR l s [] a b,g))
 | ne {e:En}:¬ P->BP l s g P (some (.ret .none,e,g))
theorem BP.imp {P Q:Prop}{r:Option (Fl × En × G)}(o:BP l s g P r) (f:P->Q) (k:Q->P):BP l s g Q r:=by
 cases o with
 | eq h=>exact .eq (f h)
 | ne h=>exact .ne λq=>h (k q)
noncomputable abbrev Ah:E:=.cmp .gt (.lenOwn 3) i0
theorem wU {ws:List (V × V)}{a4 a5:Option bN}(h:ws.length<=900):Ah cf (gR l s (ws++[(x,y)]) a4 a5) g=some (.bool true,g):=by
 have e:((ws++[(x,y)]).map dG).length=ws.length+1:=by rw [aw,aB]; rfl
 refine cN (bL rfl (if_pos ?_)) rfl (congrArg some (congrArg V.bool (be ?_)))
 ·rw [e]; exact aj (aR h) (by decide)
 ·rw [e]; exact Int.ofNat_lt.mpr (Nat.succ_pos _)
theorem kP {c:En->G->Option (V × G)}{b:En->G->Option (Fl × En × G)}{e1:En}(hc:c env g=some (.bool true,g)) (hb:b env g=some (.nxt,e1,g)):eD c b (n+1) env g=eD c b n e1 g:=cG hc (bL hb rfl)
theorem yK {c:En->G->Option (V × G)}{b:En->G->Option (Fl × En × G)}{e1:En}(hc:c env g=some (.bool true,g)) (hb:b env g=some (.ret v,e1,g)):eD c b (n+1) env g=some (.ret v,e1,g):=cG hc (bL hb rfl)
theorem lX {b:En->G->Option (Fl × En × G)}(T:Bt b l s g):∀ (gQ:Nat) {N:Nat}{ws:List (V × V)}{a4 a5:Option bN},Ws N ws->N<=900->N < gQ->BP l s g (Al ws) (eD (Ah cf) b gQ (gR l s ws a4 a5) g):=by
 intro gQ
 induction gQ with
 | zero=>exact λzz zz h=>absurd h (aY _)
 | succ gQ ih=>
  intro N ws a4 a5 h hb hf
  cases h with
  | nil=>exact .eq trivial
  | @snoc M k j ws x y h hx hy=>
   have hl:ws.length<=900:=aj h.len (aj (bn _ _) hb)
   have tr:=T (a4:=a4) (a5:=a5) hx hy hl
   generalize hr:b (gR l s (ws++[(x,y)]) a4 a5) g=r at tr
   cases tr with
   | nxt t=>
    obtain ⟨M',w,lt⟩:=t.ws hx hy h
    rw [kP (wU hl) hr]
    exact (ih w (by omega) (by omega)).imp (λa=>fX.mpr ⟨(fX.mp a).1,t.al.2 (fX.mp a).2,trivial⟩) λa=>fX.mpr ⟨(fX.mp a).1,t.al.1 (fX.mp a).2.1⟩
   | ret ne=>rw [yK (wU hl) hr]; exact .ne λa=>ne (fX.mp a).2.1
theorem Ws.one {k j:Nat}{a b:V}(h:Tm k a) (h':Tm j b):Ws (wt k) [(a,b)]:=Nat.zero_add (wt k) ▸ .snoc .nil h h'
end
section
variable {W n m k j:Nat}{cf:Fn->List V->G->Option (V × G)}{env:En}{g g1 g2:G}{v x y u l r s:V}{e a b:E}{xs ys:List V}{p:List Nat}
noncomputable abbrev B1 (l s x y:V) (q:List V):En:=[some (.val l),some (.val s),some (.val (.dct [] [])),some (.ol q),some (.val x),some (.val y)]
theorem yP {ws:List (V × V)}:Ap ((ws++[(x,y)]).map dG)=some (x,y):=by
 rw [List.map_append]; exact bL List.getLast?_concat rfl
theorem Ar {ws:List (V × V)}{a4 a5:Option bN}(h:ws.length<=900):(S.popUnp 4 5 3) W cf (gR l s (ws++[(x,y)]) a4 a5) g=some (.nxt,gR l s ws (some (.val x)) (some (.val y)),g):=by
 have e:((ws++[(x,y)]).map dG).dropLast=ws.map dG:=by rw [List.map_append]; exact List.dropLast_concat
 refine (bL rfl (bL yP (if_pos ?_))).trans (congrArg (λq=>some (Fl.nxt,B1 l s x y q,g)) e)
 rw [aw,aB]; exact aj (aR h) (by decide)
theorem xX {i:Nat}{zs:List V}(h1:a cf env g=some (.tup xs,g1)) (h2:b cf env g1=some (.tup ys,g2)) (h3:env[i]?=some (some (.ol zs))) (hl:zs.length+xs.length<=lim/\ys.length=xs.length):(S.extZip i a b) W cf env g=some (.nxt,env.set i (some (.ol (zs++(iJ xs ys).map .tup))),g2):=
 bL h1 (bL rfl (bL h2 (bL rfl (bL (bL (kA h3) rfl) (if_pos hl)))))
noncomputable abbrev yy:E:=.or (.cmp .ne (hd x4) (hd x5)) (.cmp .ne (.len x4) (.len x5))
noncomputable abbrev nu:List S:=[.iff yy [.ret .none] [.extZip 3 (cI x4) (cI x5)]]
theorem Bf {c c':Nat}(ne:c≠c'):l7 .ne (.str ⟨#[c]⟩) (.str ⟨#[c']⟩)=some (.bool true):=congrArg (λt=>some (V.bool (!t))) (bq λh:(⟨#[c]⟩:Str)=⟨#[c']⟩=>ne (congrArg (λs:Str=>s.cps.toList.headD 0) h))
theorem qz {ws:List (V × V)}(hx:Tm k x) (hy:Tm j y) (hl:ws.length<=900):qE l s g ws x y (dE W cf nu (gR l s ws (some (.val x)) (some (.val y))) g):=by
 rcases pg hx hy with ⟨zs,t⟩ | ne
 ·have good:∀ {x y:V}{ks ks':List V}{zs:List (V × V)},vS x y zs->ks.length<=2/\ks'.length=ks.length->yy cf (gR l s ws (some (.val x)) (some (.val y))) g=some (.bool false,g)->(cI x4) cf (gR l s ws (some (.val x)) (some (.val y))) g=some (.tup ks,g) ->
    (cI x5) cf (gR l s ws (some (.val x)) (some (.val y))) g=some (.tup ks',g)->(iJ ks ks').map V.tup=zs.map dG->qE l s g ws x y (dE W cf nu (gR l s ws (some (.val x)) (some (.val y))) g):=λ{x y ks ks' zs} t h1 h3 h4 h5 h6=>by
   have e:dE W cf nu (gR l s ws (some (.val x)) (some (.val y))) g=some (.nxt,gR l s (ws++zs) (some (.val x)) (some (.val y)),g):=bQ (cP h3 (bQ ((xX h4 h5 rfl ⟨aj (Nat.add_le_add (aw dG ▸ hl) h1.1) (by decide),h1.2⟩).trans
    (congrArg (λq=>some (Fl.nxt,B1 l s x y q,g)) ((congrArg (_++·) h6).trans List.map_append.symm)))))
   rw [e]; exact .nxt t
  clear hx hy
  cases t with
  | a=>exact good .a (by decide) rfl rfl rfl rfl
  | b=>exact good .b (by decide) rfl rfl rfl rfl
  | @f x y=>exact good (ks:=[x]) (ks':=[y]) .f ⟨Nat.le_succ 1,rfl⟩ rfl rfl rfl rfl
  | @g x y=>exact good (ks:=[x]) (ks':=[y]) .g ⟨Nat.le_succ 1,rfl⟩ rfl rfl rfl rfl
  | @h x x' y y'=>exact good (ks:=[x,x']) (ks':=[y,y']) .h ⟨ak 2,rfl⟩ rfl rfl rfl rfl
 ·have e:dE W cf nu (gR l s ws (some (.val x)) (some (.val y))) g=some (.ret .none,gR l s ws (some (.val x)) (some (.val y)),g):=by
   rw [hx.node,hy.node]
   exact bS (eV (xl (cN rfl rfl (Bf ne))) (bQ rfl))
  rw [e]; exact .ret λe=>ne (congrArg ox e)
theorem oB:Bt (dE 10000 (C (n+1)) [.popUnp 4 5 3,.iff (.call .isVar [x4]) [.stuck] nu]) l s g:=λhx hy hl=>by
 rw [bF (Ar hl) (bQ (cP (bO rfl (da hx)) rfl))]; exact qz hx hy hl
theorem jK {c:E}{b:List S}{r:Option (Fl × En × G)}(h:eD (c cf) (dE W cf b) W env g=r):(S.whl c b) W cf env g=r:=h
theorem sE (hx:Tm m x) (hy:Tm k y) (hm:m<=8):(x=y->C (n+2) .matched [x,y] g=some (.dct [] [],g))/\(x≠y->C (n+2) .matched [x,y] g=some (.none,g)):=by
 have w:=D8 hm
 have p:=lX (cf:=C (n+1)) (oB (n:=n) (l:=x) (s:=y) (g:=g)) 10000 (a4:=none) (a5:=none) (Ws.one hx hy) (by omega) (by omega)
 generalize hr:eD _ _ _ _ _=r at p
 cases p with
 | eq h=>exact ⟨λzz=>b8 (bF rfl (bF (jK hr) (bS rfl))),λn=>absurd h.1 n⟩
 | ne h=>exact ⟨λe=>absurd ⟨e,trivial⟩ h,λzz=>b8 (bF rfl (bS (jK hr)))⟩
theorem kh (h:Tm m v):C (n+2) .followed [v,.dct [] []] g=some (v,g):=
 b8 (bF (jK (cG (pc (bO rfl (da h))) rfl)) (bS rfl))
theorem sU:Bt (dE 10000 (C (n+2)) [.popUnp 4 5 3,.asgs [4,5] [.val (.call .followed [x4,x2]),.val (.call .followed [x5,x2])],.iff (.and (.call .isVar [x5]) (.not (.call .isVar [x4]))) [.stuck] [],.iff (.call .isVar [x4]) [.stuck] nu]) l s g:=λ{ws x y k j a4 a5} hx hy hl=>by
 have asg:(S.asgs [4,5] [.val (.call .followed [x4,x2]),.val (.call .followed [x5,x2])]) 10000 (C (n+2)) (gR l s ws (some (.val x)) (some (.val y))) g=some (.nxt,gR l s ws (some (.val x)) (some (.val y)),g):=
  iA (bO rfl (kh hx)) (bO rfl (kh hy))
 rw [bF (Ar hl) (bF asg (bF (cP (pc (bO rfl (da hy))) rfl) (bQ (cP (bO rfl (da hx)) rfl))))]; exact qz hx hy hl
theorem sj (hx:Tm m x) (hy:Tm k y) (hm:m<=8) (ne:x≠y):C (n+4) .unified [x,y] g=some (.none,g):=by
 have w:=D8 hm
 have p:=lX (cf:=C (n+2)) (sU (n:=n) (l:=x) (s:=y) (g:=g)) 10000 (a4:=none) (a5:=none) (Ws.one hx hy) (by omega) (by omega)
 generalize hr:eD _ _ _ _ _=r at p
 cases p with
 | eq h=>exact absurd h.1 ne
 | ne h=>exact b8 (bF (cV (bO rfl (b8 (bF rfl (bS (jK hr)))))) (bS (cY (oY rfl rfl))))
theorem pX (h:e cf env g=some (.lst [],g1)):(E.sortedSet e) cf env g=some (.lst [],g1):=bL h rfl
theorem xp {ks vs:List V}(hl:xs.length<=lim) (hd:di xs ([],[])=some (ks,vs)) (ha:qk ks=true):pY (.lst xs)=some (ks,vs):=bL rfl ((if_pos hl).trans (bL hd (if_pos ha)))
theorem my {ks vs:List V}(h:e cf env g=some (.lst xs,g1)) (hl:xs.length<=lim) (hd:di xs ([],[])=some (ks,vs)) (ha:qk ks=true):(E.dictOf e) cf env g=some (.dct ks vs,g1):=bL h (bL (bL (xp hl hd ha) rfl) rfl)
theorem ee (h:Tm m v) (hm:m<=8):C (n+m+2) .variables [v] g=some (.lst [],g):=by
 have len:=oM (fM h) (by lia:m<=9)
 have q:(E.comp (hd x2) [1,2] .plain (.call .parts [x0]) .none (some (.call .isVar [x2]))) (C (n+m+1)) [some (.val v),none,none] g=some (.lst [],g):=
  cy (bO rfl (g9 h hm)) rfl (iT (l:=iC m v) (a:=λq=>fG q.1) (b:=λq=>q.2) (by lia)) (uA λq hq=>AK (bO rfl (da ((lq h q hq).1.sub.tm h))))
 exact b8 (bS (cY (pX q)))
theorem pL (h:Tm m v) (hm:m<=8):C (n+m+3) .apart [v,u] g=some (v,g):=
 b8 (bS (cY (bO (ca rfl (cO (my (cy (bO rfl (ee h hm)) rfl rfl rfl) (aZ _) rfl rfl))) (sZ (n:=n+1) h |> λq=>by rw [show n+m+2=n+1+m+1 by lia]; exact q))))
theorem sx:C (n+1) .markFor [.lst [],.lst []] g=some (.str AS,g):=rfl
end
section
variable {W n m k j:Nat}{cf:Fn->List V->G->Option (V × G)}{env:En}{g g1 g2:G}{v x y u l r s:V}{e a b:E}{xs ys:List V}{p:List Nat}
inductive AD (g:G) (I:En->Prop) (No:Prop) (Yes:V->Prop) (r:Option (Fl × En × G)):Prop
 | nxt {e:En}:r=some (.nxt,e,g)->I e->No->AD g I No Yes r
 | ret {w:V}{e:En}:r=some (.ret w,e,g)->Yes w->AD g I No Yes r
theorem jz {α:Type}{b:En->G->Option (Fl × En × G)}{tg:List Nat}{q:α->List V}{I:En->Prop}{No:α->Prop}{Yes:V->Prop}:∀ {l:List α}{env:En},(∀ x∈l,∀ env,I env->AD g I (No x) Yes (b (bZ env tg (q x)) g))->I env ->
  AD g I (∀ x∈l,No x) Yes (gG b tg (l.map q) env g)
 | [],env,_,i=>.nxt rfl i λzz h=>nomatch h
 | x::l,env,h,i=>match h x (.head _) env i with
  | .ret e y=>.ret (lP e) y
  | .nxt e i n=>match jz (λy hy=>h y (.tail _ hy)) i with
   | .ret e2 y=>.ret (dh e e2) y
   | .nxt e2 i m=>.nxt (dh e e2) i (ao.mpr ⟨n,m⟩)
noncomputable abbrev bY (q:V × V × V):V:=.obj 0 [q.1,q.2.1,q.2.2,.tup []]
noncomputable abbrev dJ (Rs:List (V × V × V)):V:=.obj 1 [.lst (Rs.map bY)]
def jH (Rs:List (V × V × V)):Prop:=Rs.length<=100/\∀ q∈Rs,(Tm 8 q.2.1/\Tm 8 q.2.2)/\∃ s,q.1=.str s
noncomputable abbrev sh:List S:=[.asg 5 (.call .matched [eL x4,x3]),.iff (.cmp .isNN x5 .none) [.asg 6 (.tup [x2,.str AJ,.attr 0 0 x4,.tupleOf (.sortedItems (.var 5)),.bool false]),.ret (.tup [x6,.call .replaced [x1,x2,.call .placed [eR x4,x5]]])] []]
noncomputable abbrev qf (me v:V) (a2 a3 a4 a5 a6:Option bN):En:=[some (.val me),some (.val v),a2,a3,a4,a5,a6]
inductive jb (Rs:List (V × V × V)) (v:V):V->Prop
 | mk {q:V × V × V}{p:List Nat}{v':V}{st:List V}:q∈Rs->jD q.2.1 q.2.2 p v v'->st.length=5->jb Rs v (.tup [.tup st,v'])
inductive pQ (Rs:List (V × V × V)) (v:V) (g:G) (r:Option (V × G)):Prop
 | no:r=some (.none,g)->(∀ q∈Rs,¬ dN q.2.1 v)->pQ Rs v g r
 | yes {w:V}:r=some (w,g)->jb Rs v w->pQ Rs v g r
theorem w3 {Rs:List (V × V × V)}{me:V}{q:V × V × V}{a4 a5 a6:Option bN}(hR:jH Rs) (hv:Tm 8 v) (hp:Pt u p v) (hl:p.length < 8) (hq:q∈Rs):
  AD g (λenv=>∃ a4 a5 a6,env=qf me v (some (.val (fG p))) (some (.val u)) a4 a5 a6) (q.2.1≠u) (jb Rs v) (dE 10000 (C (n+12)) sh (bZ (qf me v (some (.val (fG p))) (some (.val u)) a4 a5 a6) [4] [bY q]) g):=by
 have t:=(hR.2 q hq).1
 have M:=sE (n:=n+10) (g:=g) t.1 (hp.sub.tm hv) (ak 8)
 by_cases e:q.2.1=u
 ·obtain ⟨v',o,hr⟩:=pU (n:=n+9 - p.length) (g:=g) (r:=q.2.2) (e ▸ hp) (aj (Nat.le_of_lt hl) (by decide))
  rw [Nat.sub_add_cancel (aj (Nat.le_of_lt hl) (Nat.le_add_left 8 (n+1)))] at hr
  exact .ret (bF (cV (bO rfl (M.1 e))) (bQ (eV rfl (bF (cV rfl) (bS (cY (j6 (ca rfl (cO (bO (ca rfl (ca rfl (cO (bO rfl (u4 (n:=n+3) t.2))))) hr))) (show 2<=lim by decide)))))))) (.mk hq o rfl)
 ·exact .nxt (bF (cV (bO rfl (M.2 e))) (bQ (cP rfl rfl))) ⟨_,_,_,rfl⟩ e
theorem iq {Rs:List (V × V × V)}(h:Rs.length<=100):gj (.lst (Rs.map bY))=some (Rs.map bY):=if_pos (by rw [aw]; exact aj h (by decide))
theorem km {Rs:List (V × V × V)}(h:Rs.length<=100):cJ .plain 1 (.lst (Rs.map bY)) .none=some (Rs.map λq=>[bY q]):=(dL (iq h)).trans (congrArg some List.map_map)
noncomputable abbrev tC:S:=fw [4] (.attr 1 0 x0) sh
theorem yW {Rs:List (V × V × V)}{z:List Nat × V}{a2 a3 a4 a5 a6:Option bN}(hR:jH Rs) (hv:Tm 8 v) (hz:z∈iC 8 v):
  AD g (λenv=>∃ a2 a3 a4 a5 a6,env=qf (dJ Rs) v a2 a3 a4 a5 a6) (∀ q∈Rs,q.2.1≠z.2) (jb Rs v) (dE 10000 (C (n+12)) [tC] (bZ (qf (dJ Rs) v a2 a3 a4 a5 a6) [2,3] [fG z.1,z.2]) g):=by
 have P:=lq hv z hz
 have f:=jz (b:=dE 10000 (C (n+12)) sh) (tg:=[4]) (I:=λenv=>∃ a4 a5 a6,env=qf (dJ Rs) v (some (.val (fG z.1))) (some (.val z.2)) a4 a5 a6) (λq hq env ⟨a4,a5,a6,i⟩=>i ▸ w3 (n:=n) (g:=g) (me:=dJ Rs) hR hv P.1 P.2 hq) ⟨a4,a5,a6,rfl⟩
 cases f with
 | nxt e i n=>obtain ⟨zz,zz,zz,i⟩:=i; exact .nxt (bQ (dj rfl rfl (km hR.1) e)) ⟨_,_,_,_,_,i⟩ n
 | ret e y=>exact .ret (bQ (dj rfl rfl (km hR.1) e)) y
theorem fZ {Rs:List (V × V × V)}(hR:jH Rs) (hv:Tm 8 v):pQ Rs v g (C (n+13) .stepOf [dJ Rs,v] g):=by
 have fr:∀ {l:List (List Nat × V)}{r},C (n+12) .parts [v] g=some (.lst (l.map vt),g)->l.length<=lim->gG (dE 10000 (C (n+12)) [tC]) [2,3] (l.map λq=>[fG q.1,q.2]) (qf (dJ Rs) v none none none none none) g=r ->
   (fw [2,3] (.call .parts [x1]) [tC]) 10000 (C (n+12)) (qf (dJ Rs) v none none none none none) g=r:=λh1 h2 h=>dj (bO rfl h1) rfl (iT h2) h
 have pk:=g9 (n:=n+3) (g:=g) hv (ak 8)
 have pl:(iC 8 v).length<=lim:=by have:=oM (fM hv) (by decide); lia
 have f:=jz (g:=g) (b:=dE 10000 (C (n+12)) [tC]) (tg:=[2,3]) (q:=λz=>[fG z.1,z.2]) (l:=iC 8 v) (I:=λenv=>∃ a2 a3 a4 a5 a6,env=qf (dJ Rs) v a2 a3 a4 a5 a6) (No:=λz=>∀ q∈Rs,q.2.1≠z.2) (Yes:=jb Rs v) (λz hz env ⟨a2,a3,a4,a5,a6,i⟩=>i ▸ yW (n:=n) hR hv hz) ⟨none,none,none,none,none,rfl⟩
 cases f with
 | nxt e i no=>obtain ⟨zz,zz,zz,zz,zz,rfl⟩:=i; exact .no (b8 (bF (fr pk pl e) (bS rfl))) λq hq hs=>let ⟨p,hp⟩:=kO hv hs; no _ hp q hq rfl
 | ret e y=>exact .yes (b8 (bS (fr pk pl e))) y
end
section
variable {W n m k j:Nat}{cf:Fn->List V->G->Option (V × G)}{env:En}{g g1 g2:G}{v x y u l r s:V}{e a b:E}{xs ys:List V}{p:List Nat}
theorem rB {c:Nat}{sl:List bN}:dZ (g++[.inst c sl]) g.length=some (c,sl):=bL List.getElem?_concat_length rfl
theorem i7 {c:Nat}{sl:List bN}{z:bN}:dz (g++[.inst c sl]) c sl.length z (.gl g.length)=some (g++[.inst c (sl++[z])]):=by
 refine bL rfl (bL rB ((if_pos rfl).trans ((if_neg (Nat.lt_irrefl _)).trans ((if_pos rfl).trans (congrArg some ?_)))))
 rw [List.set_append_right g.length _ (ak _),Nat.sub_self]; rfl
theorem mG:∀ {vs:List V},mN (vs.map .val)=some vs
 | []=>rfl
 | v::vs=>bL rfl (bL mG rfl)
def Gd (g:G):Prop:=g.all (gV g.length)=true
theorem yu {c:Nat}{f:Fn}{args vs:List V}(hf:iw c=true) (hG:Gd g) (h:cf f (.gl g.length::args) (g++[.inst c []])=some (.none,g++[.inst c (vs.map .val)])) (hv:dH 0 vs=true):o6 cf c f args g=some (.obj c vs,g):=by
 have tk:(g++[mR.inst c (vs.map bN.val)]).take g.length=g:=List.take_left' rfl
 refine bL h (bL rfl ((if_pos hf).trans ((if_pos ⟨aB,?_⟩).trans (bL rB (bL mG ((if_pos ⟨rfl,hv⟩).trans ?_))))))
 ·rw [tk]
 ·rw [tk]; exact hG
theorem dU {c q:Nat}(h1:e cf env g=some (v,g1)) (h2:a cf env g1=some (x,g2)) {g3:G}(h3:dz g2 c q (.val v) x=some g3):(S.sattr c q a e) W cf env g=some (.nxt,env,g3):=bL h1 (bL h2 (bL h3 rfl))
theorem Tm.lt {q:Nat}(h:Tm m v):ie q v=true:=by
 induction h with
 | a=>rfl
 | b=>rfl
 | f _ i=>exact (Bool.and_true _).trans i
 | g _ i=>exact (Bool.and_true _).trans i
 | h _ _ i j=>exact aC.mpr ⟨i,(Bool.and_true _).trans j⟩
theorem eH {q:Nat}:∀ {vs:List V},(∀ v∈vs,ie q v=true)->dH q vs=true
 | [],_=>rfl
 | v::vs,h=>aC.mpr ⟨h v (.head _),eH λx hx=>h x (.tail _ hx)⟩
theorem oV {q:Nat}{Rs:List (V × V × V)}(h:jH Rs):dH q (Rs.map bY)=true:=eH λv hv=>by
 obtain ⟨z,hz,rfl⟩:=bx.mp hv
 obtain ⟨⟨a,b⟩,s,e⟩:=h.2 z hz
 refine eH (vs:=[z.1,z.2.1,z.2.2,.tup []]) (ao.mpr ⟨e ▸ rfl,ao.mpr ⟨a.lt,ao.mpr ⟨b.lt,am.mpr rfl⟩⟩⟩)
theorem lZ {Rs:List (V × V × V)}(hG:Gd g) (hR:jH Rs):o6 (C (n+1)) 1 .normInit [.lst (Rs.map bY)] g=some (dJ Rs,g):=
 yu (vs:=[.lst (Rs.map bY)]) rfl hG (jq (bQ (dU (yo rfl (iq hR.1)) rfl (i7 (sl:=[]))))) ((Bool.and_true _).trans (oV hR))
noncomputable abbrev w9 (me v:V) (st:List V) (f:V):En:=[some (.val me),some (.val v),some (.val (.int 200)),some (.ol st),some (.val f)]
noncomputable abbrev Am:List S:=[.iff (.cmp .eq (.lenOwn 3) x2) [.stuck] [],.app 3 (hd x4),.asg 1 (.idx x4 i1),.asg 4 (.meth 1 .stepOf x0 [x1])]
structure m6 (R:jP) (rk:Nat->Int) (Rs:List (V × V × V)) (J:V->Prop):Prop where
 good:gf R rk
 tm:jH Rs
 has:∀ {l r},R l r->∃ q∈Rs,q.2.1=l/\q.2.2=r
 hit:∀ {w q},J w->q∈Rs->dN q.2.1 w->R q.2.1 q.2.2
 t8:∀ {w},J w->Tm 8 w
 step:∀ {w w' l r p},J w->R l r->jD l r p w w'->J w'
theorem pQ.run {Rs:List (V × V × V)}{o:Option (V × G)}(h:pQ Rs v g o):∃ f,o=some (f,g):=by
 cases h with
 | no e _=>exact ⟨_,e⟩
 | yes e _=>exact ⟨_,e⟩
def Ez (st:List V):Prop:=(∀ s∈st,∃ l,s=V.tup l/\l.length=5)/\st.length < 200
theorem vC {me w v' f':V}{s st:List V}(hl:st.length < 200) (hf:C (n+13) .stepOf [me,v'] g=some (f',g)) (hi:jV g 1 me=true):dE 10000 (C (n+13)) Am (w9 me w st (.tup [.tup s,v'])) g=some (.nxt,w9 me v' (st++[.tup s]) f',g):=by
 have l2:st.length < lim:=Nat.lt_trans hl (by decide)
 exact bF (cP (cN (bL rfl (if_pos (Nat.le_of_lt l2))) rfl (congrArg (λt=>some (V.bool t)) (bq λh=>Nat.ne_of_lt hl (Int.ofNat.inj h)))) rfl)
  (bF (bL rfl (bL rfl (if_pos l2))) (bF (cV rfl) (bQ (cV (ck rfl hi rfl hf)))))
theorem uZ {R:jP}{rk:Nat->Int}{Rs:List (V × V × V)}{J:V->Prop}(K:m6 R rk Rs J):∀ (gQ:Nat) {w f:V}{st:List V},mS R 12 w < gQ->st.length+mS R 12 w < 200->J w->C (n+13) .stepOf [dJ Rs,w] g=some (f,g)->(∀ s∈st,∃ l,s=V.tup l/\l.length=5) ->
  ∃ st',eD ((E.cmp .isNN x4 .none) (C (n+13))) (dE 10000 (C (n+13)) Am) gQ (w9 (dJ Rs) w st f) g=some (.nxt,w9 (dJ Rs) (nf R w) st' .none,g)/\Ez st':=by
 intro gQ
 induction gQ with
 | zero=>exact λh=>absurd h (aY _)
 | succ gQ ih=>
  intro w f st hfu hl jw hf hst
  cases fZ (n:=n) (g:=g) K.tm (K.t8 jw) with
  | no e no=>
   cases hf.symm.trans e
   rw [lS (K.t8 jw) (by decide) λl r a s=>let ⟨q,hq,e,_⟩:=K.has a; no q hq (e ▸ s)]
   exact ⟨st,rfl,hst,aI (bn _ _) hl⟩
  | yes e y=>
   cases hf.symm.trans e
   cases y with | @mk q p v' s hq o s5=>
   have a:=K.hit jw hq o.sub
   have jw':=K.step jw a o
   have t8:=(K.t8 jw).up (show 8<=12 by decide)
   have t8':=(K.t8 jw').up (show 8<=12 by decide)
   have cs:=wg K.good a o t8 t8'
   have tq:=(K.tm.2 q hq).1
   obtain ⟨f',hf'⟩:=(fZ (n:=n) (g:=g) K.tm (K.t8 jw')).run
   obtain ⟨st',e,h⟩:=ih (f:=f') (st:=st++[.tup s]) (by omega) (by rw [aB]; show st.length+1+_ < _; omega) jw' hf' λx hx=>(aU.mp hx).elim (hst x) λh=>⟨s,ay.mp h,s5⟩
   rw [o.same gs ((oA K.good tq.1 (by decide) a).trans (ia K.good tq.2 (by decide) a).symm) t8 t8']
   exact ⟨st',(kP rfl (vC (aI (bn _ _) hl) hf' rfl)).trans e,h⟩
theorem j4 {R:jP}{rk:Nat->Int}{Rs:List (V × V × V)}{J:V->Prop}(K:m6 R rk Rs J) (jv:J v) (hm:Tm m v) (h7:m<=7):∃ st,C (n+14) .normal [dJ Rs,v,.int 200] g=some (.tup [nf R v,.lst st],g)/\(∀ s∈st,∃ l,s=V.tup l/\l.length=5)/\st.length < 200:=by
 obtain ⟨f,hf⟩:=(fZ (n:=n) (g:=g) K.tm (K.t8 jv)).run
 have hc:mS R 12 v < 200:=aI (AW hm) (aI (yA h7) (by decide))
 obtain ⟨st,e,h⟩:=uZ (n:=n) (g:=g) K 10000 (st:=[]) (Nat.lt_trans hc (by decide)) (by rw [List.length_nil,Nat.zero_add]; exact hc) jv hf (λs h=>nomatch h)
 exact ⟨st,b8 (bF (e1:=w9 (dJ Rs) v [] f) ((if_pos rfl).trans (bL (bL rfl (bL (bL (bL (ck rfl rfl rfl hf) rfl) (bL rfl rfl)) rfl)) rfl)) (bF (jK e) (bF rfl (bS rfl)))),h⟩
end
section
variable {W n m k j:Nat}{cf:Fn->List V->G->Option (V × G)}{env:En}{g g1 g2:G}{v x y u l r:V}{e a b:E}{xs ys:List V}{p:List Nat}
theorem gF {c q:Nat}(h:e cf env g=some (x,g1)) (ha:gU g1 c q x=some (.val v)):(E.attr c q e) cf env g=some (v,g1):=bL h (bL (bL ha rfl) rfl)
theorem pO {nm:Str}(hG:Gd g) (hl:Tm 8 l) (hr:Tm 8 r):o6 (C (n+12)) 0 .ruleInit [.str nm,l,r,.tup []] g=some (bY (.str nm,l,r),g):=by
 refine yu (vs:=[.str nm,l,r,.tup []]) rfl hG ?_ (eH (vs:=[.str nm,l,r,.tup []]) (ao.mpr ⟨rfl,ao.mpr ⟨hl.lt,ao.mpr ⟨hr.lt,am.mpr rfl⟩⟩⟩))
 have vl:=λg=>ee (n:=n+1) (g:=g) hl (ak 8)
 have vr:=λg=>ee (n:=n+1) (g:=g) hr (ak 8)
 exact jq (bF (cP (bO rfl (da hl)) rfl) (bF (cV (bO rfl (vl _))) (bF (cV rfl) (bF (dj rfl rfl rfl (dh (bF (cP rfl rfl) (bF (cV (cy (cF (bO rfl (vr _)) (bO rfl (vr _)) rfl) rfl rfl rfl)) (bQ (cP rfl rfl)))) rfl))
  (bF (dU rfl rfl (i7 (sl:=[]))) (bF (dU rfl rfl (i7 (sl:=[.val (.str nm)]))) (bF (dU rfl rfl (i7 (sl:=[.val (.str nm),.val l]))) (bQ (dU rfl rfl (i7 (sl:=[.val (.str nm),.val l,.val r])))))))))))
theorem Pt.nil (h:Pt u p v):p=[]->u=v:=by
 cases h with
 | here=>exact λzz=>rfl
 | _=>intro h; cases h
theorem DC (a:Tm 7 x) (b:Tm 7 y):iF (.tup [x,y])=true:=aC.mpr ⟨a.term,b.term⟩
theorem zi {x' y':V}(a:Tm 7 x) (b:Tm 7 y) (c:Tm 7 x') (d:Tm 7 y'):∃ t,l7 .eq (.tup [x,y]) (.tup [x',y'])=some (.bool t)/\(t=true->y=y')/\(x=x'->y=y'->t=true):=by
 obtain ⟨t,e,i⟩:=ji (DC a b) (DC c d)
 exact ⟨t,bL e rfl,λh=>congrArg (λv=>(iV v).elim V.none Prod.snd) (i.mp h),λh k=>i.mpr (h ▸ k ▸ rfl)⟩
noncomputable abbrev sR (q1 q2:V × V × V) (a6 a7 a8 a9:Option bN):En:=[some (.val (bY q1)),some (.val (bY q2)),some (.val (.str AS)),some (.val q2.2.1),some (.val q2.2.2),some (.val (.lst [])),a6,a7,a8,a9,none]
noncomputable abbrev qt:List S:=[.asg 8 (.and (.cmp .eq x6 (.tup [])) (.cmp .eq (.tup [eL x0,eR x0]) (.tup [eL x1,eR x1]))),.asg 9 (.ite (.or (.call .isVar [x7]) (.var 8)) .none (.call .unified [x7,x3])),.iff (.cmp .isNN (.var 9) .none) [.stuck] []]
def T7 (q:V × V × V):Prop:=Tm 7 q.2.1/\Tm 7 q.2.2
noncomputable abbrev Bv (q1 q2:V × V × V) (a:Option bN):En:=[some (.val (bY q1)),some (.val (bY q2)),a,none,none,none,none,none,none,none,none]
abbrev BB (q1 q2:V × V × V) (env:En):Prop:=∃ a6 a7 a8 a9,env=sR q1 q2 a6 a7 a8 a9
theorem vE {q1 q2:V × V × V}{z:List Nat × V}{a6 a7 a8 a9:Option bN}(t1:T7 q1) (t2:T7 q2) (no:∀ p,Pt q2.2.1 p q1.2.1->p=[]/\q1.2.2=q2.2.2) (hz:z∈iC 7 q1.2.1):
  AD g (BB q1 q2) True (λzz=>False) (dE 10000 (C (n+13)) qt (bZ (sR q1 q2 a6 a7 a8 a9) [6,7] [fG z.1,z.2]) g):=by
 have P:=(lq t1.1 z hz).1
 have tz:=P.sub.tm t1.1
 obtain ⟨p,z⟩:=z
 obtain ⟨t,e,zz,i⟩:=zi t1.1 t1.2 t2.1 t2.2
 have st:∀ {same:Bool},(E.and (.cmp .eq x6 (.tup [])) (.cmp .eq (.tup [eL x0,eR x0]) (.tup [eL x1,eR x1]))) (C (n+13)) (sR q1 q2 (some (.val (fG p))) (some (.val z)) a8 a9) g=some (.bool same,g)->(same=false->z≠q2.2.1) ->
   AD g (BB q1 q2) True (λzz=>False) (dE 10000 (C (n+13)) qt (bZ (sR q1 q2 a6 a7 a8 a9) [6,7] [fG p,z]) g):=λ{same} h ne=>by
  refine .nxt (bF (cV h) (bF (cV (v:=.none) ?_) (bQ (cP rfl rfl)))) ⟨_,_,_,_,rfl⟩ trivial
  clear h hz t1
  cases same with
  | true=>exact oY (iI (bO rfl (da tz)) rfl) rfl
  | false=>exact wF (iI (bO rfl (da tz)) rfl) (bO rfl (sj (n:=n+9) tz t2.1 (by decide) (ne rfl)))
 clear hz t1 t2 tz
 cases p with
 | nil=>exact st (yn (t:=t) rfl (cN rfl rfl e)) λht he=>aF (ht.symm.trans (i ((P.nil rfl).symm.trans he) (no [] (he ▸ P)).2))
 | cons k p=>exact st (same:=false) (pc rfl) λzz he=>nomatch (no (k::p) (he ▸ P)).1
theorem px {q1 q2:V × V × V}(t1:T7 q1) (t2:T7 q2) (no:∀ p,Pt q2.2.1 p q1.2.1->p=[]/\q1.2.2=q2.2.2):C (n+14) .overlaps [bY q1,bY q2] g=some (.lst [],g):=by
 have h8:∀ {v:V},Tm 7 v->Tm 8 v:=λh=>h.up (Nat.le_succ 7)
 have v1:=ee (n:=n+3) (g:=g) (h8 t1.1) (ak 8)
 have v2:=ee (n:=n+3) (g:=g) (h8 t2.1) (ak 8)
 have p1:=pL (n:=n+2) (u:=.str AS) (g:=g) (h8 t2.1) (ak 8)
 have p2:=pL (n:=n+2) (u:=.str AS) (g:=g) (h8 t2.2) (ak 8)
 have p3:=g9 (n:=n+5) (g:=g) t1.1 (by decide)
 have pl:(iC 7 q1.2.1).length<=lim:=by have:=oM (fM t1.1) (by decide); lia
 have a1:(S.asg 2 (.call .markFor [.call .variables [eL x1],.call .variables [eL x0]])) 10000 (C (n+13)) (Bv q1 q2 none) g=some (.nxt,Bv q1 q2 (some (.val (.str AS))),g):=
  cV (bO (ca (bO rfl v2) (cO (bO rfl v1))) (sx (n:=n+12)))
 have a2:(S.asgs [3,4,5] [.val (.call .apart [eL x1,x2]),.val (.call .apart [eR x1,x2]),.val (.lst [])]) 10000 (C (n+13)) (Bv q1 q2 (some (.val (.str AS)))) g=some (.nxt,sR q1 q2 none none none none,g):=
  (if_pos rfl).trans (bL (bL (bL (bO rfl p1) rfl) (bL (bL (bL (bO rfl p2) rfl) (bL rfl rfl)) rfl)) rfl)
 have a3:∀ {l:List (List Nat × V)}{r},C (n+13) .parts [q1.2.1] g=some (.lst (l.map vt),g)->l.length<=lim->gG (dE 10000 (C (n+13)) qt) [6,7] (l.map λq=>[fG q.1,q.2]) (sR q1 q2 none none none none) g=r->(fw [6,7] (.call .parts [eL x0]) qt) 10000 (C (n+13)) (sR q1 q2 none none none none) g=r:=
  λh1 h2 h=>dj (bO rfl h1) rfl (iT h2) h
 have f:=jz (g:=g) (b:=dE 10000 (C (n+13)) qt) (tg:=[6,7]) (q:=λq=>[fG q.1,q.2]) (l:=iC 7 q1.2.1) (I:=BB q1 q2) (No:=λzz=>True) (Yes:=λzz=>False) (λz hz env ⟨a6,a7,a8,a9,i⟩=>i ▸ vE (n:=n) t1 t2 no hz) ⟨none,none,none,none,rfl⟩
 clear h8 p1 p2 t1 t2 v1 v2
 cases f with
 | nxt e i _=>obtain ⟨zz,zz,zz,zz,rfl⟩:=i; exact b8 (bF a1 (bF a2 (bF (a3 p3 pl e) (bS rfl))))
 | ret _ y=>exact y.elim
theorem th {me:V}{q1 q2:V × V × V}(t1:T7 q1) (t2:T7 q2) (no:∀ p,Pt q2.2.1 p q1.2.1->p=[]/\q1.2.2=q2.2.2):C (n+15) .meet [me,bY q1,bY q2] g=some (.none,g):=
 jq (bQ (dj (bO rfl (px t1 t2 no)) rfl rfl rfl))
end
section
variable {W n m k j:Nat}{cf:Fn->List V->G->Option (V × G)}{env:En}{g g1 g2 g3:G}{v x y u l r:V}{e a b:E}{xs ys:List V}{p:List Nat}
def uu (v:V):Prop:=∃ s,v=.str s
def uv (v:V):Prop:=∃ i,v=.int i
theorem kR {f:V->V->Option Bool}(h:∃ b,fU x y=some b) (k:∃ b,f x y=some b) (l:∃ b,oJ f xs ys=some b):∃ b,oJ f (x::xs) (y::ys)=some b:=by
 obtain ⟨b,e⟩:=h
 cases b with
 | true=>exact l.imp λzz=>bL e
 | false=>exact k.imp λzz=>bL e
def Bj (f:V->Prop):Prop:=∀ v u,f v->f u->(∃ b,∀ n,mT n v u=some b)/\∃ b,wQ v u=some b
theorem yr:Bj uu:=λ_ _ ⟨_,e⟩ ⟨_,e'⟩=>by rw [e,e']; exact ⟨⟨_,λn=>by cases n <;> rfl⟩,_,rfl⟩
theorem xr:Bj uv:=λ_ _ ⟨_,e⟩ ⟨_,e'⟩=>by rw [e,e']; exact ⟨⟨_,λn=>by cases n <;> rfl⟩,_,rfl⟩
theorem oy {f:V->Prop}(hf:Bj f):∀ {xs ys:List V},(∀ v∈xs,f v)->(∀ v∈ys,f v)->(∃ b,fS (mT 19) xs ys=some b)/\∃ b,oJ wQ xs ys=some b
 | [],_,_,_=>⟨⟨_,rfl⟩,_,rfl⟩
 | _::_,[],_,_=>⟨⟨_,rfl⟩,_,rfl⟩
 | x::xs,y::ys,h,k=>by
  obtain ⟨⟨b,e⟩,l⟩:=hf x y (h x (.head _)) (k y (.head _))
  obtain ⟨i,j⟩:=oy hf (λv m=>h v (.tail _ m)) λv m=>k v (.tail _ m)
  refine ⟨?_,kR ⟨b,e 20⟩ l j⟩
  clear h hf j k l
  cases b with
  | true=>exact i.imp λzz=>bL (e 19)
  | false=>exact ⟨_,bL (e 19) rfl⟩
theorem y6 {i j:Int}{ss ss' is is':List V}(h1:∀ v∈ss,uu v) (h2:∀ v∈ss',uu v) (h3:∀ v∈is,uv v) (h4:∀ v∈is',uv v):∃ b,BU [.int j,.tup ss',.tup is'] [.int i,.tup ss,.tup is]=some b:=
 have a:=oy yr h2 h1
 have b:=oy xr h4 h3
 kR ⟨_,rfl⟩ ⟨_,rfl⟩ (kR a.1 a.2 (kR b.1 b.2 ⟨_,rfl⟩))
def Nd (v:V):Prop:=∃ s ks,v=.tup (.str s::ks)/\ks.length<=2
theorem Tm.nd (h:Tm m v):Nd v:=by cases h <;> exact ⟨_,_,rfl,by simp⟩
noncomputable abbrev ED:V->V
 | .tup (s::_)=>s
 | _=>.none
noncomputable abbrev El:V->V
 | .tup l=>.int ((l.length:Int) - 1)
 | _=>.none
theorem mj (hx:Tm 7 x) (hy:Tm 7 y):∃ i ss is,C (n+10) .keyOf [.tup [.str vP,x,y]] g=some (.tup [.int i,.tup ss,.tup is],g)/\(∀ v∈ss,uu v)/\∀ v∈is,uv v:=by
 have P:=nQ (g:=g) (o:=vP) (g9 (n:=n) (g:=g) hx (by decide)) (g9 (n:=n) (g:=g) hy (by decide)) (gh hx (by decide)) (gh hy (by decide)) (f9 hx (by decide)) (f9 hy (by decide))
 have nd:∀ q∈(([],.tup [.str vP,x,y]):List Nat × V)::(at_ 0 (iC 7 x)++at_ 1 (iC 7 y)),Nd q.2:=by
  have low:∀ {v:V}{i:Nat}{q:List Nat × V},Tm 7 v->q∈at_ i (iC 7 v)->Nd q.2:=λh hq=>by
   obtain ⟨p,zz,hp⟩:=xL hq
   exact ((lq h _ hp).1.sub.tm h).nd
  intro q hq
  rcases az.mp hq with e | hq
  ·exact ⟨_,_,congrArg Prod.snd e,by simp⟩
  ·exact (aU.mp hq).elim (low hx) (low hy)
 have ll:((([],.tup [.str vP,x,y]):List Nat × V)::(at_ 0 (iC 7 x)++at_ 1 (iC 7 y))).length<=lim:=by
  have:=gh hx (by decide)
  have:=gh hy (by decide)
  rw [aO,aB,aw,aw]; simp only [lim]; lia
 generalize ((([],.tup [.str vP,x,y]):List Nat × V)::(at_ 0 (iC 7 x)++at_ 1 (iC 7 y)))=L at P nd ll
 have seq:gj (.lst (L.map λq=>q.2))=some (L.map λq=>q.2):=if_pos (by rw [aw]; exact ll)
 have ln:yO (.lst (L.map λq=>q.2))=some (.int ((L.map λq=>q.2).length:Nat)):=bL seq rfl
 have seq2:∀ {φ:V->V},gj (.lst ((L.map λq=>q.2).map φ))=some ((L.map λq=>q.2).map φ):=λ{φ}=>if_pos (by rw [aw,aw]; exact ll)
 have ndL:∀ v∈L.map (λq=>q.2),Nd v:=λv hv=>by obtain ⟨q,hq,rfl⟩:=bx.mp hv; exact nd q hq
 have c1:(E.comp x3 [2,3] .plain (.call .parts [x0]) .none none) (C (n+9)) [some (.val (.tup [.str vP,x,y])),none,none,none,none] g=some (.lst (L.map λq=>q.2),g):=
  cy (bO rfl P) rfl (iT (l:=L) (a:=λq=>fG q.1) (b:=λq=>q.2) ll) (fB λq hq=>eh rfl)
 have c2:(E.tupleOf (eK (hd x4) 4 x1)) (C (n+9)) [some (.val (.tup [.str vP,x,y])),some (.val (.lst (L.map λq=>q.2))),none,none,none] g=some (.tup ((L.map λq=>q.2).map ED),g):=
  cB (cy rfl rfl (dL seq) (fB λv hv=>eh (by obtain ⟨s,ks,rfl,zz⟩:=ndL v hv; rfl))) seq2
 have c3:(E.tupleOf (eK (.bin .sub (.len x4) i1) 4 x1)) (C (n+9)) [some (.val (.tup [.str vP,x,y])),some (.val (.lst (L.map λq=>q.2))),none,none,none] g=some (.tup ((L.map λq=>q.2).map El),g):=
  cB (cy rfl rfl (dL seq) (fB λv hv=>eh (by
   clear P hx hy ll nd seq
   obtain ⟨s,ks,rfl,hk⟩:=ndL v hv
   exact cF (ub rfl (bL (if_pos (aj (aR hk) (by decide))) rfl)) rfl rfl))) seq2
 refine ⟨((L.map λq=>q.2).length:Nat),_,_,b8 (bF (cV c1) (bS (cY (j6 (ca (ub rfl ln) (ca c2 (cO c3))) (show 3<=lim by decide))))),λv hv=>?_,λv hv=>?_⟩
 ·clear P c1 c2 c3 hx hy ll ln nd seq seq2
  obtain ⟨u,hu,rfl⟩:=bx.mp hv
  obtain ⟨s,ks,rfl,zz⟩:=ndL u hu
  exact ⟨s,rfl⟩
 ·clear P c1 c2 c3 hx hy ll ln nd seq seq2
  obtain ⟨u,hu,rfl⟩:=bx.mp hv
  clear hv
  obtain ⟨s,ks,rfl,zz⟩:=ndL u hu
  exact ⟨_,rfl⟩
structure Sg where
 p0:mR
 rv:V
 kk:List V
 kv:List V
 ct:Nat
 ru:bN
 wk:List V
 wv:List V
noncomputable def Sg.st (s:Sg):G:=[s.p0,.inst 2 [.val s.rv,.od s.kk s.kv],.inst 3 [.val (.gl 1),.val (.int 200),.val (.int s.ct),s.ru,.val (.lst []),.od s.wk s.wv]]
def fQ (v:V):Prop:=∃ x y,v=.tup [x,y]/\Tm 7 x/\Tm 7 y
def BO (v:V):Prop:=∃ b,v=.bool b
structure du (s:Sg):Prop where
 p0:gV 3 s.p0=true
 rv:ie 3 s.rv=true
 kk:∀ v∈s.kk,fQ v
 kv:∀ v∈s.kv,BO v
 ru:iY 3 s.ru=true
 wk:∀ v∈s.wk,fQ v
 wv:∀ v∈s.wv,BO v
theorem fQ.lt (h:fQ v) {q:Nat}:ie q v=true:=by
 obtain ⟨x,y,rfl,a,b⟩:=h
 exact eH (vs:=[x,y]) (ao.mpr ⟨a.lt,am.mpr b.lt⟩)
theorem BO.lt (h:BO v) {q:Nat}:ie q v=true:=by obtain ⟨b,rfl⟩:=h; rfl
theorem du.gd {s:Sg}(ok:du s):Gd s.st:=by
 have h1:=eH (q:=3) λv h=>(ok.kk v h).lt
 have h2:=eH (q:=3) λv h=>(ok.kv v h).lt
 have h3:=eH (q:=3) λv h=>(ok.wk v h).lt
 have h4:=eH (q:=3) λv h=>(ok.wv v h).lt
 have o2:gV 3 (.inst 2 [.val s.rv,.od s.kk s.kv])=true:=by
  show (ie 3 s.rv && ((dH 3 s.kk && dH 3 s.kv) && true))=true
  rw [ok.rv,h1,h2]; rfl
 have o3:gV 3 (.inst 3 [.val (.gl 1),.val (.int 200),.val (.int s.ct),s.ru,.val (.lst []),.od s.wk s.wv])=true:=by
  show (ie 3 (.gl 1) && (ie 3 (.int 200) && (ie 3 (.int s.ct) && (iY 3 s.ru && (ie 3 (.lst []) && ((dH 3 s.wk && dH 3 s.wv) && true))))))=true
  rw [ok.ru,h3,h4]; rfl
 show (gV 3 s.p0 && (gV 3 _ && (gV 3 _ && true)))=true
 rw [ok.p0,o2,o3]; rfl
theorem fQ.key (h:fQ v):iF v=true:=by
 obtain ⟨x,y,rfl,a,b⟩:=h
 exact DC a b
theorem jx (h:fQ v) (hs:∀ v∈xs,fQ v):de xs v=true:=
 Bool.or_eq_true_iff.mpr (.inl (Bool.or_eq_true_iff.mpr (.inr (aC.mpr ⟨h.key,aG.mpr λv hv=>(hs v hv).key⟩))))
theorem sG {s:Sg}{R:jP}{rk:Nat->Int}{Rs:List (V × V × V)}{J:V->Prop}(ok:du s) (hru:s.ru=.val (.lst (Rs.map bY))) (K:m6 R rk Rs J) (jv:J v) (hm:Tm m v) (h7:m<=7):C (n+15) .simpler [.gl 2,v] s.st=some (nf R v,s.st):=by
 obtain ⟨st,e,zz⟩:=j4 (n:=n) (g:=s.st) K jv hm h7
 have h1:(E.attr 3 3 x0) (C (n+14)) [some (.val (.gl 2)),some (.val v)] s.st=some (.lst (Rs.map bY),s.st):=gF rfl (show some s.ru=_ by rw [hru])
 exact b8 (bS (cY (Ai (ck (l8 (cO h1) (lZ (n:=n+13) ok.gd K.tm)) rfl (ca rfl (cO rfl)) e) rfl rfl)))
theorem uf {c q:Nat}{ky:E}{ob:V}{ks vs:List V}(h1:e cf env g=some (y,g1)) (h2:a cf env g1=some (ob,g2)) (h3:ky cf (iG env) []=some (x,[])) (h4:gU g2 c q ob=some (.od ks vs)) (h5:de ks x=true/\ks.length < lim) (h6:dz g2 c q (.od (db x y ks vs).1 (db x y ks vs).2) ob=some g3):
  (S.setDA c q a ky e) W cf env g=some (.nxt,env,g3):=bL h1 (bL h2 (bL h3 (bL (bL h4 rfl) ((if_pos ⟨h5,rfl⟩).trans (bL h6 rfl)))))
noncomputable abbrev Sg.noted (s:Sg) (x y:V):Sg:={ s with wk:=(db (.tup [x,y]) (.bool true) s.wk s.wv).1,wv:=(db (.tup [x,y]) (.bool true) s.wk s.wv).2 }
theorem Ac (hx:Tm 7 x) (hy:Tm 7 y):iG [some (.val (.gl k)),some (.val x),some (.val y)]=[none,some (.val x),some (.val y)]:=by
 have hv:∀ {v:V},Tm 7 v->kr (some (.val v))=some (.val v):=λh=>if_pos h.lt
 show [kr (some (.val (.gl k))),kr (some (.val x)),kr (some (.val y))]=_
 rw [hv hx,hv hy,show kr (some (.val (.gl k)))=none from (if_neg λh=>aY k (bw (p:=k < 0) h):(if iY 0 (.val (.gl k)) then some (bN.val (.gl k)) else none)=none)]
theorem oz {s:Sg}(ok:du s) (hl:s.wk.length < 1000) (hx:Tm 7 x) (hy:Tm 7 y):(x=y->C (n+10) .note [.gl 2,x,y] s.st=some (.none,s.st))/\(x≠y->C (n+10) .note [.gl 2,x,y] s.st=some (.none,(s.noted x y).st)):=by
 obtain ⟨t,zz,e,i⟩:=lU hx hy ⟨by decide,by decide⟩
 refine ⟨λh=>?_,λh=>?_⟩
 ·rw [i.mpr h] at e
  exact jq (bQ (cP (cN rfl rfl e) rfl))
 ·rw [Bool.eq_false_iff.mpr λq=>h (i.mp q)] at e
  refine jq (bQ (eV (cN rfl rfl e) (bQ (uf rfl rfl (x:=.tup [x,y]) ?_ rfl ⟨jx ⟨x,y,rfl,hx,hy⟩ ok.wk,by simp only [lim]; omega⟩ rfl))))
  show (cI (.call .named [.tup [.str vP,x1,x2],.dct0])) (C (n+9)) (iG [some (.val (.gl 2)),some (.val x),some (.val y)]) []=_
  rw [Ac hx hy]
  exact oZ (bO rfl (xS hx hy)) (show 3<=lim by decide)
end
section
variable {W n m:Nat}{cf:Fn->List V->G->Option (V × G)}{env:En}{g g1 g2 g3:G}{v x y u:V}{e a b c:E}{xs ys:List V}
noncomputable abbrev Ea (r1 r2 r3 r4:Int) (c:Nat):Int:=if c=102 then r1 else if c=103 then r2 else if c=104 then r3 else if c=98 then r4 else 0
noncomputable abbrev Ef (r1 r2 r3 r4:Int):V:=.dct [.str (S1 102),.str (S1 103),.str (S1 104),.str (S1 98)] [.int r1,.int r2,.int r3,.int r4]
noncomputable abbrev jl (rk:Nat->Int) (v:V):List V:=[.int (rk (ox v)),.str ⟨#[ox v]⟩,.int (bV v).length]
theorem xH {r1 r2 r3 r4:Int}(h:Tm m v):C (n+1) .placeOfOp [Ef r1 r2 r3 r4,v] g=some (.tup (jl (Ea r1 r2 r3 r4) v),g):=by cases h <;> rfl
theorem Bo {c c':Nat}:Ay ⟨#[c']⟩ ⟨#[c]⟩=decide (c' < c):=decide_eq_decide.mpr (List.cons_lt_cons_iff.trans ⟨λh=>h.elim id λh=>(List.not_lt_nil _ h.2).elim,.inl⟩)
theorem ud {r:Option Bool}(h:fU x y=some true) (k:ou xs ys=r):ou (x::xs) (y::ys)=r:=bL h k
theorem An {r:Option Bool}(h:fU x y=some false) (k:wQ y x=r):ou (x::xs) (y::ys)=r:=bL h k
theorem uH {r:Option Bool}(h:mT m x y=some true) (k:fS (mT m) xs ys=r):fS (mT m) (x::xs) (y::ys)=r:=bL h k
theorem Ae {r:Option Bool}(h:mT m x y=some false) (k:some false=r):fS (mT m) (x::xs) (y::ys)=r:=bL h k
theorem yX {r r' a a':Int}{c c':Nat}(h:c < 1000) (h':c' < 1000) (k:c=c'->a=a'):ou [.int r,.str ⟨#[c]⟩,.int a] [.int r',.str ⟨#[c']⟩,.int a']=some (decide (r' * 1000+c' < r * 1000+c)) /\
  fS (mT 19) [.int r,.str ⟨#[c]⟩,.int a] [.int r',.str ⟨#[c']⟩,.int a']=some (decide (r * 1000+c=r' * 1000+c')):=by
 have yes:∀ {P:Prop} [Decidable P],P->some (decide P)=some true:=λh=>congrArg some (be h)
 have no:∀ {P:Prop} [Decidable P],¬ P->some (decide P)=some false:=λh=>congrArg some (bq h)
 by_cases e:r=r'
 ·have e1:=yes e
  by_cases f:c=c'
  ·have e2:=yes (congrArg (λc=>(⟨#[c]⟩:Str)) f)
   have e3:=yes (k f)
   clear h' k
   subst e; subst f
   exact ⟨ud e1 (ud e2 (ud e3 (no (Int.lt_irrefl _)).symm)),uH e1 (uH e2 (uH e3 (yes rfl).symm))⟩
  ·have e2:=no (show ¬ (⟨#[c]⟩:Str)=⟨#[c']⟩ from λh=>f (congrArg (λs:Str=>s.cps.toList.headD 0) h))
   clear h' k yes
   subst e
   exact ⟨ud e1 (An e2 (congrArg some (Bo.trans (decide_eq_decide.mpr (Int.ofNat_lt.symm.trans (Int.add_lt_add_iff_left _).symm))))),
    uH e1 (Ae e2 (no λh=>f (Int.ofNat.inj (Int.add_left_cancel h))).symm)⟩
 ·have w:(r' < r↔r' * 1000+(c':Int) < r * 1000+c)/\¬ r * 1000+(c:Int)=r' * 1000+c':=by lia
  exact ⟨An (no e) (congrArg some (decide_eq_decide.mpr w.1)),Ae (no e) (no w.2).symm⟩
theorem uL {rk:Nat->Int}{k j:Nat}(hx:Tm k x) (hy:Tm j y):l7 .gt (.tup (jl rk x)) (.tup (jl rk y))=some (.bool (decide (dA rk y < dA rk x)))/\l7 .eq (.tup (jl rk x)) (.tup (jl rk y))=some (.bool (decide (dA rk x=dA rk y))):=
 have q:=yX (r:=rk (ox x)) (r':=rk (ox y)) hx.ar.2.1 hy.ar.2.1 λh=>congrArg (λn:Nat=>(n:Int)) ((hx.ar.1.trans (congrArg Mine.ar h)).trans hy.ar.1.symm)
 ⟨bL (o:=ou (jl rk x) (jl rk y)) q.1 rfl,bL (o:=fS (mT 19) (jl rk x) (jl rk y)) q.2 rfl⟩
structure Kn (rk:Nat->Int) (U kk kv:List V):Prop where
 len:kv.length=kk.length
 nd:kk.Nodup
 sub:∀ v∈kk,v∈U
 pr:∀ v∈kk,fQ v
 ok:∀ (i:Nat) (x y:V),kk[i]?=some (V.tup [x,y])->∃ b,kv[i]?=some (V.bool b)/\(b=true↔Gt rk x y)
theorem l6:∀ {l U:List V},l.Nodup->(∀ v∈l,v∈U)->l.length<=U.length
 | [],_,_,_=>aZ _
 | x::l,U,h,s=>by
  obtain ⟨A,B,rfl⟩:=List.append_of_mem (s x aa)
  obtain ⟨a,b⟩:=aT.mp h
  have:=l6 (U:=A++B) b λv hv=>by
   have:=s v (ai _ hv)
   rcases aU.mp this with q | q
   ·exact aP _ q
   ·exact (az.mp q).elim (λe=>absurd (e ▸ hv) a) (aQ _)
  simp only [aB,aO] at this ⊢
  lia
theorem oC {v w:V}(h:fQ v) (k:fQ w):∃ t,fU v w=some t/\(t=true↔v=w):=ji h.key k.key
theorem oi {k:V}:∀ {ks vs:List V},(∀ x∈ks,∃ t,fU x k=some t/\(t=true↔x=k))->∃ r,ed k ks vs=some r
 | [],vs,_=>⟨_,rfl⟩
 | x::ks,vs,h=>by
  obtain ⟨t,e,zz⟩:=h x aa
  obtain ⟨r,q⟩:=oi (vs:=vs.tail) λx hx=>h x (ai _ hx)
  clear h
  cases t with
  | true=>exact ⟨_,bL e rfl⟩
  | false=>exact ⟨r,bL e q⟩
theorem Kn.look {rk:Nat->Int}{U kk kv:List V}(K:Kn rk U kk kv) (hx:Tm 7 x) (hy:Tm 7 y):(ed (.tup [x,y]) kk kv=some none/\V.tup [x,y]∉kk)\/∃ b,ed (.tup [x,y]) kk kv=some (some (V.bool b))/\(b=true↔Gt rk x y):=by
 have he:=λv hv=>oC (w:=.tup [x,y]) (K.pr v hv) ⟨x,y,rfl,hx,hy⟩
 obtain ⟨r,q⟩:=oi (vs:=kv) he
 clear hx hy
 rcases fC he K.len q with ⟨rfl,no⟩ | ⟨j,z,rfl,h1,h2⟩
 ·exact .inl ⟨q,λh=>let ⟨j,e⟩:=List.getElem?_of_mem h; no j e⟩
 ·obtain ⟨b,h3,h4⟩:=K.ok j x y h1
  rw [h2] at h3
  clear K h1 h2 he j
  cases h3
  exact .inr ⟨b,q,h4⟩
theorem Kn.put {rk:Nat->Int}{U kk kv:List V}{b:Bool}(K:Kn rk U kk kv) (hx:Tm 7 x) (hy:Tm 7 y) (hU:V.tup [x,y]∈U) (hb:b=true↔Gt rk x y):Kn rk U (db (.tup [x,y]) (.bool b) kk kv).1 (db (.tup [x,y]) (.bool b) kk kv).2/\V.tup [x,y]∈(db (.tup [x,y]) (.bool b) kk kv).1:=by
 have P:fQ (.tup [x,y]):=⟨x,y,rfl,hx,hy⟩
 have he:=λv hv=>oC (K.pr v hv) P
 by_cases h:∃ j:Nat,kk[j]?=some (V.tup [x,y])
 ·obtain ⟨j,hj⟩:=h
  rw [k9 he K.nd K.len hj]
  refine ⟨⟨by rw [bt]; exact K.len,K.nd,K.sub,K.pr,λi x' y' hi=>?_⟩,aW hj⟩
  by_cases e:j=i
  ·clear hx hy
   subst e
   rw [hj] at hi; cases hi
   exact ⟨b,by rw [bD]; rw [K.len]; exact (aA.mp hj).1,hb⟩
  ·rw [bh e]; exact K.ok i x' y' hi
 ·have h:∀ j:Nat,kk[j]?≠some (V.tup [x,y]):=λj e=>h ⟨j,e⟩
  rw [jI he K.len h]
  refine ⟨⟨by simp [K.len],?_,λv hv=>(aU.mp hv).elim (K.sub v) λh=>ay.mp h ▸ hU,λv hv=>(aU.mp hv).elim (K.pr v) λh=>ay.mp h ▸ P,λi x' y' hi=>?_⟩,aQ _ aa⟩
  ·refine List.nodup_append.mpr ⟨K.nd,aT.mpr ⟨List.not_mem_nil,List.nodup_nil⟩,λv hv w hw e=>?_⟩
   clear P hU he hx hy
   cases ay.mp hw
   obtain ⟨j,q⟩:=List.getElem?_of_mem hv
   exact h j (e ▸ q)
  ·by_cases hlt:i < kk.length
   ·rw [bC hlt] at hi
    rw [bC (by rw [K.len]; exact hlt)]
    exact K.ok i x' y' hi
   ·have e:i=kk.length:=by
     have:=(aA.mp hi).1
     rw [aB] at this
     simp at this; lia
    clear P h hU he hx hy
    subst e
    rw [List.getElem?_concat_length] at hi
    clear h
    cases hi
    exact ⟨b,by rw [← K.len,List.getElem?_concat_length],hb⟩
theorem w0 {k:V}{b:Bool}:∀ {ks vs:List V},(∀ v∈vs,BO v)->vs.length=ks.length->∀ v∈(db k (.bool b) ks vs).2,BO v
 | [],vs,h,hl=>λv hv=>⟨b,ay.mp hv⟩
 | x::ks,w::vs,h,hl=>by
  by_cases e:fU x k=some true
  ·rw [show db k (.bool b) (x::ks) (w::vs)=(x::ks,.bool b::vs) from if_pos e]
   exact ao.mpr ⟨⟨b,rfl⟩,λv hv=>h v (.tail _ hv)⟩
  ·rw [show db k (.bool b) (x::ks) (w::vs)=(_,w::_) from if_neg e]
   exact ao.mpr ⟨h w (.head _),w0 (λv hv=>h v (.tail _ hv)) (Nat.succ.inj hl)⟩
end
section
variable {W n m L:Nat}{cf:Fn->List V->G->Option (V × G)}{env:En}{g g1 g2 g3:G}{v x y u s t:V}{e a b c:E}{xs ys ks:List V}
structure iM where
 f:Int
 g:Int
 h:Int
 b:Int
noncomputable abbrev iM.rk (p:iM):Nat->Int:=Ea p.f p.g p.h p.b
noncomputable abbrev iM.rv (p:iM):V:=Ef p.f p.g p.h p.b
noncomputable abbrev Sg.kn (s:Sg) (kk kv:List V):Sg:={ s with kk:=kk,kv:=kv }
structure Ad (q:iM) (U:List V) (s:Sg):Prop where
 ok:du s
 rv:s.rv=q.rv
 kn:Kn q.rk U s.kk s.kv
 le:U.length < lim
inductive nR (q:iM) (U:List V) (s:Sg) (f:G->Option (V × G)) (P:Prop):Prop
 | mk (b:Bool) (kk kv:List V):f s.st=some (.bool b,(s.kn kk kv).st)->(b=true↔P)->Ad q U (s.kn kk kv)->nR q U s f P
inductive D6 (q:iM) (U:List V) (s:Sg) (f:G->Option (List V × G)) (P:Prop):Prop
 | mk (l kk kv:List V):f s.st=some (l,(s.kn kk kv).st)->(l.isEmpty=false↔P)->Ad q U (s.kn kk kv)->D6 q U s f P
variable {q:iM}{U:List V}{σ:Sg}
theorem nR.as {f h:G->Option (V × G)}{P Q:Prop}(a:nR q U σ f P) (e:∀ {b:Bool}{g:G},f σ.st=some (.bool b,g)->h σ.st=some (.bool b,g)) (i:P↔Q):nR q U σ h Q:=by
 obtain ⟨b,kk,kv,e1,i1,A⟩:=a
 exact ⟨b,kk,kv,e e1,i1.trans i,A⟩
theorem Du {elt cond:E}{tg:List Nat}{P:V->Prop}(he:∀ k g,∃ v,elt cf (bZ env tg [k]) g=some (v,g)) (h:∀ k∈ks,∀ σ,Ad q U σ->nR q U σ (cond cf (bZ env tg [k])) (P k)) (A:Ad q U σ):
  D6 q U σ (eU (λit=>fV (elt cf) (rF cf (some cond)) (bZ env tg it)) (ks.map λk=>[k])) (∃ k∈ks,P k):=by
 induction ks generalizing σ with
 | nil=>exact ⟨[],σ.kk,σ.kv,rfl,⟨λh=>(nomatch h),λ⟨_,h,_⟩=>(nomatch h)⟩,A⟩
 | cons k ks ih=>
  obtain ⟨b,kk,kv,e1,i1,A1⟩:=h k (.head _) σ A
  obtain ⟨l,kk2,kv2,e2,i2,A2⟩:=ih (λk hk=>h k (.tail _ hk)) A1
  clear A A1 h ih
  cases b with
  | true=>
   obtain ⟨v,ev⟩:=he k (σ.kn kk kv).st
   exact ⟨v::l,kk2,kv2,cw (f:=λit=>fV (elt cf) (rF cf (some cond)) (bZ env tg it)) (CO e1 ev) e2,⟨λzz=>⟨k,.head _,i1.mp rfl⟩,λzz=>rfl⟩,A2⟩
  | false=>
   exact ⟨l,kk2,kv2,cw (f:=λit=>fV (elt cf) (rF cf (some cond)) (bZ env tg it)) (vs:=[]) (AK e1) e2,i2.trans ⟨λ⟨k,a,b⟩=>⟨k,.tail _ a,b⟩,λ⟨k',a,b⟩=>(az.mp a).elim (λe=>absurd (i1.mpr (e ▸ b)) aF) λe=>⟨k',e,b⟩⟩,A2⟩
theorem uG {elt cond:E}{i:Nat}{P:V->Prop}(A:Ad q U σ) (hk:∀ k∈ks,∀ σ,Ad q U σ->nR q U σ (cond cf (bZ env [i] [k])) (P k)) (he:∀ k g,∃ v,elt cf (bZ env [i] [k]) g=some (v,g))
  (h:e cf env σ.st=some (.tup ks,σ.st)) (hl:ks.length<=lim):nR q U σ ((E.cmp .ne (.comp elt [i] .plain e .none (some cond)) (.lst [])) cf env) (∃ k∈ks,P k):=by
 obtain ⟨l,kk,kv,e1,i1,A1⟩:=Du (tg:=[i]) (elt:=elt) (cond:=cond) he hk A
 refine ⟨!l.isEmpty,kk,kv,cN (cy h rfl (dL (if_pos hl)) e1) rfl rfl,?_,A1⟩
 rw [← i1]
 clear A A1 e1 h he hk hl i1 kk kv
 cases l.isEmpty <;> decide
noncomputable def Dr (rk:Nat->Int):List V->List V->Prop
 | x::_,y::_=>Gt rk x y
 | _,_=>False
def FA (rk:Nat->Int) (xs ys:List V):Prop:=Dr rk xs ys\/(xs.head?=ys.head?/\Dr rk xs.tail ys.tail)
theorem FA.nil {rk:Nat->Int}:¬ FA rk [] []:=λh=>h.elim id And.right
theorem FA.one {rk:Nat->Int}:Gt rk x y↔FA rk [x] [y]:=⟨.inl,λh=>h.elim id λh=>h.2.elim⟩
theorem FA.two {rk:Nat->Int}(ne:x≠y):Gt rk x y↔FA rk [x,u] [y,v]:=⟨.inl,λh=>h.elim id λh=>absurd (av h.1) ne⟩
theorem FA.snd {rk:Nat->Int}:Gt rk u v↔FA rk [x,u] [x,v]:=⟨λg=>.inr ⟨rfl,g⟩,λh=>h.elim (λg=>absurd rfl g.irr) And.right⟩
noncomputable abbrev Cm (x y:V) (a b:Option bN):En:=[some (.val (.gl 1)),some (.val x),some (.val y),a,b]
noncomputable abbrev wV:List S:=[.iff (.cmp .ne x3 x4) [.ret (.meth 2 .above x0 [x3,x4])] []]
theorem gD {env:En}(h:env=Cm s t (some (.val x)) (some (.val x))) (hx:Tm 7 x):dE 10000 (C L) wV env g=some (.nxt,env,g):=by
 subst h
 obtain ⟨b,zz,e,i⟩:=lU hx hx ⟨by decide,by decide⟩
 rw [i.mpr rfl] at e
 exact bQ (cP (cN rfl rfl e) rfl)
theorem iP {env:En}{b:Bool}(h:env=Cm s t (some (.val x)) (some (.val y))) (hx:Tm 7 x) (hy:Tm 7 y) (ne:x≠y) (k:C L .above [.gl 1,x,y] σ.st=some (.bool b,g)):dE 10000 (C L) wV env σ.st=some (.ret (.bool b),env,g):=by
 subst h
 obtain ⟨b,zz,e,i⟩:=lU hx hy ⟨by decide,by decide⟩
 rw [Bool.eq_false_iff.mpr λh=>ne (i.mp h)] at e
 exact bQ (eV (cN rfl rfl e) (bQ (cY (ck rfl rfl rfl k))))
theorem ym (hs:Tm 7 s) (ht:Tm 7 t) (hk:dA q.rk s=dA q.rk t) (H:∀ x y,x∈bV s->y∈bV t->∀ σ,Ad q U σ->nR q U σ (C L .above [.gl 1,x,y]) (Gt q.rk x y)) (A:Ad q U σ):
  nR q U σ (C (L+1) .firstAbove [.gl 1,.tup (bV s),.tup (bV t)]) (FA q.rk (bV s) (bV t)):=by
 have no:∀ {P:Prop}{f:G->Option (V × G)},¬ P->f σ.st=some (.bool false,σ.st)->nR q U σ f P:=λh e=>⟨false,σ.kk,σ.kv,e,⟨λh=>(nomatch h),λp=>(h p).elim⟩,A⟩
 have one:∀ {x y:V},x∈bV s->y∈bV t->bV s=[x]->bV t=[y]->nR q U σ (C (L+1) .firstAbove [.gl 1,.tup (bV s),.tup (bV t)]) (FA q.rk (bV s) (bV t)):=λ{x y} hx hy e1 e2=>by
  have hx':=(hs.kid hx).up (m:=7) (by decide)
  have hy':=(ht.kid hy).up (m:=7) (by decide)
  have hH:=H x y hx hy σ A
  rw [e1,e2]
  by_cases e:x=y
  ·clear e1 e2 hx hy
   subst e
   exact no (λh=>(FA.one.mpr h).irr rfl) (b8 (bF (dj rfl rfl rfl (dh (gD rfl hx') rfl)) (bS rfl)))
  ·exact hH.as (λk=>b8 (bS (dj rfl rfl rfl (lP (iP rfl hx' hy' e k))))) FA.one
 have ho:ox s=ox t:=yf hs ht hk
 have ks:=λk h=>(hs.kid (k:=k) h).up (m:=7) (by decide)
 have kt:=λk h=>(ht.kid (k:=k) h).up (m:=7) (by decide)
 rcases pg hs ht with ⟨zs,tp⟩ | ne
 ·clear hs ht hk ho
  cases tp with
  | a=>exact no FA.nil rfl
  | b=>exact no FA.nil rfl
  | f=>exact one (.head _) (.head _) rfl rfl
  | g=>exact one (.head _) (.head _) rfl rfl
  | @h x1 x2 y1 y2=>
   clear one
   have m2:∀ {x y:V},y∈[x,y]:=.tail _ (.head _)
   by_cases e:x1=y1
   ·subst e
    by_cases e:x2=y2
    ·subst e
     exact no (λh=>(FA.snd.mpr h).irr rfl) (b8 (bF (dj rfl rfl rfl (dh (gD rfl (ks _ (.head _))) (dh (gD rfl (ks _ m2)) rfl))) (bS rfl)))
    ·exact (H x2 y2 m2 m2 σ A).as (λk=>b8 (bS (dj rfl rfl rfl (dh (gD rfl (ks _ (.head _))) (lP (iP rfl (ks _ m2) (kt _ m2) e k)))))) FA.snd
   ·exact (H x1 y1 (.head _) (.head _) σ A).as (λk=>b8 (bS (dj rfl rfl rfl (lP (iP rfl (ks _ (.head _)) (kt _ (.head _)) e k))))) (FA.two e)
 ·exact absurd ho ne
end
section
variable {W n m L:Nat}{cf:Fn->List V->G->Option (V × G)}{env:En}{g g1 g2 g3:G}{v x y u s t:V}{e a b c:E}{xs ys ks:List V}
variable {q:iM}{U:List V}{σ:Sg}
theorem fp (h:Tm n v) (k:e cf env g=some (v,g1)):(cI e) cf env g=some (.tup (bV v),g1):=by
 exact oZ (k.trans (congrArg (λw=>some (w,g1)) h.node)) (aj (aR h.ar.2.2) (by decide))
theorem kQ (h:Tm n v):(bV v).length<=lim:=aj h.ar.2.2 (by decide)
theorem Dr.inv {rk:Nat->Int}{us vs:List V}(h:Dr rk us vs):∃ x p y p',us=x::p/\vs=y::p'/\Gt rk x y:=by
 cases us with
 | nil=>exact h.elim
 | cons x p=>cases vs with
  | nil=>exact h.elim
  | cons y p'=>exact ⟨x,p,y,p',rfl,rfl,h⟩
theorem FA.gt {rk:Nat->Int}(al:∀ k∈bV t,Gt rk s k) (k:dA rk s=dA rk t) (f:FA rk (bV s) (bV t)):Gt rk s t:=by
 rcases f with f | ⟨e,f⟩
 ·obtain ⟨zz,zz,zz,zz,a,b,g⟩:=f.inv
  exact .lexa al k a b g
 ·obtain ⟨zz,zz,zz,zz,a,b,g⟩:=f.inv
  generalize hs:bV s=us at e a
  generalize ht:bV t=vs at e b
  cases us with
  | nil=>cases a
  | cons z us=>cases vs with
   | nil=>cases b
   | cons z' vs=>cases e; cases a; cases b; exact .lexb al k hs ht g
set_option tactic.hygienic true in
theorem A6 {rk:Nat->Int}(nk:¬ ∃ k∈bV s,k=t\/Gt rk k t) (al:∀ k∈bV t,Gt rk s k):Gt rk s t↔dA rk t < dA rk s\/(dA rk s=dA rk t/\FA rk (bV s) (bV t)):=by
 refine ⟨λg=>?_,λh=>h.elim (.head al) λh=>FA.gt al h.1 h.2⟩
 cases g with
 | eq m=>exact (nk ⟨_,m,.inl rfl⟩).elim
 | sub m g=>exact (nk ⟨_,m,.inr g⟩).elim
 | head _ k=>exact .inl k
 | lexa _ k a b g=>rw [a,b]; exact .inr ⟨k,.inl g⟩
 | lexb _ k a b g=>rw [a,b]; exact .inr ⟨k,.inr ⟨rfl,g⟩⟩
theorem sJ (hs:Tm 7 s) (ht:Tm 7 t) (A:Ad q U σ)
  (H1:∀ k∈bV s,∀ σ,Ad q U σ->nR q U σ (C (L+2) .above [.gl 1,k,t]) (Gt q.rk k t))
  (H2:∀ k∈bV t,∀ σ,Ad q U σ->nR q U σ (C (L+2) .above [.gl 1,s,k]) (Gt q.rk s k))
  (H3:∀ x y,x∈bV s->y∈bV t->∀ σ,Ad q U σ->nR q U σ (C (L+1) .above [.gl 1,x,y]) (Gt q.rk x y)):
  nR q U σ (C (L+3) .isAbove [.gl 1,s,t]) (Gt q.rk s t):=by
 obtain ⟨b1,e1,zz,i1⟩:=lU hs ht ⟨by decide,by decide⟩
 cases b1 with
 | true=>exact ⟨false,σ.kk,σ.kv,b8 (bS (eV (iI (bO rfl (da hs)) (cN rfl rfl e1)) (bQ (cY rfl)))),⟨λh=>(nomatch h),λg=>(g.irr (i1.mp rfl)).elim⟩,A⟩
 | false=>
 obtain ⟨b2,kk2,kv2,e2,i2,A2⟩:=uG (cf:=C (L+2)) (env:=[some (.val (.gl 1)),some (.val s),some (.val t),none,none,none,none]) (i:=3) (elt:=x3) (e:=cI x1) (ks:=bV s)
  (cond:=.or (.cmp .eq x3 x2) (.meth 2 .above x0 [x3,x2])) (P:=λk=>k=t\/Gt q.rk k t) A (λk hk σ A=>by
   obtain ⟨b,e,zz,i⟩:=lU (hs.kid hk) ht ⟨by decide,by decide⟩
   cases b with
   | true=>exact ⟨true,σ.kk,σ.kv,xl (cN rfl rfl e),⟨λzz=>.inl (i.mp rfl),λzz=>rfl⟩,A⟩
   | false=>exact (H1 k hk σ A).as (λk=>iI (cN rfl rfl e) (ck rfl rfl rfl k)) ⟨.inr,λh=>h.resolve_left λh=>aF (i.mpr h)⟩) (λk g=>⟨k,rfl⟩) (fp hs rfl) (kQ hs)
 have a1:=cP (W:=10000) (cf:=C (L+2)) (env:=[some (.val (.gl 1)),some (.val s),some (.val t),none,none,none,none]) (g:=σ.st) (c:=.or (.call .isVar [x1]) (.cmp .eq x1 x2)) (b1:=[.ret (.bool false)]) (b2:=[]) (iI (bO rfl (da hs)) (cN rfl rfl e1)) rfl
 cases b2 with
 | true=>
  refine ⟨true,kk2,kv2,b8 (bF a1 (bS (eV e2 (bQ (cY rfl))))),⟨λzz=>?_,λzz=>rfl⟩,A2⟩
  obtain ⟨k,hk,e | g⟩:=i2.mp rfl
  ·exact .eq (e ▸ hk)
  ·exact .sub hk g
 | false=>
 have nk:¬ ∃ k∈bV s,k=t\/Gt q.rk k t:=λh=>aF (i2.mpr h)
 obtain ⟨b3,kk3,kv3,e3,i3,A3⟩:=uG (cf:=C (L+2)) (env:=[some (.val (.gl 1)),some (.val s),some (.val t),none,none,none,none]) (i:=6) (elt:=x6) (e:=cI x2) (ks:=bV t)
  (cond:=.not (.meth 2 .above x0 [x1,x6])) (P:=λk=>¬ Gt q.rk s k) A2 (λk hk σ A=>by
   obtain ⟨b,kk,kv,e,i,A⟩:=H2 k hk σ A
   exact ⟨!b,kk,kv,pI (ck rfl rfl rfl e),by rw [← i]; cases b <;> decide,A⟩) (λk g=>⟨k,rfl⟩) (fp ht rfl) (kQ ht)
 cases b3 with
 | true=>
  refine ⟨false,kk3,kv3,b8 (bF a1 (bF (cP e2 rfl) (bS (eV (iI (bO rfl (da ht)) e3) (bQ (cY rfl)))))),⟨λh=>(nomatch h),λg=>?_⟩,A3⟩
  obtain ⟨k,hk,no⟩:=i3.mp rfl
  exact (no (g.tr (.eq hk))).elim
 | false=>
 have al:∀ k∈bV t,Gt q.rk s k:=λk hk=>Classical.byContradiction λh=>aF (i3.mpr ⟨k,hk,h⟩)
 have gi:=A6 nk al
 have pl:∀ {k:Nat}{v:V}{e:E},Tm k v->e (C (L+2)) [some (.val (.gl 1)),some (.val s),some (.val t),none,none,none,none] ((σ.kn kk2 kv2).kn kk3 kv3).st=some (v,((σ.kn kk2 kv2).kn kk3 kv3).st) ->
   (E.call .placeOfOp [.attr 2 0 x0,e]) (C (L+2)) [some (.val (.gl 1)),some (.val s),some (.val t),none,none,none,none] ((σ.kn kk2 kv2).kn kk3 kv3).st=some (.tup (jl q.rk v),((σ.kn kk2 kv2).kn kk3 kv3).st):=λh e=>
  bO (ca (gF rfl (show some (bN.val σ.rv)=_ by rw [show σ.rv=q.rv from A.rv])) (cO e)) (xH h)
 have a4:(S.asgs [4,5] [.val (.call .placeOfOp [.attr 2 0 x0,x1]),.val (.call .placeOfOp [.attr 2 0 x0,x2])]) 10000 (C (L+2)) [some (.val (.gl 1)),some (.val s),some (.val t),none,none,none,none] ((σ.kn kk2 kv2).kn kk3 kv3).st =
   some (.nxt,[some (.val (.gl 1)),some (.val s),some (.val t),none,some (.val (.tup (jl q.rk s))),some (.val (.tup (jl q.rk t))),none],((σ.kn kk2 kv2).kn kk3 kv3).st):=by
  have p1:=pl (e:=x1) hs rfl
  have p2:=pl (e:=x2) ht rfl
  exact iA p1 p2
 have P:=uL (rk:=q.rk) hs ht
 have eQ:∀ {b:Bool}{g:G},(E.or (.cmp .gt x4 x5) (.and (.cmp .eq x4 x5) (.meth 2 .firstAbove x0 [cI x1,cI x2]))) (C (L+2)) [some (.val (.gl 1)),some (.val s),some (.val t),none,some (.val (.tup (jl q.rk s))),some (.val (.tup (jl q.rk t))),none] (σ.kn kk3 kv3).st=some (.bool b,g) ->
   C (L+3) .isAbove [.gl 1,s,t] σ.st=some (.bool b,g):=λh=>
  b8 (bF a1 (bF (cP e2 rfl) (bF (cP (iI (bO rfl (da ht)) e3) rfl) (bF a4 (bS (cY h))))))
 rcases Int.lt_trichotomy (dA q.rk s) (dA q.rk t) with k | k | k
 ·rw [bq (Int.lt_asymm k),bq (Int.ne_of_lt k)] at P
  exact ⟨false,kk3,kv3,eQ (iI (cN rfl rfl P.1) (pc (cN rfl rfl P.2))),⟨λh=>(nomatch h),λg=>(gi.mp g).elim (λh=>absurd h (Int.lt_asymm k)) λh=>absurd h.1 (Int.ne_of_lt k)⟩,A3⟩
 ·rw [bq (show ¬ dA q.rk t < dA q.rk s from λh=>Int.ne_of_lt h k.symm),be k] at P
  obtain ⟨b,kk,kv,e,i,A4⟩:=ym hs ht k H3 A3
  exact ⟨b,kk,kv,eQ (iI (cN rfl rfl P.1) (yn (cN rfl rfl P.2) (ck rfl rfl (ca (fp hs rfl) (cO (fp ht rfl))) e))),i.trans ⟨λf=>gi.mpr (.inr ⟨k,f⟩),λg=>(gi.mp g).elim (λh=>absurd k.symm (Int.ne_of_lt h)) And.right⟩,A4⟩
 ·rw [be k] at P
  exact ⟨true,kk3,kv3,eQ (xl (cN rfl rfl P.1)),⟨λzz=>gi.mpr (.inl k),λzz=>rfl⟩,A3⟩
theorem sY (hs:Tm 7 s) (ht:Tm 7 t) (hU:V.tup [s,t]∈U) (A:Ad q U σ)
  (H1:∀ k∈bV s,∀ σ,Ad q U σ->nR q U σ (C (L+2) .above [.gl 1,k,t]) (Gt q.rk k t))
  (H2:∀ k∈bV t,∀ σ,Ad q U σ->nR q U σ (C (L+2) .above [.gl 1,s,k]) (Gt q.rk s k))
  (H3:∀ x y,x∈bV s->y∈bV t->∀ σ,Ad q U σ->nR q U σ (C (L+1) .above [.gl 1,x,y]) (Gt q.rk x y)):
  nR q U σ (C (L+4) .above [.gl 1,s,t]) (Gt q.rk s t):=by
 have gZ:∀ {σ:Sg}{b:Bool},Ad q U σ->ed (.tup [s,t]) σ.kk σ.kv=some (some (V.bool b))->(E.dget (.attr 2 1 x0) (.tup [x1,x2])) (C (L+3)) [some (.val (.gl 1)),some (.val s),some (.val t)] σ.st=some (.bool b,σ.st):=λA e=>
  bL rfl (bL rfl (bL (bL ((if_pos (jx ⟨s,t,rfl,hs,ht⟩ A.kn.pr)).trans e) rfl) rfl))
 have has:∀ {r:Option V},ed (.tup [s,t]) σ.kk σ.kv=some r->(E.dhas true (.attr 2 1 x0) (.tup [x1,x2])) (C (L+3)) [some (.val (.gl 1)),some (.val s),some (.val t)] σ.st=some (.bool (r.isSome != true),σ.st):=λe=>
  bL rfl (bL rfl (bL ((if_pos (jx ⟨s,t,rfl,hs,ht⟩ A.kn.pr)).trans e) rfl))
 rcases A.kn.look hs ht with ⟨e,no⟩ | ⟨b,e,i⟩
 ·obtain ⟨b,kk,kv,e1,i1,A1⟩:=sJ (L:=L) hs ht A H1 H2 H3
  have P:=A1.kn.put (b:=b) hs ht hU i1
  have A2:Ad q U (σ.kn (db (.tup [s,t]) (.bool b) kk kv).1 (db (.tup [s,t]) (.bool b) kk kv).2):=⟨{ A1.ok with kk:=P.1.pr,kv:=w0 A1.ok.kv A1.kn.len },A1.rv,P.1,A1.le⟩
  obtain ⟨b',e',i'⟩:=(P.1.look hs ht).resolve_left λh=>h.2 P.2
  refine ⟨b',_,_,b8 (bF (eV (has e) (bQ (uf (ck rfl rfl rfl e1) rfl (x:=.tup [s,t]) ?_ rfl ⟨jx ⟨s,t,rfl,hs,ht⟩ A1.kn.pr,aI (l6 A1.kn.nd A1.kn.sub) A1.le⟩ rfl))) (bS (cY (gZ A2 e')))),i',A2⟩
  show (E.tup [x1,x2]) (C (L+3)) (iG [some (.val (.gl 1)),some (.val s),some (.val t)]) []=_
  rw [Ac hs ht]
  rfl
 ·exact ⟨b,σ.kk,σ.kv,b8 (bF (cP (has e) rfl) (bS (cY (gZ A e)))),i,A⟩
theorem gQ {c n m N:Nat}:(c+2 * (n+1+(m+1))+3=c+2 * (n+m)+3+4/\c+2 * (n+(m+1))+3=c+2 * (n+m)+3+2/\c+2 * (n+1+m)+3=c+2 * (n+m)+3+2/\c+1+2 * (n+m)+3=c+2 * (n+m)+3+1) /\
  (n+1+(m+1) < N+1->n+(m+1) < N/\n+1+m < N/\n+m < N):=
 ⟨⟨congrArg (λk=>c+2 * k+3) (Nat.add_add_add_comm n 1 m 1),rfl,congrArg (λk=>c+2 * k+3) (Nat.add_right_comm n 1 m),congrArg (·+3) (Nat.add_right_comm c 1 (2 * (n+m)))⟩,λh=>
  have l2:n+1+m < N:=Nat.lt_of_succ_lt_succ h
  have l1:n+m+1 < N:=Nat.add_right_comm n 1 m ▸ l2
  ⟨l1,l2,Nat.lt_of_succ_lt l1⟩⟩
theorem qS (N:Nat):∀ {n m c:Nat}{s t:V}{σ:Sg},n+m < N->Tm n s->Tm m t->n<=7->m<=7->(∀ x y,dN x s->dN y t->V.tup [x,y]∈U)->Ad q U σ->nR q U σ (C (c+2 * (n+m)+3) .above [.gl 1,s,t]) (Gt q.rk s t):=by
 induction N with
 | zero=>exact λh=>absurd h (aY _)
 | succ N ih=>
  intro n m c s t σ hN hs ht h7 h7' hU A
  obtain ⟨n,rfl,ks⟩:=hs.inv
  obtain ⟨m,rfl,kt⟩:=ht.inv
  obtain ⟨⟨f1,f2,f3,f4⟩,l⟩:=gQ (c:=c) (n:=n) (m:=m) (N:=N)
  have l:=l hN
  have h6:=aJ h7
  have h6':=aJ h7'
  rw [f1]
  refine sY (hs.up h7) (ht.up h7') (hU s t .refl .refl) A (λk hk σ A=>?_) (λk hk σ A=>?_) λx y hx hy σ A=>?_
  ·rw [← f2]; exact ih l.1 (ks k hk) ht h6 h7' (λx y a b=>hU x y (.kid hk a) b) A
  ·rw [← f3]; exact ih l.2.1 hs (kt k hk) h7 h6' (λx y a b=>hU x y a (.kid hk b)) A
  ·rw [← f4]; exact ih l.2.2 (ks x hx) (kt y hy) h6 h6' (λu w a b=>hU u w (.kid hx a) (.kid hy b)) A
end
section
variable {W n m L:Nat}{cf:Fn->List V->G->Option (V × G)}{env:En}{g g1 g2 g3:G}{v x y u s t l r:V}{e a b c:E}{xs ys ks:List V}
variable {q:iM}{U:List V}{σ:Sg}
noncomputable abbrev Ek (k:Nat):Str:=Str.ofString ("made"++toString ((k:Nat):Int))
theorem yN {k:Int}(h:e cf env g=some (.int k,g1)) (hk:0<=k/\k < 1000000):(E.fmade e) cf env g=some (.str (Str.ofString ("made"++toString k)),g1):=bL h (bL (bL rfl (if_pos hk)) rfl)
noncomputable def iQ (s t:V):List V:=(iC 7 s).flatMap λa=>(iC 7 t).map λb=>.tup [a.2,b.2]
theorem lY (hs:Tm 7 s) (ht:Tm 7 t):∀ x y,dN x s->dN y t->V.tup [x,y]∈iQ s t:=λx y a b=>by
 obtain ⟨p,hp⟩:=kO hs a
 obtain ⟨p',hp'⟩:=kO ht b
 exact List.mem_flatMap.mpr ⟨_,hp,bx.mpr ⟨_,hp',rfl⟩⟩
theorem mM (hs:Tm 7 s) (ht:Tm 7 t):(iQ s t).length<=20000:=by
 have h1:=fM hs
 have h2:=fM ht
 have:∀ l:List (List Nat × V),(l.flatMap λa=>(iC 7 t).map λb=>V.tup [a.2,b.2]).length=l.length * (iC 7 t).length:=λl=>by
  induction l with
  | nil=>rw [List.flatMap_nil,List.length_nil,List.length_nil,Nat.zero_mul]
  | cons a l i=>rw [List.flatMap_cons,aB,i,aw,aO,Nat.succ_mul,Nat.add_comm]
 rw [iQ,this]
 exact aj (Nat.mul_le_mul (au h1) (au h2)) (by decide)
theorem Ad.more (A:Ad q U σ) (U':List V) (h:(U++U').length < lim):Ad q (U++U') σ:=⟨A.ok,A.rv,{ A.kn with sub:=λv hv=>aP _ (A.kn.sub v hv) },h⟩
noncomputable abbrev Sg.up (s:Sg):Sg:={ s with ct:=s.ct+1 }
noncomputable abbrev Ce:List S:=[.iff (.meth 2 .above (.attr 3 0 x0) [x3,x4]) [.sattr 3 2 x0 (cK (.attr 3 2 x0) i1),.ret (.new 0 .ruleInit [.fmade (.attr 3 2 x0),x3,x4,.tup []])] []]
noncomputable abbrev Bg (s t:V) (a b:Option bN):En:=[some (.val (.gl 2)),some (.val s),some (.val t),a,b]
theorem Ad.up (A:Ad q U σ):Ad q U σ.up:=⟨{ A.ok with },A.rv,A.kn,A.le⟩
theorem p9 {kk kv:List V}(A:Ad q U (σ.kn kk kv)) (hl:Tm 7 l) (hr:Tm 7 r) (hc:σ.ct < 1000) (h:C (n+12) .above [.gl 1,l,r] σ.st=some (.bool true,(σ.kn kk kv).st)):
  dE 10000 (C (n+12)) Ce (Bg s t (some (.val l)) (some (.val r))) σ.st=some (.ret (bY (.str (Ek (σ.ct+1)),l,r)),Bg s t (some (.val l)) (some (.val r)),(σ.kn kk kv).up.st):=by
 refine bQ (eV (ck (x:=.gl 1) rfl rfl rfl h) (bF (dU (g3:=(σ.kn kk kv).up.st) rfl rfl rfl) (bQ (cY (l8 (ca (yN (k:=((σ.ct+1:Nat):Int)) rfl ⟨Int.natCast_nonneg _,Int.ofNat_lt.mpr (Nat.lt_trans (Nat.succ_lt_succ hc) (by decide))⟩) (ca rfl (ca rfl (cO rfl)))) (pO A.up.ok.gd (hl.up (by decide)) (hr.up (by decide))))))))
inductive wu (q:iM) (U:List V) (σ:Sg) (s t:V) (o:Option (V × G)):Prop
 | mk (nm:Str) (l r:V) (kk kv U':List V):o=some (bY (.str nm,l,r),(σ.kn kk kv).up.st)->Gt q.rk l r->((l=s/\r=t)\/(l=t/\r=s))->Ad q U' (σ.kn kk kv).up->U'.length<=U.length+40000->wu q U σ s t o
theorem n0 (hs:Tm 7 s) (ht:Tm 7 t) (ne:s≠t) (hc:σ.ct < 1000) (A:Ad q U σ) (hU:U.length+40000 < lim):wu q U σ s t (C (n+40) .turned [.gl 2,s,t] σ.st):=by
 have hl:(U++(iQ s t++iQ t s)).length<=U.length+40000:=by rw [aB,aB]; exact bu (Nat.add_le_add (mM hs ht) (mM ht hs)) _
 obtain ⟨b,kk,kv,e,i,A1⟩:=qS 15 (c:=n+8) (by decide) hs ht (ak _) (ak _) (λx y a b=>aQ _ (aP _ (lY hs ht x y a b))) (A.more (iQ s t++iQ t s) (aI hl hU))
 cases b with
 | true=>exact ⟨_,s,t,kk,kv,_,b8 (bS (dj rfl rfl rfl (lP (p9 (n:=n+27) A1 hs ht hc e)))),i.mp rfl,.inl ⟨rfl,rfl⟩,A1.up,hl⟩
 | false=>
  obtain ⟨b,kk2,kv2,e2,i2,A2⟩:=qS 15 (c:=n+8) (by decide) ht hs (ak _) (ak _) (λx y a b=>aQ _ (aQ _ (lY ht hs x y a b))) A1
  have g:Gt q.rk t s:=(Gt.total 15 (by decide) hs ht ne).resolve_left λg=>aF (i.mpr g)
  rw [i2.mpr g] at e2
  exact ⟨_,t,s,kk2,kv2,_,b8 (bS (dj rfl rfl rfl (dh (e1:=Bg s t (some (.val s)) (some (.val t))) (g1:=(σ.kn kk kv).st) (bQ (cP (ck (x:=.gl 1) rfl rfl rfl e) rfl)) (lP (p9 (n:=n+27) (σ:=σ.kn kk kv) A2 ht hs hc e2))))),g,.inr ⟨rfl,rfl⟩,A2.up,hl⟩
end
section
variable {W n m L:Nat}{cf:Fn->List V->G->Option (V × G)}{env:En}{g g1 g2 g3:G}{v x y u s t l r:V}{e a b c:E}{xs ys ks:List V}
variable {rk:Nat->Int}{σ:Sg}{nm:V}
noncomputable abbrev Sg.wr (s:Sg) (x:bN):Sg:={ s with ru:=x }
noncomputable abbrev Sg.rs (s:Sg) (Rs:List (V × V × V)):Sg:=s.wr (.val (.lst (Rs.map bY)))
theorem du.rs {Rs:List (V × V × V)}(ok:du σ) (h:jH Rs):du (σ.rs Rs):={ ok with ru:=by exact oV h }
noncomputable abbrev kC (q:V × V × V) (a2 a3 a4 a5:Option bN):En:=[some (.val (.gl 2)),some (.val (bY q)),a2,a3,a4,a5]
theorem fO {k v:V}(h:k∈bV v):¬ dN v k:=λs=>Nat.lt_irrefl _ (aI s.size (cL h))
theorem Pt.same {p:List Nat}(h:Pt v p v):p=[]:=by
 cases h with
 | here=>rfl
 | f h=>exact (fO aa h.sub).elim
 | g h=>exact (fO aa h.sub).elim
 | h1 h=>exact (fO aa h.sub).elim
 | h2 h=>exact (fO (ai _ aa) h.sub).elim
def Do (q1 q2:V × V × V):Prop:=∀ p,Pt q2.2.1 p q1.2.1->p=[]/\q1.2.2=q2.2.2
noncomputable abbrev xx:List S:=[.expr (.meth 3 .meet x0 [x4,x1]),.iff (.cmp .ne (.attr 0 0 x4) (.attr 0 0 x1)) [.expr (.meth 3 .meet x0 [x1,x4])] []]
theorem u6 {q1 q4:V × V × V}{a2 a3 a4 a5:Option bN}(t1:T7 q1) (t4:T7 q4) (n1:∃ s,q1.1=.str s) (n4:∃ s,q4.1=.str s) (o1:Do q4 q1) (o2:Do q1 q4):
  dE 10000 (C (n+15)) xx (bZ (kC q1 a2 a3 a4 a5) [4] [bY q4]) σ.st=some (.nxt,kC q1 a2 a3 (some (.val (bY q4))) a5,σ.st):=by
 obtain ⟨s,e⟩:=n1
 obtain ⟨s',e'⟩:=n4
 have hc:(E.cmp .ne (.attr 0 0 x4) (.attr 0 0 x1)) (C (n+15)) (kC q1 a2 a3 (some (.val (bY q4))) a5) σ.st=some (.bool (!decide (s'=s)),σ.st):=cN (x:=.str s') (y:=.str s) (gF rfl (by rw [← e']; rfl)) (gF rfl (by rw [← e]; rfl)) rfl
 refine bF (mD (ck rfl rfl rfl (th t4 t1 o1))) (bQ ?_)
 cases h:!decide (s'=s) with
 | true=>rw [h] at hc; exact eV hc (bQ (mD (ck rfl rfl rfl (th t1 t4 o2))))
 | false=>rw [h] at hc; exact cP hc rfl
theorem lL {q1:V × V × V}{Rs:List (V × V × V)}{φ:V × V × V->V}{a2 a3 a4 a5:Option bN}(hR:jH Rs) (ok:du (σ.rs Rs)) (t1:T7 q1) (n1:∃ s,q1.1=.str s)
  (hs:∀ q∈Rs,C (n+15) .simpler [.gl 2,q.2.2] (σ.rs Rs).st=some (φ q,(σ.rs Rs).st)/\T7 (q.1,q.2.1,φ q)/\Do (q.1,q.2.1,φ q) q1/\Do q1 (q.1,q.2.1,φ q)):
  ∃ env,dE 10000 (C (n+15)) [.freezeA 3 3 x0,
   .sattr 3 3 x0 (eK (.new 0 .ruleInit [.attr 0 0 x5,eL x5,.meth 3 .simpler x0 [eR x5],.tup []]) 5 (.attr 3 3 x0)),
   fw [4] (.attr 3 3 x0) xx] (kC q1 a2 a3 a4 a5) (σ.wr (.ol (Rs.map bY))).st=some (.nxt,env,(σ.rs (Rs.map λq=>(q.1,q.2.1,φ q))).st):=by
 have a1:(S.freezeA 3 3 x0) 10000 (C (n+15)) (kC q1 a2 a3 a4 a5) (σ.wr (.ol (Rs.map bY))).st=some (.nxt,kC q1 a2 a3 a4 a5,(σ.rs Rs).st):=rfl
 have its:cJ .plain 1 (.lst (Rs.map bY)) .none=some (Rs.map λq=>[bY q]):=(dL (iq hR.1)).trans (by rw [List.map_map]; rfl)
 have its2:cJ .plain 1 (.lst ((Rs.map λq=>(q.1,q.2.1,φ q)).map bY)) .none=some (Rs.map λq=>[bY (q.1,q.2.1,φ q)]):=(dL (iq (by rw [aw]; exact hR.1))).trans (by rw [List.map_map,List.map_map]; rfl)
 have c:(eK (.new 0 .ruleInit [.attr 0 0 x5,eL x5,.meth 3 .simpler x0 [eR x5],.tup []]) 5 (.attr 3 3 x0)) (C (n+15)) (kC q1 a2 a3 a4 a5) (σ.rs Rs).st=some (.lst ((Rs.map λq=>(q.1,q.2.1,φ q)).map bY),(σ.rs Rs).st):=by
  rw [List.map_map]
  refine cy (x:=.lst (Rs.map bY)) (gF rfl rfl) rfl its (fB (f:=λit=>fV _ _ (bZ (kC q1 a2 a3 a4 a5) [5] it)) (q:=λq=>[bY q]) (φ:=bY∘λq=>(q.1,q.2.1,φ q)) λq hq=>eh ?_)
  obtain ⟨e,⟨t,t'⟩,zz⟩:=hs q hq
  obtain ⟨s,hn⟩:=(hR.2 q hq).2
  show _=some (bY (q.1,q.2.1,φ q),_)
  rw [hn]
  exact l8 (ca (gF (x:=bY q) rfl (show some (bN.val q.1)=_ by rw [hn])) (ca rfl (ca (ck rfl rfl rfl e) (cO rfl)))) (pO (n:=n+3) ok.gd (t.up (by decide)) (t'.up (by decide)))
 have lp:∀ {Is:List (V × V × V)},(∀ q∈Is,q∈Rs)->∀ {a4:Option bN},∃ env,gG (dE 10000 (C (n+15)) xx) [4] (Is.map λq=>[bY (q.1,q.2.1,φ q)]) (kC q1 a2 a3 a4 a5) (σ.rs (Rs.map λq=>(q.1,q.2.1,φ q))).st=some (.nxt,env,(σ.rs (Rs.map λq=>(q.1,q.2.1,φ q))).st):=by
  intro Is
  induction Is with
  | nil=>exact λzz zz=>⟨_,rfl⟩
  | cons q Is ih=>
   intro h a4
   obtain ⟨env,e⟩:=ih (λq hq=>h q (ai _ hq)) (a4:=some (.val (bY (q.1,q.2.1,φ q))))
   have hq:=h q aa
   obtain ⟨zz,t,o1,o2⟩:=hs q hq
   exact ⟨env,dh (u6 (q4:=(q.1,q.2.1,φ q)) t1 t n1 (hR.2 q hq).2 o1 o2) e⟩
 obtain ⟨env,e⟩:=lp (λq h=>h) (a4:=a4)
 exact ⟨env,bF a1 (bF (dU c rfl rfl) (bQ (dj (x:=.lst ((Rs.map λq=>(q.1,q.2.1,φ q)).map bY)) (gF rfl rfl) rfl its2 e)))⟩
theorem du.wr {Rs:List (V × V × V)}(ok:du σ) (h:jH Rs):du (σ.wr (.ol (Rs.map bY))):={ ok with ru:=by exact oV h }
theorem jR {q1:V × V × V}{Rs:List (V × V × V)}{ss:List S}{r:Option (Fl × En × G)}(ok:du σ) (h1:jH [q1]) (k:dE 10000 (C (n+15)) ss (kC q1 (some (.val (.lst (Rs.map bY)))) (some (.val (dJ [q1]))) none none) (σ.wr (.ol [bY q1])).st=r):
  dE 10000 (C (n+15)) (.takeAttr 2 3 3 x0 [x1]::.asg 3 (.new 1 .normInit [.lst [x1]])::ss) (kC q1 none none none none) (σ.rs Rs).st=r:=
 bF (e1:=kC q1 (some (.val (.lst (Rs.map bY)))) none none none) (g1:=(σ.wr (.ol [bY q1])).st) rfl (bF (cV (l8 (cO rfl) (lZ (n:=n+14) (Rs:=[q1]) (ok.wr h1).gd h1))) k)
theorem DJ {q1:V × V × V}(ok:du σ) (h1:jH [q1]) (t1:T7 q1) (hs:C (n+15) .simpler [.gl 2,q1.2.2] (σ.rs [q1]).st=some (q1.2.2,(σ.rs [q1]).st)):C (n+16) .letIn [.gl 2,bY q1] (σ.rs []).st=some (.none,(σ.rs [q1]).st):=by
 obtain ⟨env,e⟩:=lL (n:=n) (σ:=σ) (q1:=q1) (Rs:=[q1]) (φ:=λq=>q.2.2) (a2:=some (.val (.lst []))) (a3:=some (.val (dJ [q1]))) (a4:=none) (a5:=none) h1 (ok.rs h1) t1 (h1.2 q1 aa).2 λq hq=>by
  cases ay.mp hq
  exact ⟨hs,t1,λp h=>⟨h.same,rfl⟩,λp h=>⟨h.same,rfl⟩⟩
 exact jq (jR (Rs:=[]) ok h1 (bF rfl e))
noncomputable abbrev Eg:List S:=[.iff (.cmp .isN (.meth 1 .stepOf x3 [eL x4]) .none) [.appA 3 3 x0 x4] [.expr (.meth 3 .note x0 [eL x4,eR x4])]]
theorem Dw {q1 q0:V × V × V}(ok:du σ) (h1:jH [q1]) (t1:T7 q1) (t0:T7 q0) (hw:σ.wk.length < 1000) (ne:q0.2.1≠q0.2.2) (hit:dN q1.2.1 q0.2.1) (hs:C (n+15) .simpler [.gl 2,q1.2.2] ((σ.noted q0.2.1 q0.2.2).rs [q1]).st=some (q1.2.2,((σ.noted q0.2.1 q0.2.2).rs [q1]).st)) (ok2:du (σ.noted q0.2.1 q0.2.2)):
  C (n+16) .letIn [.gl 2,bY q1] (σ.rs [q0]).st=some (.none,((σ.noted q0.2.1 q0.2.2).rs [q1]).st):=by
 obtain ⟨env,e⟩:=lL (n:=n) (σ:=σ.noted q0.2.1 q0.2.2) (q1:=q1) (Rs:=[q1]) (φ:=λq=>q.2.2) (a2:=some (.val (.lst [bY q0]))) (a3:=some (.val (dJ [q1]))) (a4:=some (.val (bY q0))) (a5:=none) h1 (ok2.rs h1) t1 (h1.2 q1 aa).2 λq hq=>by
  cases ay.mp hq
  exact ⟨hs,t1,λp h=>⟨h.same,rfl⟩,λp h=>⟨h.same,rfl⟩⟩
 rcases fZ (n:=n+2) (g:=(σ.wr (.ol [bY q1])).st) h1 (t0.1.up (by decide)) with ⟨zz,no⟩ | ⟨e1,y⟩
 ·exact (no q1 aa hit).elim
 ·cases y
  have N:=(oz (n:=n+5) (ok.wr h1) hw t0.1 t0.2).2 ne
  exact jq (jR (Rs:=[q0]) ok h1 (bF (dj rfl rfl rfl (dh (bQ (cP (cN (ck rfl rfl rfl e1) rfl rfl) (bQ (mD (ck rfl rfl rfl N))))) rfl)) e))
theorem DH {q1 q0:V × V × V}{φ:V × V × V->V}(ok:du σ) (h1:jH [q1]) (h2:jH [q1,q0]) (t1:T7 q1) (t0:T7 (q0.1,q0.2.1,φ q0)) (off:¬ dN q1.2.1 q0.2.1/\¬ dN q0.2.1 q1.2.1) (h:φ q1=q1.2.2)
  (hs:∀ q∈[q1,q0],C (n+15) .simpler [.gl 2,q.2.2] (σ.rs [q1,q0]).st=some (φ q,(σ.rs [q1,q0]).st)):
  C (n+16) .letIn [.gl 2,bY q1] (σ.rs [q0]).st=some (.none,(σ.rs [q1,(q0.1,q0.2.1,φ q0)]).st):=by
 obtain ⟨env,e⟩:=lL (n:=n) (σ:=σ) (q1:=q1) (Rs:=[q1,q0]) (φ:=φ) (a2:=some (.val (.lst [bY q0]))) (a3:=some (.val (dJ [q1]))) (a4:=some (.val (bY q0))) (a5:=none) h2 (ok.rs h2) t1 (h1.2 q1 aa).2 λq hq=>by
  refine ⟨hs q hq,?_⟩
  rcases az.mp hq with e | e
  ·cases e; rw [h]; exact ⟨t1,λp h=>⟨h.same,rfl⟩,λp h=>⟨h.same,rfl⟩⟩
  ·cases ay.mp e; exact ⟨t0,λp h=>(off.1 h.sub).elim,λp h=>(off.2 h.sub).elim⟩
 have e':(σ.rs ([q1,q0].map λq=>(q.1,q.2.1,φ q)))=σ.rs [q1,(q0.1,q0.2.1,φ q0)]:=by show σ.rs [(q1.1,q1.2.1,φ q1),_]=_; rw [h]
 rw [e'] at e
 rcases fZ (n:=n+2) (g:=(σ.wr (.ol [bY q1])).st) h1 (h2.2 q0 (ai _ aa)).1.1 with ⟨e1,zz⟩ | ⟨zz,y⟩
 ·exact jq (jR (Rs:=[q0]) ok h1 (bF (dj rfl rfl rfl (dh (bQ (eV (cN (ck rfl rfl rfl e1) rfl rfl) (bQ rfl))) rfl)) e))
 ·cases y with | mk hq o _=>cases ay.mp hq; exact (off.1 o.sub).elim
end
section
variable {W n m L:Nat}{cf:Fn->List V->G->Option (V × G)}{env:En}{g g1 g2 g3:G}{v x y u s t l r:V}{e a b c:E}{xs ys ks:List V}
variable {rk:Nat->Int}{σ:Sg}{nm:V}{ws rest:List (V × V)}{w w':V × V}
noncomputable abbrev Sg.wt (s:Sg) (ws:List (V × V)):Sg:={ s with wk:=ws.map dG,wv:=ws.map λzz=>V.bool true }
def yF (p:V × V):Prop:=Tm 7 p.1/\Tm 7 p.2
theorem yF.pr {p:V × V}(h:yF p):fQ (dG p):=⟨_,_,rfl,h.1,h.2⟩
inductive qD:List (V × V)->V × V->List (V × V)->Prop
 | one {w:V × V}:qD [w] w []
 | fst {w w':V × V}:w≠w'->qD [w,w'] w [w']
 | snd {w w':V × V}:w≠w'->qD [w',w] w [w']
theorem zB {p p':V × V}(h:dG p=dG p'):p=p':=by
 exact av (congrArg iV h)
theorem pB {p p':V × V}(h:yF p) (h':yF p'):(p=p'->fU (dG p) (dG p')=some true)/\(p≠p'->fU (dG p) (dG p')=some false):=by
 obtain ⟨t,e,i⟩:=oC h.pr h'.pr
 refine ⟨λh=>?_,λh=>?_⟩
 ·rw [e,i.mpr (congrArg dG h)]
 ·rw [e,Bool.eq_false_iff.mpr λq=>h (zB (i.mp q))]
theorem sr {i j:Int × List V}{t:Bool}(h1:se cf x g=some (u,g1)) (k1:xO u=some i) (h2:se cf y g1=some (v,g2)) (k2:xO v=some j) (q:BU (.int j.1::j.2) (.int i.1::i.2)=some t):mE cf [x,y] g=some (cond t y x,g2):=
 (if_pos (c:=([]:List V)=[]) (e:=none) rfl).trans (bL h1 (bL k1 (bL h2 (bL k2 (bL q rfl)))))
theorem sg (ht:∀ p∈ws,yF p) (h:(∃ w,ws=[w])\/∃ w w',w≠w'/\ws=[w,w']):∃ w rest,qD ws w rest/\mE (C (n+10)) (ws.map dG) g=some (dG w,g):=by
 rcases h with ⟨w,rfl⟩ | ⟨w,w',ne,rfl⟩
 ·have hw:=ht w aa
  obtain ⟨i,ss,is,e,zz⟩:=mj (n:=n) (g:=g) hw.1 hw.2
  exact ⟨w,[],.one,bL (o:=se (C (n+10)) (dG w) g) e rfl⟩
 ·have hw:=ht w aa
  have hw':=ht w' (ai _ aa)
  obtain ⟨i,ss,is,e,a1,a2⟩:=mj (n:=n) (g:=g) hw.1 hw.2
  obtain ⟨i',ss',is',e',b1,b2⟩:=mj (n:=n) (g:=g) hw'.1 hw'.2
  obtain ⟨b,q⟩:=y6 (i:=i) (j:=i') a1 b1 a2 b2
  have f:mE (C (n+10)) ([w,w'].map dG) g=some (cond b (dG w') (dG w),g):=sr e rfl e' rfl q
  clear a1 a2 b1 b2 e e' ht hw hw' q ss ss'
  cases b with
  | true=>exact ⟨w',[w],.snd ne.symm,f⟩
  | false=>exact ⟨w,[w'],.fst ne,f⟩
theorem vZ (P:qD ws w rest) (ht:∀ p∈ws,yF p):ed (dG w) (ws.map dG) (ws.map λzz=>V.bool true)=some (some (.bool true))/\qd (dG w) (ws.map dG) (ws.map λzz=>V.bool true)=(rest.map dG,rest.map λzz=>V.bool true):=by
 cases P with
 | one=>
  have e:=(pB (ht w aa) (ht w aa)).1 rfl
  exact ⟨bL e rfl,if_pos e⟩
 | fst ne=>
  have e:=(pB (ht w aa) (ht w aa)).1 rfl
  exact ⟨bL e rfl,if_pos e⟩
 | snd ne=>
  have hw:=ht w (ai _ aa)
  have e:=(pB hw hw).1 rfl
  have e':=(pB (ht _ aa) hw).2 ne.symm
  refine ⟨bL e' (bL e rfl),(if_neg (by rw [e']; exact λh=>nomatch h)).trans ?_⟩
  exact congrArg (λr:List V × List V=>(dG _::r.1,V.bool true::r.2)) (if_pos e)
theorem kW {s:Sg}(h:s.wk=[]):C (n+1) .step [.gl 2] s.st=some (.bool false,s.st):=by cases s; cases h; rfl
noncomputable abbrev fI (a1 a2 a3 a4:Option bN):En:=[some (.val (.gl 2)),a1,a2,a3,a4]
noncomputable abbrev um:List S:=[.asgs [2,3] [.val (.meth 3 .simpler x0 [hd x1]),.val (.meth 3 .simpler x0 [.idx x1 i1])],
 .iff (.cmp .ne x2 x3) [
  .asg 4 (.meth 3 .turned x0 [x2,x3]),
  .iff (.cmp .isN x4 .none) [.stuck] [.expr (.meth 3 .letIn x0 [x4])]] [],
 .ret (.bool true)]
theorem oh (ht:∀ p∈ws,yF p) (h:(∃ w,ws=[w])\/∃ w w',w≠w'/\ws=[w,w']):
  ∃ w rest,qD ws w rest/\∀ {env:En}{s2:Sg},dE 10000 (C (n+41)) um (fI (some (.val (dG w))) none none none) (σ.wt rest).st=some (.ret (.bool true),env,s2.st)->C (n+42) .step [.gl 2] (σ.wt ws).st=some (.bool true,s2.st):=by
 obtain ⟨w,rest,P,e⟩:=sg (n:=n+31) (g:=(σ.wt ws).st) ht h
 refine ⟨w,rest,P,λ{env s2} k=>?_⟩
 have pk:∀ v∈ws.map dG,fQ v:=λv hv=>by obtain ⟨p,hp,rfl⟩:=bx.mp hv; exact (ht p hp).pr
 have wm:w∈ws:=by cases P with | one=>exact aa | fst=>exact aa | snd=>exact ai _ aa
 have ne:(ws.map dG).isEmpty=false:=by rcases h with ⟨w,rfl⟩ | ⟨w,w',_,rfl⟩ <;> rfl
 have len:(ws.map dG).length < lim:=by rcases h with ⟨w,rfl⟩ | ⟨w,w',_,rfl⟩ <;> exact br (Nat.lt_succ_self _) (aE rfl)
 have a0:(E.dempty (.attr 3 5 x0)) (C (n+41)) (fI none none none none) (σ.wt ws).st=some (.bool false,(σ.wt ws).st):=bL rfl (congrArg (λb=>some (V.bool b,(σ.wt ws).st)) ne)
 have a1:(E.sortedFirst (.attr 3 5 x0)) (C (n+41)) (fI none none none none) (σ.wt ws).st=some (dG w,(σ.wt ws).st):=bL rfl ((if_pos (aG.mpr λv hv=>(pk v hv).key)).trans e)
 have a2:(S.popDA 3 5 x0 x1) 10000 (C (n+41)) (fI (some (.val (dG w))) none none none) (σ.wt ws).st=some (.nxt,fI (some (.val (dG w))) none none none,(σ.wt rest).st):=by
  obtain ⟨d1,d2⟩:=vZ P ht
  exact bL rfl (bL rfl (bL rfl ((if_pos ⟨jx (ht w wm).pr pk,rfl,len⟩).trans (bL (bL d1 rfl) (bL (congrArg (λr:List V × List V=>dz (σ.wt ws).st 3 5 (.od r.1 r.2) (.gl 2)) d2) rfl)))))
 exact b8 (bF (cP a0 rfl) (bF (cV a1) (bF a2 k)))
theorem zq {s2:Sg}{x:V}(hx:Tm 7 x) (h1:C (n+41) .simpler [.gl 2,w.1] s2.st=some (x,s2.st)) (h2:C (n+41) .simpler [.gl 2,w.2] s2.st=some (x,s2.st)):
  ∃ env,dE 10000 (C (n+41)) um (fI (some (.val (dG w))) none none none) s2.st=some (.ret (.bool true),env,s2.st):=by
 obtain ⟨b,zz,e,i⟩:=lU hx hx ⟨by decide,by decide⟩
 rw [i.mpr rfl] at e
 have q1:(E.meth 3 .simpler x0 [hd x1]) (C (n+41)) (fI (some (.val (dG w))) none none none) s2.st=some (x,s2.st):=ck rfl rfl rfl h1
 have q2:(E.meth 3 .simpler x0 [.idx x1 i1]) (C (n+41)) (fI (some (.val (dG w))) none none none) s2.st=some (x,s2.st):=ck rfl rfl rfl h2
 exact ⟨_,bF (e1:=fI (some (.val (dG w))) (some (.val x)) (some (.val x)) none) (g1:=s2.st) (iA q1 q2) (bF (cP (cN rfl rfl e) rfl) (bS rfl))⟩
theorem tR {s2 s3 s4:Sg}{x y:V}{q1:V × V × V}(hx:Tm 7 x) (hy:Tm 7 y) (ne:x≠y) (h1:C (n+41) .simpler [.gl 2,w.1] s2.st=some (x,s2.st)) (h2:C (n+41) .simpler [.gl 2,w.2] s2.st=some (y,s2.st))
  (h3:C (n+41) .turned [.gl 2,x,y] s2.st=some (bY q1,s3.st)) (h4:C (n+41) .letIn [.gl 2,bY q1] s3.st=some (.none,s4.st)):
  ∃ env,dE 10000 (C (n+41)) um (fI (some (.val (dG w))) none none none) s2.st=some (.ret (.bool true),env,s4.st):=by
 obtain ⟨b,zz,e,i⟩:=lU hx hy ⟨by decide,by decide⟩
 rw [Bool.eq_false_iff.mpr λh=>ne (i.mp h)] at e
 have q1':(E.meth 3 .simpler x0 [hd x1]) (C (n+41)) (fI (some (.val (dG w))) none none none) s2.st=some (x,s2.st):=ck rfl rfl rfl h1
 have q2':(E.meth 3 .simpler x0 [.idx x1 i1]) (C (n+41)) (fI (some (.val (dG w))) none none none) s2.st=some (y,s2.st):=ck rfl rfl rfl h2
 exact ⟨_,bF (e1:=fI (some (.val (dG w))) (some (.val x)) (some (.val y)) none) (g1:=s2.st) (iA q1' q2')
  (bF (eV (cN rfl rfl e) (bF (cV (ck rfl rfl rfl h3)) (bQ (cP rfl (bQ (mD (ck rfl rfl rfl h4))))))) (bS rfl))⟩
end
section
variable {n m L k kp:Nat}{v x y u s t l r l' r' p q:V}{rk:Nat->Int}{nm nm':Str}{Q:iM}{U:List V}{T:(V->V)->Prop}
structure jN (rk:Nat->Int) (T:(V->V)->Prop) (R:jP) (Rs:List (V × V × V)):Prop where
 good:gf R rk
 tm:jH Rs
 has:∀ {l r},R l r->∃ q∈Rs,q.2.1=l/\q.2.2=r
 of:∀ q∈Rs,R q.2.1 q.2.2
 t5:∀ l r,R l r->Tm 5 r
 eqv:∀ {c},ds c->(T c↔∀ {l r},R l r->c l=c r)
theorem jN.runs {R:jP}{Rs:List (V × V × V)}(D:jN rk T R Rs):m6 R rk Rs (g6 R 1 3):=⟨D.good,D.tm,D.has,λzz h zz=>D.of _ h,λh=>h.tm D.t5 (by decide) (by decide),λh a o=>h.step D.good (λzz t=>t.pos) a o⟩
theorem jH.one (h:Tm 8 l) (h':Tm 8 r):jH [(.str nm,l,r)]:=⟨aE rfl,am.mpr ⟨⟨h,h'⟩,nm,rfl⟩⟩
theorem Dk {P:(V × V × V)->Prop}{q1 q0:V × V × V}(a:P q1) (b:P q0):∀ q∈[q1,q0],P q:=ao.mpr ⟨a,am.mpr b⟩
theorem jH.two (h:Tm 8 l) (h':Tm 8 r) (k:Tm 8 l') (k':Tm 8 r'):jH [(.str nm,l,r),(.str nm',l',r')]:=⟨aE rfl,Dk ⟨⟨h,h'⟩,nm,rfl⟩ ⟨⟨k,k'⟩,nm',rfl⟩⟩
theorem C2 {q1 q0:V × V × V}(G:gf (R2 q1.2.1 q1.2.2 q0.2.1 q0.2.2) rk) (hR:jH [q1,q0]) (t:Tm 5 q1.2.2) (t':Tm 5 q0.2.2) (e:∀ {c},ds c->(T c↔c q1.2.1=c q1.2.2/\c q0.2.1=c q0.2.2)):jN rk T (R2 q1.2.1 q1.2.2 q0.2.1 q0.2.2) [q1,q0]:=
 ⟨G,hR,λh=>h.elim (λh=>⟨_,.head _,h.1.symm,h.2.symm⟩) λh=>⟨_,.tail _ (.head _),h.1.symm,h.2.symm⟩,Dk (.inl ⟨rfl,rfl⟩) (.inr ⟨rfl,rfl⟩),λa b h=>h.elim (λh=>h.2 ▸ t) λh=>h.2 ▸ t',
  λC=>(e C).trans ⟨λe zz zz h=>h.elim (λh=>h.1 ▸ h.2 ▸ e.1) λh=>h.1 ▸ h.2 ▸ e.2,λh=>⟨h (.inl ⟨rfl,rfl⟩),h (.inr ⟨rfl,rfl⟩)⟩⟩⟩
theorem Az {q1 q0:V × V × V}{J:V->Prop}(g:Gt rk q1.2.1 q1.2.2) (r2:jH [q1,q0]) (no:∀ {w},J w->¬ dN q0.2.1 w) (t8:∀ {w},J w->Tm 8 w) (st:∀ {w w' p},J w->jD q1.2.1 q1.2.2 p w w'->J w'):m6 (R1 q1.2.1 q1.2.2) rk [q1,q0] J:=
 ⟨c5 g,r2,λh=>⟨_,.head _,h.1.symm,h.2.symm⟩,λ{w q} h hq s=>Dk (P:=λq=>dN q.2.1 w->R1 q1.2.1 q1.2.2 q.2.1 q.2.2) (λzz=>⟨rfl,rfl⟩) (λs=>(no h s).elim) q hq s,t8,λh e o=>st h (e.1 ▸ e.2 ▸ o)⟩
theorem uo {q1 q0:V × V × V}{w:V}(g:Gt rk q1.2.1 q1.2.2) (r2:jH [q1,q0]) (t:Tm 8 w) (a:¬ dN q1.2.1 w) (b:¬ dN q0.2.1 w):m6 (R1 q1.2.1 q1.2.2) rk [q1,q0] (λv=>v=w):=
 Az g r2 (λh=>h ▸ b) (λh=>h ▸ t) λh o=>(a (h ▸ o.sub)).elim
theorem v4 {q1 q0:V × V × V}(g:Gt rk q1.2.1 q1.2.2) (g0:Gt rk q0.2.1 q0.2.2) (r2:jH [q1,q0]) (t3:Tm 3 q1.2.2):m6 (R1 q1.2.1 q1.2.2) rk [q1,q0] (λw=>Gt rk q0.2.1 w/\g6 (R1 q1.2.1 q1.2.2) 1 4 w):=
 Az g r2 (λh=>h.1.not) (λh=>g6.tm (R:=R1 q1.2.1 q1.2.2) (j:=3) (λa b e=>e.2 ▸ t3) h.2 (by decide) (by decide)) λh o=>⟨h.1.tr (o.gt g),h.2.step (c5 g) (λzz t=>t.pos) ⟨rfl,rfl⟩ o⟩
theorem q9 (g:Gt rk l r) (tl:Tm 7 l) (tr:Tm 5 r) (e:∀ {c},ds c->(T c↔c l=c r)):jN rk T (R1 l r) [(.str nm,l,r)]:=
 ⟨c5 g,.one (tl.up (by decide)) (tr.up (by decide)),λh=>⟨_,aa,h.1.symm,h.2.symm⟩,λq hq=>by cases ay.mp hq; exact ⟨rfl,rfl⟩,λa b h=>h.2 ▸ tr,λC=>(e C).trans ⟨λe a b h=>h.1 ▸ h.2 ▸ e,λh=>h ⟨rfl,rfl⟩⟩⟩
theorem Ak (e:∀ {c},ds c->T c):jN rk T (λzz zz=>False) []:=
 ⟨⟨λa=>a.elim,λa=>a.elim,λa=>a.elim,λa=>a.elim⟩,⟨by decide,λq hq=>(nomatch hq)⟩,λh=>h.elim,λq hq=>(nomatch hq),λa b h=>h.elim,λC=>⟨λzz zz zz h=>h.elim,λzz=>e C⟩⟩
inductive kz (L:Nat):Nat->Sg->Sg->Prop
 | stop {s:Sg}:C L .step [.gl 2] s.st=some (.bool false,s.st)->kz L 0 s s
 | go {n:Nat}{s s1 s2:Sg}:C L .step [.gl 2] s.st=some (.bool true,s1.st)->kz L n s1 s2->kz L (n+1) s s2
inductive D7 (rk:Nat->Int) (T:(V->V)->Prop) (s:Sg):Prop
 | mk (Rs:List (V × V × V)) (R:jP):s=s.rs Rs->du s->jN rk T R Rs->D7 rk T s
inductive DD (L K:Nat) (rk:Nat->Int) (T:(V->V)->Prop) (s:Sg):Prop
 | mk (N:Nat) (s':Sg):N<=K->kz L N s s'->D7 rk T s'->DD L K rk T s
theorem fH {σ:Sg}{R:jP}{Rs:List (V × V × V)}{J:V->Prop}(ok:du (σ.rs Rs)) (K:m6 R rk Rs J) (j:J v) (h:Tm 7 v):C (n+15) .simpler [.gl 2,v] (σ.rs Rs).st=some (nf R v,(σ.rs Rs).st):=sG ok rfl K j h (ak 7)
theorem Iv.triv (I:Iv rk l r p q k kp) (h:nf (R1 l r) p=nf (R1 l r) q) {c:V->V}(C:ds c) (e:c l=c r):c p=c q:=(I.snd C e I.tp I.p3).symm.trans ((congrArg c h).trans (I.snd C e I.tq (ak 3)))
theorem Bq:∀ (K:Nat) {k kp:Nat}{l r p q:V}{nm:Str}{σ:Sg}{U:List V},k < K->Iv rk l r p q k kp->rk=Q.rk->Ad Q U ((σ.wt [(p,q)]).rs [(.str nm,l,r)])->σ.ct+K < 1000->U.length+K * 40000 < lim->(∀ {c},ds c->(T c↔c l=c r/\c p=c q)) ->
  DD (n+42) K rk T ((σ.wt [(p,q)]).rs [(.str nm,l,r)]):=by
 intro K
 induction K with
 | zero=>intro k kp l r p q nm σ U h; exact absurd h (aY _)
 | succ K ih=>
  intro k kp l r p q nm σ U hk I erk A hct hU hT
  have p3:=I.p3
  have k3:=I.k3
  have kpos:=I.lk.1.pos
  have tp:Tm 7 p:=I.tp.up (by lia)
  have tq:Tm 7 q:=I.tq.up (by decide)
  obtain ⟨w,rest,P,step⟩:=oh (n:=n) (σ:=σ.rs [(.str nm,l,r)]) (ws:=[(p,q)]) (am.mpr ⟨tp,tq⟩) (.inl ⟨_,rfl⟩)
  cases P
  have tl:Tm 3 l:=I.lk.1.up k3
  have D1:=q9 (T:=λc=>c l=c r) (nm:=nm) I.g (tl.up (by decide)) (I.r4.up (by decide)) λzz=>Iff.rfl
  have ok2:du ((σ.wt []).rs [(.str nm,l,r)]):={ A.ok with wk:=λv hv=>(nomatch hv),wv:=λv hv=>(nomatch hv) }
  have A2:Ad Q U ((σ.wt []).rs [(.str nm,l,r)]):=⟨ok2,A.rv,A.kn,A.le⟩
  have s1:=fH (n:=n+26) ok2 D1.runs (I.tp.up p3).bud tp
  have s2:=fH (n:=n+26) ok2 D1.runs I.tq.bud tq
  have h7:∀ {v:V},Tm (6 - k) v->Tm 7 v:=λh=>h.up (by omega)
  have h5:∀ {v:V},Tm (6 - k) v->Tm 5 v:=λh=>h.up (by omega)
  have x7:=h7 I.pq.1
  have y7:=h7 I.pq.2
  by_cases eq:nf (R1 l r) p=nf (R1 l r) q
  ·rw [← eq] at s2
   obtain ⟨env,e⟩:=zq (n:=n) (w:=(p,q)) x7 s1 s2
   exact ⟨1,(σ.wt []).rs [(.str nm,l,r)],aR (aZ _),.go (step (s2:=(σ.wt []).rs [(.str nm,l,r)]) e) (.stop (kW rfl)),_,_,rfl,ok2,q9 I.g (tl.up (by decide)) (I.r4.up (by decide)) λC=>(hT C).trans ⟨And.left,λe=>⟨e,I.triv eq C e⟩⟩⟩
  ·obtain ⟨nm',l',r',kk,kv,U',e3,g,hn,A3,hl⟩:=n0 (n:=n+1) (U:=U) (σ:=(σ.wt []).rs [(.str nm,l,r)]) x7 y7 eq (show σ.ct < 1000 by omega) A2 (by have:=Nat.succ_mul K 40000; lia)
   rw [← erk] at g
   obtain ⟨⟨tl',tr'⟩,n1,n2⟩:=I.new hn
   have d7:=h7 tl'
   have e7:=h7 tr'
   have e5:=h5 tr'
   have tl7:Tm 7 l:=tl.up (by decide)
   have r7:Tm 7 r:=I.r4.up (by decide)
   clear h7 h5 tl' tr' p3 k3 kpos tl
   have r1:jH [(.str nm',l',r')]:=.one (d7.up (by decide)) (e7.up (by decide))
   have go:∀ {N:Nat}{s4 s':Sg},C (n+41) .letIn [.gl 2,bY (.str nm',l',r')] ((((σ.wt []).rs [(.str nm,l,r)]).kn kk kv).up).st=some (.none,s4.st)->kz (n+42) N s4 s'->kz (n+42) (N+1) ((σ.wt [(p,q)]).rs [(.str nm,l,r)]) s':=λ{N s4 s'} h c=>by
    obtain ⟨env,e⟩:=tR (n:=n) (w:=(p,q)) x7 y7 eq s1 s2 e3 h
    exact .go (step (s2:=s4) e) c
   have nr:nf (R1 l' r') r'=r':=ia (c5 g) e7 (by decide) ⟨rfl,rfl⟩
   clear s1 s2 step e3 eq ok2 A2
   by_cases s:dN l' l
   ·obtain ⟨k',lt,I'⟩:=I.next hn g s
    have ok4:du ((((σ.wt []).rs [(.str nm,l,r)]).kn kk kv).up.noted l r):={ A3.ok with
     wk:=am.mpr ⟨l,r,rfl,tl7,r7⟩
     wv:=am.mpr ⟨true,rfl⟩ }
    have hs:=fH (n:=n+25) (ok4.rs r1) (q9 (T:=λc=>c l'=c r') (nm:=nm') g d7 e5 λzz=>Iff.rfl).runs (.leaf ⟨rfl,rfl⟩ (by decide)) e7
    rw [nr] at hs
    have h4:=Dw (n:=n+25) (q1:=(.str nm',l',r')) (q0:=(.str nm,l,r)) A3.ok r1 ⟨d7,e7⟩ ⟨tl7,r7⟩ (aE rfl) I.g.irr s hs ok4
    obtain ⟨N,s',hN,c,en⟩:=ih (σ:=(σ.kn kk kv).up) (k:=k') (by lia) I' erk ⟨ok4.rs r1,A3.rv,A3.kn,A3.le⟩ (by show σ.ct+1+K < 1000; lia) (by have:=Nat.succ_mul K 40000; lia) λC=>(hT C).trans ⟨λe=>⟨(I.same hn C e.1).mp e.2,e.1⟩,λe=>⟨e.2,(I.same hn C e.2).mpr e.1⟩⟩
    exact ⟨N+1,s',aR hN,go h4 c,en⟩
   ·obtain ⟨t5,alt⟩:=I.last hn g
    have r2:jH [(.str nm',l',r'),(.str nm,l,r)]:=.two (d7.up (by decide)) (e7.up (by decide)) (tl7.up (by decide)) (r7.up (by decide))
    have r2':jH [(.str nm',l',r'),(.str nm,l,nf (R1 l' r') r)]:=.two (d7.up (by decide)) (e7.up (by decide)) (tl7.up (by decide)) (t5.up (by decide))
    have J:∃ J,m6 (R1 l' r') rk [(.str nm',l',r'),(.str nm,l,r)] J/\J r:=alt.elim (λno=>⟨_,uo g r2 (r7.up (by decide)) no I.g.not,rfl⟩) λt3=>⟨_,v4 g I.g r2 t3,I.g,I.r4.bud⟩
    obtain ⟨J,RJ,jr⟩:=J
    have okR:=du.rs A3.ok r2
    have h4:=DH (n:=n+25) (q1:=(.str nm',l',r')) (q0:=(.str nm,l,r)) (φ:=λq=>nf (R1 l' r') q.2.2) A3.ok r1 r2 ⟨d7,e7⟩ ⟨tl7,t5.up (by decide)⟩ ⟨s,n1⟩ nr
     (Dk (fH (n:=n+25) okR (uo g r2 (e7.up (by decide)) g.not n2) rfl e7) (fH (n:=n+25) okR RJ jr r7))
    refine ⟨1,_,aR (aZ _),go h4 (.stop (kW rfl)),[(.str nm',l',r'),(.str nm,l,nf (R1 l' r') r)],_,rfl,du.rs A3.ok r2',C2 (I.good hn g s) r2' e5 t5 λC=>(hT C).trans ⟨λe=>?_,λe=>?_⟩⟩
    ·have e':=(I.same hn C e.1).mp e.2
     exact ⟨e',e.1.trans (I.same2 hn g C e').symm⟩
    ·have e1:=e.2.trans (I.same2 hn g C e.1)
     exact ⟨e1,(I.same hn C e1).mpr e.1⟩
end
section
variable {n m L N k kp:Nat}{v x y u s t l r l' r' p q:V}{rk:Nat->Int}{nm nm':Str}{Q:iM}{U:List V}{T:(V->V)->Prop}{σ:Sg}{ws:List (V × V)}
theorem qD.sub {w:V × V}{rest:List (V × V)}(P:qD ws w rest):w∈ws/\(∀ w'∈rest,w'∈ws)/\((rest=[]/\∀ v∈ws,v=w)\/∃ w',rest=[w']/\w'∈ws/\∀ v∈ws,v=w\/v=w'):=by
 cases P with
 | one=>exact ⟨.head _,λzz h=>(nomatch h),.inl ⟨rfl,λv=>ay.mp⟩⟩
 | fst=>exact ⟨.head _,λzz h=>.tail _ h,.inr ⟨_,rfl,.tail _ (.head _),λv hv=>(az.mp hv).imp id ay.mp⟩⟩
 | snd=>exact ⟨.tail _ (.head _),λzz h=>ay.mp h ▸ .head _,.inr ⟨_,rfl,.head _,λv hv=>((az.mp hv).imp id ay.mp).symm⟩⟩
theorem wc {w:V × V}{rest:List (V × V)}(a3:Tm 3 w.1) (b3:Tm 3 w.2) (ne:w.1≠w.2) (hr:∀ p∈rest,yF p) (A:Ad Q U ((σ.wt ws).rs [])) (hc:σ.ct < 900) (hU:U.length+400000 < lim)
  (step:∀ {env:En}{s2:Sg},dE 10000 (C (n+41)) um (fI (some (.val (dG w))) none none none) ((σ.rs []).wt rest).st=some (.ret (.bool true),env,s2.st)->C (n+42) .step [.gl 2] ((σ.rs []).wt ws).st=some (.bool true,s2.st)):
  ∃ nm l' r' kk kv U',C (n+42) .step [.gl 2] ((σ.wt ws).rs []).st=some (.bool true,((((σ.kn kk kv).up).wt rest).rs [(.str nm,l',r')]).st)/\Gt Q.rk l' r'/\((l'=w.1/\r'=w.2)\/(l'=w.2/\r'=w.1))/\Ad Q U' ((((σ.kn kk kv).up).wt rest).rs [(.str nm,l',r')])/\U'.length<=U.length+40000:=by
 have ok2:du ((σ.wt rest).rs []):={ A.ok with
  wk:=λv hv=>let ⟨p,hp,e⟩:=bx.mp hv; e ▸ (hr p hp).pr
  wv:=λv hv=>let ⟨_,_,e⟩:=bx.mp hv; ⟨true,e.symm⟩ }
 have id0:∀ {v:V},Tm 3 v->nf (λzz zz=>False) v=v:=λh=>lS h (by decide) λzz zz h=>h.elim
 have a7:=a3.up (show 3<=7 by decide)
 have b7:=b3.up (show 3<=7 by decide)
 have sm:∀ {v:V},Tm 3 v->C (n+41) .simpler [.gl 2,v] ((σ.wt rest).rs []).st=some (v,((σ.wt rest).rs []).st):=λ{v} h=>(fH (n:=n+26) ok2 (Ak (rk:=Q.rk) (T:=λzz=>True) λzz=>trivial).runs h.bud (h.up (by decide))).trans (congrArg (λv=>some (v,((σ.wt rest).rs []).st)) (id0 h))
 obtain ⟨nm,l',r',kk,kv,U',e3,g,hn,A3,hl⟩:=n0 (n:=n+1) (U:=U) (σ:=(σ.wt rest).rs []) a7 b7 ne (Nat.lt_trans hc (show 900 < 1000 by decide)) ⟨ok2,A.rv,A.kn,A.le⟩ (aI (bu (show 40000<=400000 by decide) U.length) hU)
 have tt:Tm 3 l'/\Tm 3 r':=hn.elim (λe=>e.1 ▸ e.2 ▸ ⟨a3,b3⟩) λe=>e.1 ▸ e.2 ▸ ⟨b3,a3⟩
 have r1:jH [(.str nm,l',r')]:=.one (tt.1.up (by decide)) (tt.2.up (by decide))
 have ok4:=A3.ok.rs r1
 have r7:=tt.2.up (show 3<=7 by decide)
 have hs:=fH (n:=n+25) ok4 (q9 (T:=λc=>c l'=c r') (nm:=nm) g (tt.1.up (by decide)) (tt.2.up (by decide)) λzz=>Iff.rfl).runs tt.2.bud r7
 rw [ia (c5 g) tt.2 (by decide) ⟨rfl,rfl⟩] at hs
 have h4:=DJ (n:=n+25) (q1:=(.str nm,l',r')) A3.ok r1 ⟨tt.1.up (by decide),r7⟩ hs
 have s1:=sm a3
 have s2:=sm b3
 obtain ⟨env,e⟩:=tR (n:=n) (w:=w) a7 b7 ne s1 s2 e3 h4
 exact ⟨nm,l',r',kk,kv,U',step (s2:=((((σ.wt rest).rs []).kn kk kv).up.rs [(.str nm,l',r')])) e,g,hn,⟨ok4,A3.rv,A3.kn,A3.le⟩,hl⟩
theorem yE (hw:ws=[]\/(∃ w,ws=[w])\/∃ w w',w≠w'/\ws=[w,w']) (ht:∀ w∈ws,Tm 3 w.1/\Tm 3 w.2/\w.1≠w.2) (A:Ad Q U ((σ.wt ws).rs [])) (hc:σ.ct < 900) (hU:U.length+400000 < lim) (hT:∀ {c},ds c->(T c↔∀ w∈ws,c w.1=c w.2)):
  DD (n+42) 9 Q.rk T ((σ.wt ws).rs []):=by
 rcases hw with h0 | hw
 ·subst h0
  exact ⟨0,_,aZ _,.stop (kW rfl),_,_,rfl,A.ok,Ak λC=>(hT C).mpr λw hw=>(nomatch hw)⟩
 ·have t7:∀ w∈ws,yF w:=λw hw=>⟨(ht w hw).1.up (by decide),(ht w hw).2.1.up (by decide)⟩
  obtain ⟨w,rest,P,step⟩:=oh (n:=n) (σ:=σ.rs []) (ws:=ws) t7 hw
  obtain ⟨m,sub,alt⟩:=P.sub
  obtain ⟨a3,b3,ne⟩:=ht w m
  obtain ⟨nm,l',r',kk,kv,U',st,g,hn,A3,hl⟩:=wc (n:=n) (w:=w) a3 b3 ne (λp hp=>t7 p (sub p hp)) A hc hU step
  clear A step t7 P ne sub hw
  have sym:∀ c:V->V,c w.1=c w.2↔c l'=c r':=λc=>hn.elim (λe=>e.1 ▸ e.2 ▸ Iff.rfl) λe=>e.1 ▸ e.2 ▸ eq_comm
  have tt:Tm 3 l'/\Tm 3 r':=hn.elim (λe=>e.1 ▸ e.2 ▸ ⟨a3,b3⟩) λe=>e.1 ▸ e.2 ▸ ⟨b3,a3⟩
  clear hn a3 b3
  rcases alt with ⟨e1,all⟩ | ⟨w',e1,m',all⟩
  ·exact ⟨1,_,by decide,.go st (.stop (kW (congrArg (List.map dG) e1))),_,_,rfl,A3.ok,q9 g (tt.1.up (by decide)) (tt.2.up (by decide)) λ{c} C=>(hT C).trans ⟨λh=>(sym c).mp (h w m),λh w' hw'=>all w' hw' ▸ (sym c).mpr h⟩⟩
  ·obtain ⟨c3,d3,zz⟩:=ht w' m'
   clear ht
   obtain ⟨k,k3,ex⟩:=tt.1.ex
   subst e1
   obtain ⟨N,s',hN,c,en⟩:=Bq (n:=n) (T:=T) (Q:=Q) (rk:=Q.rk) (σ:=(σ.kn kk kv).up) (U:=U') 5 (k:=k) (kp:=3) (by lia) ⟨g,ex,k3,c3,ak 3,d3,tt.2,λzz=>tt.2,.inl rfl⟩ rfl A3 (br (Nat.add_lt_add_right (Nat.succ_lt_succ hc) 5) (by decide)) (by lia)
    λ{c} C=>(hT C).trans ⟨λh=>⟨(sym c).mp (h w m),h w' m'⟩,λh v hv=>(all v hv).elim (λe=>e ▸ (sym c).mpr h.1) λe=>e ▸ h.2⟩
   exact ⟨N+1,s',aj (aR hN) (by decide),.go st c,en⟩
noncomputable abbrev DI:List S:=[.iff (.not (.meth 3 .step x0 [])) [.ret (.cmp .eq (.attr 3 4 x0) (.lst []))] []]
theorem xj {s s':Sg}{N:Nat}(c:kz L N s s'):∀ {its:List (List V)}{a:Option bN},N < its.length->(∀ it∈its,∃ k:Int,it=[.int k])->∃ env,gG (dE 10000 (C L) DI) [1] its [some (.val (.gl 2)),a] s.st=some (.ret (.bool true),env,s'.st):=by
 induction c with
 | stop h=>
  intro its a hl hi
  cases its with
  | nil=>exact absurd hl (aY _)
  | cons it its=>
   obtain ⟨k,rfl⟩:=hi it aa
   exact ⟨_,lP (bQ (eV (pI (ck rfl rfl rfl h)) (bQ (cY rfl))))⟩
 | go h c ih=>
  intro its a hl hi
  cases its with
  | nil=>exact absurd hl (aY _)
  | cons it its=>
   obtain ⟨k,rfl⟩:=hi it aa
   obtain ⟨env,e⟩:=ih (its:=its) (a:=some (.val (.int k))) (Nat.lt_of_succ_lt_succ hl) λit m=>hi it (ai _ m)
   exact ⟨env,dh (bQ (cP (pI (ck rfl rfl rfl h)) rfl)) e⟩
theorem Bd {s s':Sg}(c:kz L N s s') (hN:N < 200):C (L+1) .run [.gl 2] s.st=some (.bool true,s'.st):=by
 obtain ⟨env,e⟩:=xj c (its:=ls 200) (a:=none) (by rw [ls,aw,List.length_range]; exact hN) λit hi=>by obtain ⟨k,zz,rfl⟩:=bx.mp hi; exact ⟨k,rfl⟩
 exact b8 (bS (dj rfl rfl (show cJ .range 1 (.int 200) .none=some (ls 200) from rfl) e))
end
section
variable {n m L N k p:Nat}{v x y u s t:V}{g:G}{ys:List Int}{xs:List Int}{cf:Fn->List V->G->Option (V × G)}{env:En}{e:E}
noncomputable abbrev eW (ys:List Int) (p:Nat):mR:=.lst [.lst (ys.map .int),.int (p:Nat)]
structure sK (ys:List Int):Prop where
 pos:0 < ys.length
 le:ys.length<=100
theorem Bx {es:List E}{vs:List V}{g1:G}(h:jL cf es env g=some (vs,g1)) (hl:vs.length<=lim):(E.lstG es) cf env g=some (.gl g1.length,g1++[.lst vs]):=bL h (if_pos hl)
theorem ja {a b:List V}(h:a.length+b.length<=lim):mz .add (.lst a) (.lst b)=some (.lst (a++b)):=if_pos h
theorem qW (h:xs.length<=lim):yO (.lst (xs.map V.int))=some (.int xs.length):=(bL (if_pos (by rw [aw]; exact h)) rfl).trans (congrArg (λn:Nat=>some (V.int n)) (aw _))
theorem z5 (hx:xs.length<=1000):∃ ys,sK ys/\C (n+1) .lawPool [.lst (xs.map .int)] []=some (.gl 0,[eW ys 0]):=by
 let zs:List Int:=(xs.take 40).map λx=>x.fmod 1000003
 have c:(eK (.bin .mod (.intOf x1) (.int 1000003)) 1 (.slc x0 none (some (.int 40)))) (C n) [some (.val (.lst (xs.map .int))),none] []=some (.lst (zs.map .int),[]):=by
  have h1:(E.slc x0 none (some (.int 40))) (C n) [some (.val (.lst (xs.map .int))),none] []=some (.lst ((xs.take 40).map .int),[]):=
   (bL rfl (bL rfl (bL rfl (bL (bL rfl (if_pos ⟨by decide,by decide,by rw [aw]; exact aj hx (by decide)⟩)) rfl)))).trans (congrArg (λl=>some (V.lst l,[])) List.map_take.symm)
  have sq:gj (.lst ((xs.take 40).map V.int))=some ((xs.take 40).map .int):=if_pos (by rw [aw,List.length_take]; exact aj (Nat.min_le_left _ _) (by decide))
  have:=fB (f:=λit=>fV ((E.bin .mod (.intOf x1) (.int 1000003)) (C n)) (rF (C n) none) (bZ [some (.val (.lst (xs.map .int))),none] [1] it)) (g:=[]) (q:=λx:Int=>[V.int x]) (φ:=λx=>V.int (x.fmod 1000003)) (xs:=xs.take 40) λx hx=>eh rfl
  show _=some (V.lst (((xs.take 40).map λx=>x.fmod 1000003).map V.int),[])
  rw [List.map_map]
  exact cy h1 rfl ((dL sq).trans (by rw [List.map_map]; rfl)) this
 have ln:(E.len x0) (C n) [some (.val (.lst (xs.map .int))),none] []=some (.int (xs.length:Nat),[]):=ub rfl (qW (aj hx (by decide)))
 have hzl:zs.length=min 40 xs.length:=by show ((xs.take 40).map _).length=_; rw [aw,List.length_take]
 clear_value zs
 have eQ:∀ {ws:List Int},(E.bin .mul (.lst [i0]) (.intOf (.cmp .eq (.len x0) i0))) (C n) [some (.val (.lst (xs.map .int))),none] []=some (.lst (ws.map .int),[])->ws.length<=1->0 < zs.length+ws.length->∃ ys,sK ys/\C (n+1) .lawPool [.lst (xs.map .int)] []=some (.gl 0,[eW ys 0]):=λ{ws} h h1 h0=>by
  have hb:mz .add (.lst (zs.map V.int)) (.lst (ws.map V.int))=some (.lst ((zs++ws).map V.int)):=by rw [List.map_append]; exact ja (by rw [aw,aw]; simp only [lim]; omega)
  exact ⟨zs++ws,⟨by rw [aB]; exact h0,by rw [aB]; omega⟩,b8 (bS (cY (Bx (g1:=[]) (vs:=[.lst ((zs++ws).map .int),.int 0]) (ca (cF c h hb) (cO rfl)) (aE rfl))))⟩
 by_cases h:xs=[]
 ·clear c hx
  subst h
  exact eQ (ws:=[0]) rfl (ak 1) (by rw [List.length_singleton]; lia)
 ·have:0 < xs.length:=List.length_pos_iff.mpr h
  refine eQ (ws:=[]) (cF (y:=.int 0) rfl ?_ rfl) (aZ _) (by rw [hzl,List.length_nil]; lia)
  have hd:(E.cmp .eq (.len x0) i0) (C n) [some (.val (.lst (xs.map .int))),none] []=some (.bool false,[]):=cN ln rfl (congrArg (λt=>some (V.bool t)) (bq λh=>Nat.ne_of_gt this (Int.ofNat.inj h)))
  exact bL hd (bL rfl rfl)
theorem wC {a b:Int}(h:o9 a=true) (h2:0 < b/\b < 1000000):mz .fdiv (.int a) (.int b)=some (.int (a.fdiv b)):=bL rfl (bL rfl (if_pos ⟨h,h2⟩))
theorem As {a b:Int}(h:0 < b):mz .mod (.int a) (.int b)=some (.int (a.fmod b)):=bL rfl (bL rfl (if_pos h))
theorem AB {a b:Int}(h:o9 a=true) (h2:o9 b=true):mz .mul (.int a) (.int b)=some (.int (a * b)):=bL rfl (if_pos ⟨h,h2⟩)
theorem oF {k:Int}(P:sK ys) (hp:p < 10000) (hk:0 < k):∃ r:Int,0<=r/\r < k/\C (n+1) .lawPull [.gl 0,.int k] (eW ys p::g)=some (.int r,eW ys (p+1)::g):=by
 have pos:=P.pos
 have le:=P.le
 let f:Int:=(p:Int).fdiv ys.length
 let d:Int:=(p:Int).fmod ys.length
 have f0:0<=f:=Int.fdiv_nonneg (by omega) (by omega)
 have f1:f<=p:=by
  show (p:Int).fdiv ys.length<=p
  rw [Int.fdiv_eq_ediv_of_nonneg _ (by omega)]
  exact Int.ediv_le_self _ (by omega)
 have d0:0<=d:=Int.fmod_nonneg_of_pos _ (by omega)
 have d1:d < ys.length:=Int.fmod_lt_of_pos _ (by omega)
 obtain ⟨z,hz⟩:∃ z,ys[d.toNat]?=some z:=⟨_,aN (by omega)⟩
 have ln:∀ {env:En}{p:Nat},(E.len (hd x0)) (C n) (some (.val (.gl 0))::env) (eW ys p::g)=some (.int (ys.length:Nat),eW ys p::g):=ub rfl (qW (aj le (by decide)))
 have ip:∀ {env:En}{p:Nat},(E.idx x0 i1) (C n) (some (.val (.gl 0))::env) (eW ys p::g)=some (.int (p:Nat),eW ys p::g):=rfl
 have big:∀ {i:Int},0<=i->i < 1000000000000->o9 i=true:=λa b=>be ⟨by omega,by omega⟩
 have q1:(E.bin .fdiv (.idx x0 i1) (.len (hd x0))) (C n) [some (.val (.gl 0)),some (.val (.int k)),none,none] (eW ys p::g)=some (.int f,eW ys p::g):=cF ip ln (wC (big (by omega) (by omega)) (by omega))
 have q2:(E.bin .mod (.idx x0 i1) (.len (hd x0))) (C n) [some (.val (.gl 0)),some (.val (.int k)),none,none] (eW ys p::g)=some (.int d,eW ys p::g):=cF ip ln (As (by omega))
 have m1:5 * f<=50000:=by omega
 have m2:f+1<=10000:=by omega
 have m3:=Int.mul_le_mul m1 m2 (by omega) (by lia)
 have fm:0<=5 * f * (f+1)/\5 * f * (f+1) < 1000000000000:=⟨Int.mul_nonneg (by omega) (by omega),by omega⟩
 have last:(E.bin .mod (cK (cK (.idx (hd x0) x3) (.bin .fdiv (.bin .mul (.bin .mul (.int 5) x2) (cK x2 i1)) i2)) x2) x1) (C n) [some (.val (.gl 0)),some (.val (.int k)),some (.val (.int f)),some (.val (.int d))] (eW ys (p+1)::g)=some (.int ((z+(5 * f * (f+1)).fdiv 2+f).fmod k),eW ys (p+1)::g):=by
  have a1:(E.idx (hd x0) x3) (C n) [some (.val (.gl 0)),some (.val (.int k)),some (.val (.int f)),some (.val (.int d))] (eW ys (p+1)::g)=some (.int z,eW ys (p+1)::g):=Ai rfl rfl (bL rfl ((if_pos ⟨d0,Int.lt_trans d1 (Int.ofNat_lt.mpr (aI le (by decide)))⟩).trans (by rw [List.getElem?_map,hz]; rfl)))
  have a2:(E.bin .mul (.int 5) x2) (C n) [some (.val (.gl 0)),some (.val (.int k)),some (.val (.int f)),some (.val (.int d))] (eW ys (p+1)::g)=some (.int (5 * f),eW ys (p+1)::g):=cF rfl rfl (AB (big (by lia) (by lia)) (big (by omega) (by omega)))
  have a3:(E.bin .mul (.bin .mul (.int 5) x2) (cK x2 i1)) (C n) [some (.val (.gl 0)),some (.val (.int k)),some (.val (.int f)),some (.val (.int d))] (eW ys (p+1)::g)=some (.int (5 * f * (f+1)),eW ys (p+1)::g):=cF a2 rfl (AB (big (by omega) (by omega)) (big (by omega) (by omega)))
  exact cF (cF (cF a1 (cF a3 rfl (wC (big fm.1 fm.2) (by decide))) rfl) rfl rfl) rfl (As hk)
 refine ⟨_,Int.fmod_nonneg_of_pos _ hk,Int.fmod_lt_of_pos _ hk,b8 (bF (e1:=[some (.val (.gl 0)),some (.val (.int k)),some (.val (.int f)),some (.val (.int d))]) (g1:=eW ys p::g) (iA q1 q2) (bF (g1:=eW ys (p+1)::g) rfl (bS (cY last))))⟩
theorem tb {p W:Nat}(h:p+(2 * W+1)<=5000):p+1+W<=5000/\∀ q,q<=p+1+W->q+W<=p+(2 * W+1):=⟨by lia,λq h=>by lia⟩
theorem Av {r:Int}(h:0<=r) (k:r < 5):r=0\/r=1\/r=2\/r=3\/r=4:=by
 obtain ⟨n,rfl⟩:=Int.eq_ofNat_of_zero_le h
 have c:∀ {a b:Nat},a=b->(a:Int)=b:=congrArg λa:Nat=>(a:Int)
 exact ((by decide:∀ n < 5,n=0\/n=1\/n=2\/n=3\/n=4) n (Int.ofNat_lt.mp k)).imp c (.imp c (.imp c (.imp c c)))
theorem xD {r:Int}(h:0<=r) (k:r < 2):r=0\/r=1:=(Av h (Int.lt_trans k (by decide))).imp id λh=>h.elim id λh=>absurd k (by rcases h with rfl | rfl | rfl <;> decide)
inductive Dg (ys:List Int) (g:G) (p d w:Nat) (o:Option (V × G)):Prop
 | mk (t:V) (q:Nat):o=some (t,eW ys q::g)->Tm d t->q<=p+w->Dg ys g p d w o
theorem tD (P:sK ys):∀ (d:Nat) {n p:Nat},p+wt (d+1)<=5000->Dg ys g p (d+1) (wt (d+1)) (C (n+d+2) .lawTerm [.gl 0,.int (d:Nat)] (eW ys p::g)):=by
 have mk:∀ {d n p k:Nat}{w:Int},p+(2 * k+1)<=5000->0 < w->(E.ite (.cmp .gt x1 i0) (.int 5) i2) (C (n+1)) [some (.val (.gl 0)),some (.val (.int (d:Nat))),none,none] (eW ys p::g)=some (.int w,eW ys p::g) ->
   ∃ r:Int,0<=r/\r < w/\(S.asg 2 (.call .lawPull [x0,.ite (.cmp .gt x1 i0) (.int 5) i2])) 10000 (C (n+1)) [some (.val (.gl 0)),some (.val (.int (d:Nat))),none,none] (eW ys p::g)=some (.nxt,[some (.val (.gl 0)),some (.val (.int (d:Nat))),some (.val (.int r)),none],eW ys (p+1)::g):=λ{d n p k w} hp hw h=>by
  obtain ⟨r,r0,r1,e⟩:=oF (n:=n) (g:=g) P (aI (Nat.le_of_add_right_le hp) (by decide):p < 10000) hw
  exact ⟨r,r0,r1,cV (bO (ca rfl (cO h)) e)⟩
 intro d
 induction d with
 | zero=>
  intro n p hp
  obtain ⟨r,r0,r1,e⟩:=mk (d:=0) (n:=n) (p:=p) (k:=0) (w:=2) hp (by decide) rfl
  clear P
  rcases xD r0 r1 with rfl | rfl
  ·exact ⟨tA,p+1,b8 (bF e (bS rfl)),.a,ak _⟩
  ·exact ⟨tB,p+1,b8 (bF e (bS rfl)),.b,ak _⟩
 | succ d ih=>
  intro n p hp
  obtain ⟨b1,b2⟩:=tb hp
  obtain ⟨r,r0,r1,e⟩:=mk (d:=d+1) (n:=n+d+1) (p:=p) (w:=5) hp (by decide) (oY (cN rfl rfl (congrArg (λt=>some (V.bool t)) (be (Int.ofNat_lt.mpr (Nat.succ_pos d))))) rfl)
  obtain ⟨t,q,e1,t1,q1⟩:=ih (n:=n) (p:=p+1) b1
  have lt:∀ {env:En}{p q:Nat}{t:V},C (n+d+2) .lawTerm [.gl 0,.int (d:Nat)] (eW ys p::g)=some (t,eW ys q::g)->(E.call .lawTerm [x0,.bin .sub x1 i1]) (C (n+d+2)) (some (.val (.gl 0))::some (.val (.int ((d+1:Nat):Int)))::env) (eW ys p::g)=some (t,eW ys q::g):=
   λh=>bO (ca rfl (cO (cF rfl rfl (congrArg (λi=>some (V.int i)) (show ((d+1:Nat):Int) - 1=(d:Nat) from Int.add_sub_cancel (d:Int) 1))))) h
  have b3:=b2 q q1
  have b4:=aj (bn _ _) b3
  clear P b1 b2 mk q1
  rcases Av r0 r1 with rfl | rfl | rfl | rfl | rfl
  ·exact ⟨tA,p+1,b8 (bF e (bS rfl)),.a,bu (Nat.succ_pos _) _⟩
  ·exact ⟨tB,p+1,b8 (bF e (bS rfl)),.b,bu (Nat.succ_pos _) _⟩
  ·exact ⟨tF t,q,b8 (bF e (bF (cP rfl rfl) (bS (cY (cF rfl (cB (cy (x:=.int 1) rfl rfl rfl (cw (eh (lt e1)) rfl)) rfl) rfl))))),.f t1,b4⟩
  ·exact ⟨tG t,q,b8 (bF e (bF (cP rfl rfl) (bS (cY (cF rfl (cB (cy (x:=.int 1) rfl rfl rfl (cw (eh (lt e1)) rfl)) rfl) rfl))))),.g t1,b4⟩
  ·obtain ⟨u,q2,e2,t2,q3⟩:=ih (n:=n) (p:=q) (aj b3 hp)
   exact ⟨tH t u,q2,b8 (bF e (bF (cP rfl rfl) (bS (cY (cF rfl (cB (cy (x:=.int 2) rfl rfl rfl (cw (eh (lt e1)) (cw (eh (lt e2)) rfl))) rfl) rfl))))),.h t1 t2,aj q3 b3⟩
end
section
variable {n m L N k p q:Nat}{v x y u s t rv:V}{g g2:G}{ys:List Int}{cf:Fn->List V->G->Option (V × G)}{env:En}{e:E}{ts ws:List (V × V)}{w:V × V}{p0:mR}
theorem uy {c:Nat}{f:Fn}{args:List V}(hf:iw c=false) (h:cf f (.gl g.length::args) (g++[.inst c []])=some (.none,g2)):o6 cf c f args g=some (.gl g.length,g2):=by
 exact bL h (bL rfl (if_neg (by rw [hf]; exact aF)))
def fR (ws:List (V × V)) (c:V->V):Prop:=∀ w∈ws,c w.1=c w.2
theorem fR.one {c:V->V}:fR [w] c↔c w.1=c w.2:=⟨λh=>h w aa,λh=>am.mpr h⟩
theorem fR.cons {c:V->V}:fR (w::ws) c↔c w.1=c w.2/\fR ws c:=ao
def AQ (w:V × V):Prop:=Tm 3 w.1/\Tm 3 w.2/\w.1≠w.2
def wZ (w:V × V):Prop:=Tm 3 w.1/\Tm 3 w.2
theorem wZ.to (h:wZ w):yF w:=⟨h.1.up (by decide),h.2.up (by decide)⟩
inductive v5 (F:List (V × V)->Prop) (σ:Sg) (T:(V->V)->Prop) (o:Option (V × G)):Prop
 | mk (ws:List (V × V)):o=some (.none,(σ.wt ws).st)->F ws->(∀ v∈ws,AQ v)->du (σ.wt ws)->(∀ c,fR ws c↔T c)->v5 F σ T o
abbrev B5 (ws:List (V × V)):Prop:=ws=[]\/∃ w,ws=[w]
abbrev D5 (ws:List (V × V)):Prop:=ws=[]\/(∃ w,ws=[w])\/∃ w w',w≠w'/\ws=[w,w']
theorem du.with {σ:Sg}(ok:du (σ.wt [])) (h:∀ w∈ws,wZ w):du (σ.wt ws):={ ok with
 wk:=λv hv=>let ⟨w,hw,e⟩:=bx.mp hv; e ▸ (h w hw).to.pr
 wv:=λv hv=>let ⟨_,_,e⟩:=bx.mp hv; ⟨true,e.symm⟩ }
theorem du.none {σ:Sg}(ok:du (σ.wt ws)):du (σ.wt []):={ ok with
 wk:=λv hv=>(nomatch hv)
 wv:=λv hv=>(nomatch hv) }
theorem xn {σ:Sg}(ok:du (σ.wt [])) (h:wZ w):v5 B5 σ (λc=>c w.1=c w.2) (C (n+10) .note [.gl 2,w.1,w.2] (σ.wt []).st):=by
 obtain ⟨a,b⟩:=oz (n:=n) ok (aE rfl) h.to.1 h.to.2
 by_cases e:w.1=w.2
 ·exact ⟨[],a e,.inl rfl,λv hv=>(nomatch hv),ok,λc=>⟨λzz=>congrArg c e,λzz v hv=>(nomatch hv)⟩⟩
 ·exact ⟨[w],b e,.inr ⟨w,rfl⟩,am.mpr ⟨h.1,h.2,e⟩,ok.with (am.mpr h),λc=>fR.one⟩
theorem Ca {σ:Sg}(ok:du (σ.wt ws)) (hw:B5 ws) (hf:∀ v∈ws,AQ v) (h:wZ w):v5 D5 σ (λc=>fR ws c/\c w.1=c w.2) (C (n+10) .note [.gl 2,w.1,w.2] (σ.wt ws).st):=by
 rcases hw with rfl | ⟨z,rfl⟩
 ·obtain ⟨ws,e,hw,hf,ok,hs⟩:=xn (n:=n) ok h
  exact ⟨ws,e,hw.elim .inl λh=>.inr (.inl h),hf,ok,λc=>(hs c).trans ⟨λh=>⟨λv hv=>(nomatch hv),h⟩,And.right⟩⟩
 ·obtain ⟨a,b⟩:=oz (n:=n) ok (aE rfl) h.to.1 h.to.2
  by_cases e:w.1=w.2
  ·exact ⟨[z],a e,.inr (.inl ⟨z,rfl⟩),hf,ok,λc=>⟨λh=>⟨h,congrArg c e⟩,And.left⟩⟩
  ·have hz:=hf z (.head _)
   have tz:wZ z:=⟨hz.1,hz.2.1⟩
   have q:=pB tz.to h.to
   have b:=b e
   have put:∀ {d:List V × List V},db (.tup [w.1,w.2]) (.bool true) [dG z] [.bool true]=d->C (n+10) .note [.gl 2,w.1,w.2] (σ.wt [z]).st=some (V.none,({ σ.wt [z] with wk:=d.1,wv:=d.2 }:Sg).st):=λh=>h ▸ b
   by_cases e':z=w
   ·exact ⟨[z],put (if_pos (q.1 e')),.inr (.inl ⟨z,rfl⟩),hf,ok,λc=>⟨λh=>⟨h,e' ▸ fR.one.mp h⟩,And.left⟩⟩
   ·exact ⟨[z,w],put (if_neg (by rw [q.2 e']; exact λh=>nomatch h)),.inr (.inr ⟨z,w,e',rfl⟩),ao.mpr ⟨hz,am.mpr ⟨h.1,h.2,e⟩⟩,ok.none.with (ao.mpr ⟨tz,am.mpr h⟩),λc=>fR.cons.trans (and_congr fR.one.symm fR.one)⟩
noncomputable abbrev Sg.new (p0:mR) (rv:V) (ws:List (V × V)):Sg:=⟨p0,rv,[],[],0,.val (.lst []),ws.map dG,ws.map λzz=>.bool true⟩
theorem zo (hp:gV 3 p0=true) (hr:ie 3 rv=true) (ht:∀ w∈ts,wZ w) (h12:(∃ w,ts=[w])\/∃ w w',ts=[w,w']):
  ∃ ws,o6 (C (n+11)) 3 .compInit [.lst (ts.map dG),.gl 1,.int 200] [p0,.inst 2 [.val rv,.od [] []]]=some (.gl 2,(Sg.new p0 rv ws).st)/\D5 ws/\(∀ v∈ws,AQ v)/\du (Sg.new p0 rv ws)/\∀ c:V->V,fR ws c↔fR ts c:=by
 have ok:du (Sg.new p0 rv []):=⟨hp,hr,λv hv=>(nomatch hv),λv hv=>(nomatch hv),rfl,λv hv=>(nomatch hv),λv hv=>(nomatch hv)⟩
 have its:ts.length<=lim->cJ .plain 2 (.lst (ts.map dG)) .none=some (ts.map λp=>[p.1,p.2]):=iT
 have go:∀ {ws:List (V × V)}{env:En},ts.length<=lim->gG (dE 10000 (C (n+10)) [.expr (.meth 3 .note x0 [x4,x5])]) [4,5] (ts.map λp=>[p.1,p.2]) [some (.val (.gl 2)),some (.val (.lst (ts.map dG))),some (.val (.gl 1)),some (.val (.int 200)),none,none] (Sg.new p0 rv []).st=some (.nxt,env,(Sg.new p0 rv ws).st) ->
   o6 (C (n+11)) 3 .compInit [.lst (ts.map dG),.gl 1,.int 200] [p0,.inst 2 [.val rv,.od [] []]]=some (.gl 2,(Sg.new p0 rv ws).st):=λ{ws env} hl h=>
  uy (g:=[p0,.inst 2 [.val rv,.od [] []]]) rfl (jq (bF (dU rfl rfl rfl) (bF (dU rfl rfl rfl) (bF (dU rfl rfl rfl) (bF (dU rfl rfl rfl) (bF (dU rfl rfl rfl) (bF rfl (bQ (dj rfl rfl (its hl) h)))))))))
 clear hp hr its
 rcases h12 with ⟨w,rfl⟩ | ⟨w,w',rfl⟩
 ·obtain ⟨ws,e,hw,hf,ok,hs⟩:=xn (n:=n) (σ:=Sg.new p0 rv []) ok (ht w aa)
  exact ⟨ws,go (aE rfl) (dh (bQ (mD (ck rfl rfl rfl e))) rfl),hw.elim .inl λh=>.inr (.inl h),hf,ok,λc=>(hs c).trans fR.one.symm⟩
 ·obtain ⟨ws,e,hw,hf,ok,hs⟩:=xn (n:=n) (σ:=Sg.new p0 rv []) ok (ht w aa)
  obtain ⟨ws',e',hw',hf',ok',hs'⟩:=Ca (n:=n) (σ:=Sg.new p0 rv []) ok hw hf (ht w' (ai _ aa))
  exact ⟨ws',go (aE rfl) (dh (bQ (mD (ck rfl rfl rfl e))) (dh (bQ (mD (ck rfl rfl rfl e'))) rfl)),hw',hf',ok',λc=>(hs' c).trans ((and_congr (hs c) fR.one.symm).trans fR.cons.symm)⟩
end
section
open Classical
variable {W n m L N k p q:Nat}{v x y u s t:V}{g g1 g2:G}{cf:Fn->List V->G->Option (V × G)}{env:En}{e a b:E}{xs ys ks ws:List V}{M:V->V}
theorem p7 (hx:Tm 8 x) (hy:Tm 8 y):(x=y->fU x y=some true)/\(x≠y->fU x y=some false):=by
 obtain ⟨b,e,i⟩:=D9 hx hy (show 8<=20 by decide)
 refine ⟨λh=>by show mT 20 x y=_; rw [e,i.mpr h],λh=>?_⟩
 rw [Bool.eq_false_iff.mpr λq=>h (i.mp q)] at e
 exact e
def rG (ks:List V):Prop:=∀ v∈ks,Tm 8 v
theorem rG.tl (h:rG (x::ks)):rG ks:=λv hv=>h v (ai _ hv)
theorem jZ (h:rG ks) (hx:Tm 8 x):de ks x=true:=by
 have a:gc x=true:=hx.term
 have b:ks.all gc=true:=aG.mpr λv hv=>(h v hv).term
 exact Bool.or_eq_true_iff.mpr (.inl (Bool.or_eq_true_iff.mpr (.inl (aC.mpr ⟨a,b⟩))))
theorem i6:∀ {ks:List V},rG ks->Tm 8 x->x∈ks->ed x ks (ks.map M)=some (some (M x))
 | z::ks,h,hx,hm=>by
  have q:=p7 (h z aa) hx
  by_cases e:z=x
  ·exact bL (q.1 e) (congrArg (λv=>some (some (M v))) e)
  ·exact bL (q.2 e) (i6 h.tl hx ((az.mp hm).resolve_left λh=>e h.symm))
theorem pD:∀ {ks vs:List V},rG ks->Tm 8 x->x∉ks->ed x ks vs=some none
 | [],_,_,_,_=>rfl
 | z::ks,vs,h,hx,hm=>by
  have q:=(p7 (h z aa) hx).2 λe:z=x=>hm (e ▸ aa)
  exact bL q (pD h.tl hx λe=>hm (ai _ e))
noncomputable def xz (M:V->V) (x y:V):V->V:=λv=>if v=x then y else M v
theorem ug (h:x∉ks):ks.map (xz M x y)=ks.map M:=List.map_congr_left λv hv=>if_neg λe:v=x=>h (e ▸ hv)
theorem ya:∀ {ks:List V},rG ks->Tm 8 x->ks.Nodup->x∈ks->db x y ks (ks.map M)=(ks,ks.map (xz M x y))
 | z::ks,h,hx,nd,hm=>by
  have q:=p7 (h z aa) hx
  obtain ⟨n1,n2⟩:=aT.mp nd
  by_cases e:z=x
  ·clear nd
   subst e
   have:xz M z y z=y:=if_pos rfl
   exact (if_pos (q.1 rfl)).trans (by rw [List.map_cons (f:=xz M z y),ug n1,this]; rfl)
  ·have i:=ya h.tl hx n2 ((az.mp hm).resolve_left λh=>e h.symm)
   have:xz M x y z=M z:=if_neg e
   rw [List.map_cons (f:=xz M x y),this]
   exact (if_neg (by rw [q.2 e]; exact λh=>nomatch h)).trans (congrArg (λd:List V × List V=>(z::d.1,M z::d.2)) i)
theorem tQ:∀ {ks vs:List V},rG ks->Tm 8 x->x∉ks->vs.length=ks.length->db x y ks vs=(ks++[x],vs++[y])
 | [],[],_,_,_,_=>rfl
 | z::ks,w::vs,h,hx,hm,hl=>by
  have q:=(p7 (h z aa) hx).2 λe:z=x=>hm (e ▸ aa)
  have i:=tQ (vs:=vs) h.tl hx (λe=>hm (ai _ e)) (Nat.succ.inj hl)
  exact (if_neg (by rw [q]; exact λh=>nomatch h)).trans (congrArg (λd:List V × List V=>(z::d.1,w::d.2)) i)
theorem oW:∀ {ws acc:List V},rG (acc++ws)->(acc++ws).Nodup->di (ws.map λw=>.tup [w,M w]) (acc,acc.map M)=some (acc++ws,(acc++ws).map M)
 | [],acc,_,_=>by rw [bA]; rfl
 | w::ws,acc,h,nd=>by
  have e:acc++w::ws=(acc++[w])++ws:=by rw [List.append_assoc]; rfl
  rw [e] at h nd ⊢
  have hw:Tm 8 w:=h w (aP _ (aQ _ aa))
  have no:w∉acc:=λm=>(List.nodup_append.mp (List.nodup_append.mp nd).1).2.2 w m w aa rfl
  have i:=oW h nd
  have d:=tQ (y:=M w) (vs:=acc.map M) (λv hv=>h v (aP _ (aP _ hv))) hw no (aw ..)
  have tk:gc w=true:=hw.term
  rw [List.map_append] at i
  exact bL rfl ((if_pos (by rw [tk]; rfl)).trans ((congrArg (di _) d).trans i))
theorem lJ (hk:e cf env g=some (x,g1)) {d:D}(hd:d cf env g=some ((ks,ks.map M),g)) (h:rG ks) (hx:Tm 8 x) (hm:x∈ks):(E.dget d e) cf env g=some (M x,g1):=bL hd (bL hk (bL (bL ((if_pos (jZ h hx)).trans (i6 h hx hm)) rfl) rfl))
theorem so:∀ {ys:List V},rG ys->Tm 8 x->∃ t,sF x ys=some t/\(t=true↔x∈ys)
 | [],_,_=>⟨false,rfl,⟨λh=>(nomatch h),λh=>(nomatch h)⟩⟩
 | y::ys,h,hx=>by
  obtain ⟨t,e,i⟩:=so h.tl hx
  have q:=p7 (h y aa) hx
  by_cases c:y=x
  ·exact ⟨true,bL (q.1 c) (bL e rfl),⟨λzz=>c ▸ aa,λzz=>rfl⟩⟩
  ·refine ⟨t,bL (q.2 c) (bL e rfl),i.trans ⟨ai _,λm=>(az.mp m).resolve_left λe=>c e.symm⟩⟩
theorem xZ {neg t:Bool}(h1:a cf env g=some (x,g1)) (h2:b cf env g1=some (y,g2)) (hs:gj y=some ys) (hm:sF x ys=some t):(E.isIn neg a b) cf env g=some (.bool (t != neg),g2):=bL h1 (bL h2 (bL (bL hs (bL hm rfl)) rfl))
theorem nh {f:List V->G->Option (List V × G)}{P:V->Bool}:∀ {xs:List V},(∀ x∈xs,(P x=true->f [x] g=some ([x],g))/\(P x=false->f [x] g=some ([],g)))->eU f (xs.map λx=>[x]) g=some (xs.filter P,g)
 | [],_=>rfl
 | x::xs,h=>by
  have i:=nh λy hy=>h y (ai _ hy)
  cases c:P x with
  | true=>rw [List.filter_cons_of_pos c]; exact cw (f:=f) ((h x aa).1 c) i
  | false=>rw [List.filter_cons_of_neg (λh=>aF (c.symm.trans h))]; exact cw (f:=f) (vs:=[]) ((h x aa).2 c) i
structure eg (xs:List V) (A:List V):Prop where
 nd:A.Nodup
 cl:∀ w∈A,∀ k∈bV w,k∈A
 sub:∀ w∈A,∃ x∈xs,dN w x
theorem yj (h:∀ x∈xs,Tm 3 x):∃ U:List V,U.length<=xs.length * 8/\∀ x∈xs,∀ w,dN w x->w∈U:=by
 induction xs with
 | nil=>exact ⟨[],ak _,λx hx=>(nomatch hx)⟩
 | cons x xs ih=>
  obtain ⟨U,a,b⟩:=ih λy hy=>h y (ai _ hy)
  have hx:=h x aa
  have:=fM hx
  refine ⟨(iC 3 x).map (λq=>q.2)++U,by rw [aB,aw,aO]; lia,λy hy w s=>?_⟩
  rcases az.mp hy with e | e
  ·clear a h hy ih
   subst e
   obtain ⟨p,hp⟩:=kO hx s
   exact aP _ (bx.mpr ⟨_,hp,rfl⟩)
  ·exact aQ _ (b y e w s)
theorem eg.le {A:List V}(w:eg xs A) (h:∀ x∈xs,Tm 3 x):A.length<=xs.length * 8:=by
 obtain ⟨U,a,b⟩:=yj h
 exact aj (l6 w.nd λv hv=>let ⟨x,hx,s⟩:=w.sub v hv; b x hx v s) a
theorem eg.tm {A:List V}(w:eg xs A) (h:∀ x∈xs,Tm m x):∀ v∈A,Tm m v:=λv hv=>let ⟨x,hx,s⟩:=w.sub v hv; s.tm (h x hx)
noncomputable abbrev o4 (src:V) (A:List V) (a2 a3:Option bN):En:=[some (.val src),some (.val (.lst A)),a2,a3]
noncomputable abbrev xq:List S:=[.asg 1 (cK x1 (.comp x3 [3] .plain (.call .lawWhole [cI x2]) .none (some (.isIn true x3 x1)))),
  .asg 1 (cK x1 (.bin .mul (.lst [x2]) (.intOf (.isIn true x2 x1))))]
theorem eg.add1 {A B:List V}(a:eg xs A) (b:eg (bV x) B) (hx:x∈xs) (hk:∀ k∈bV x,k∈B):eg xs (A++B.filter λv=>decide (v∉A))/\∀ k∈bV x,k∈A++B.filter λv=>decide (v∉A):=by
 have up:∀ v∈B,v∈A++B.filter λv=>decide (v∉A):=λv hv=>by
  by_cases h:v∈A
  ·exact aP _ h
  ·exact aQ _ (List.mem_filter.mpr ⟨hv,be h⟩)
 refine ⟨⟨List.nodup_append.mpr ⟨a.nd,b.nd.filter _,λv hv w hw e=>?_⟩,λw hw k hk=>?_,λw hw=>?_⟩,λk h=>up k (hk k h)⟩
 ·exact bw (List.mem_filter.mp hw).2 (e ▸ hv)
 ·rcases aU.mp hw with h | h
  ·exact aP _ (a.cl w h k hk)
  ·exact up k (b.cl w (List.mem_filter.mp h).1 k hk)
 ·rcases aU.mp hw with h | h
  ·exact a.sub w h
  ·obtain ⟨k,hk,s⟩:=b.sub w (List.mem_filter.mp h).1
   exact ⟨x,hx,.kid hk s⟩
theorem eg.add2 {A:List V}(a:eg xs A) (hx:x∈xs) (no:x∉A) (hk:∀ k∈bV x,k∈A):eg xs (A++[x]):=by
 refine ⟨List.nodup_append.mpr ⟨a.nd,aT.mpr ⟨List.not_mem_nil,List.nodup_nil⟩,λv hv w hw e=>?_⟩,λw hw k h=>?_,λw hw=>?_⟩
 ·cases ay.mp hw; exact no (e ▸ hv)
 ·rcases aU.mp hw with h' | h'
  ·exact aP _ (a.cl w h' k h)
  ·cases ay.mp h'; exact aP _ (hk k h)
 ·rcases aU.mp hw with h' | h'
  ·exact a.sub w h'
  ·clear a hk hw
   cases ay.mp h'; exact ⟨x,hx,.refl⟩
theorem rR {src:V}{A B:List V}{a2 a3:Option bN}{m:Nat}(a:eg xs A) (hs:∀ x∈xs,Tm 3 x) (hl:xs.length<=100) (hx:x∈xs) (b:eg (bV x) B) (hk:∀ k∈bV x,k∈B) (e:C n .lawWhole [.tup (bV x)] g=some (.lst B,g)):
  ∃ A',dE 10000 (C n) xq (bZ (o4 src A a2 a3) [2] [x]) g=some (.nxt,o4 src A' (some (.val x)) a3,g)/\eg xs A'/\x∈A'/\∀ v∈A,v∈A':=by
 have h3:=hs x hx
 have k2:(bV x).length<=2:=by cases h3 <;> exact aE rfl
 have lB:=b.le λk h=>(h3.kid h).up (by decide)
 have lA:=a.le hs
 have sq:∀ {l:List V},l.length<=5000->gj (.lst l)=some l:=λh=>if_pos (by simp only [lim]; lia)
 have t8:∀ {l:List V},eg xs l->rG l:=λw v hv=>(w.tm hs v hv).up (by decide)
 obtain ⟨a1,k1⟩:=a.add1 b hx hk
 have l1:=a1.le hs
 have lF:(B.filter λv=>decide (v∉A)).length<=B.length:=List.length_filter_le ..
 have c1:(cK x1 (.comp x3 [3] .plain (.call .lawWhole [cI x2]) .none (some (.isIn true x3 x1)))) (C n) (o4 src A (some (.val x)) a3) g=some (.lst (A++B.filter λv=>decide (v∉A)),g):=by
  refine cF rfl (cy (bO (cO (fp h3 rfl)) e) rfl (dL (sq (by lia))) (nh (f:=λit=>fV (x3 (C n)) (rF (C n) (some (.isIn true x3 x1))) (bZ (o4 src A (some (.val x)) a3) [3] it)) (P:=λv=>decide (v∉A)) λv hv=>?_)) (ja (a:=A) (b:=B.filter λv=>decide (v∉A)) (by simp only [lim]; lia))
  obtain ⟨t,q,i⟩:=so (t8 a) (((b.tm λk h=>h3.kid h) v hv).up (show 3 - 1<=8 by decide))
  have c:=xZ (cf:=C n) (env:=o4 src A (some (.val x)) (some (.val v))) (g:=g) (neg:=true) (a:=x3) (b:=x1) rfl rfl (sq (by omega)) q
  refine ⟨λno=>?_,λyes=>?_⟩
  ·clear e hk hl hs k2 l1 lA lB lF
   cases t with
   | true=>exact (bw no (i.mp rfl)).elim
   | false=>exact CO c rfl
  ·clear e hk hl hs k2 l1 lA lB lF
   cases t with
   | true=>exact AK c
   | false=>exact (of_decide_eq_false yes λh=>aF (i.mpr h)).elim
 obtain ⟨t,q,i⟩:=so (t8 a1) (h3.up (by decide))
 have c:=xZ (cf:=C n) (env:=o4 src (A++B.filter λv=>decide (v∉A)) (some (.val x)) a3) (g:=g) (neg:=true) (a:=x2) (b:=x1) rfl rfl (sq (by omega)) q
 have c2:(E.bin .mul (.lst [x2]) (.intOf (.isIn true x2 x1))) (C n) (o4 src (A++B.filter λv=>decide (v∉A)) (some (.val x)) a3) g=some (.lst (if t=true then [] else [x]),g):=by
  refine cF (y:=.int (if (t != true)=true then 1 else 0)) rfl (bL c (bL rfl rfl)) ?_
  clear b c e h3 hk hl hs k2 l1 lA lB lF q sq t8
  cases t <;> rfl
 have c3:=cV (W:=10000) (i:=1) (cF (op:=.add) (a:=x1) (cf:=C n) (g:=g) rfl c2 (ja (a:=A++B.filter λv=>decide (v∉A)) (by cases t <;> simp only [lim,if_true,Bool.false_eq_true,if_false,List.length_nil,List.length_singleton] <;> omega)))
 refine ⟨_,bF (cV c1) (bQ c3),?_⟩
 clear a b c c1 c2 c3 e h3 hk hl hs k2 l1 lA lB lF q sq t8
 cases t with
 | true=>rw [if_pos rfl,bA]; exact ⟨a1,i.mp rfl,λv hv=>aP _ hv⟩
 | false=>exact ⟨a1.add2 hx (λh=>aF (i.mpr h)) k1,aQ _ aa,λv hv=>aP _ (aP _ hv)⟩
theorem xC:∀ (m:Nat) {n:Nat}{src:V}{xs:List V},m<=3->gj src=some xs->(∀ x∈xs,Tm m x)->xs.length<=100->∃ A,C (n+m+1) .lawWhole [src] g=some (.lst A,g)/\eg xs A/\∀ x∈xs,x∈A:=by
 intro m
 induction m with
 | zero=>
  intro n src xs _ hs ht _
  cases xs with
  | cons x xs=>exact absurd (ht x aa).pos (Nat.lt_irrefl _)
  | nil=>exact ⟨[],b8 (bF rfl (bF (dj rfl rfl (dL hs) rfl) (bS rfl))),⟨List.nodup_nil,λw hw=>(nomatch hw),λw hw=>(nomatch hw)⟩,λx hx=>(nomatch hx)⟩
 | succ m ih=>
  intro n src xs hm hs ht hl
  have h3:∀ x∈xs,Tm 3 x:=λx hx=>(ht x hx).up hm
  have loop:∀ {ys:List V}{A:List V}{a2 a3:Option bN},(∀ y∈ys,y∈xs)->eg xs A->∃ A' b2,gG (dE 10000 (C (n+m+1)) xq) [2] (ys.map λx=>[x]) (o4 src A a2 a3) g=some (.nxt,o4 src A' b2 a3,g)/\eg xs A'/\(∀ v∈A,v∈A')/\∀ y∈ys,y∈A':=by
   intro ys
   induction ys with
   | nil=>exact λ{A a2 a3} zz a=>⟨A,a2,rfl,a,λv h=>h,λy hy=>(nomatch hy)⟩
   | cons y ys ihy=>
    intro A a2 a3 hy a
    have hx:=hy y aa
    have k2:(bV y).length<=100:=by cases ht y hx <;> exact aE rfl
    obtain ⟨B,e,b,k⟩:=ih (n:=n) (src:=.tup (bV y)) (by lia) (if_pos (kQ (ht y hx))) (λk hk=>(ht y hx).kid hk) k2
    obtain ⟨A1,e1,a1,m1,u1⟩:=rR (src:=src) (a2:=a2) (a3:=a3) (m:=0) a h3 hl hx b k e
    obtain ⟨A2,b2,e2,w2,u2,m2⟩:=ihy (a2:=some (.val y)) (a3:=a3) (λz hz=>hy z (ai _ hz)) a1
    exact ⟨A2,b2,dh e1 e2,w2,λv hv=>u2 v (u1 v hv),λz hz=>(az.mp hz).elim (λe=>e ▸ u2 y m1) (m2 z)⟩
  obtain ⟨A,b2,e,w,zz,mm⟩:=loop (a2:=none) (a3:=none) (λy hy=>hy) (⟨List.nodup_nil,λw hw=>(nomatch hw),λw hw=>(nomatch hw)⟩:eg xs [])
  exact ⟨A,b8 (bF rfl (bF (dj rfl rfl (dL hs) e) (bS rfl))),w,mm⟩
end
section
open Classical
variable {n m N k p q:Nat}{v x y u s t r z:V}{g g1 g2:G}{cf:Fn->List V->G->Option (V × G)}{env:En}{e a b:E}{xs ys ks vs W:List V}{M L F:V->V}{ps:List (V × V)}
theorem Bw {X i:Nat}(h1:e cf env g=some (y,g1)) (h2:a cf env g1=some (x,g2)) (h3:env[i]?=some (some (.od ks vs))) (h4:de ks x=true/\ks.length < lim):(S.setD i a e) X cf env g=some (.nxt,env.set i (some (.od (db x y ks vs).1 (db x y ks vs).2)),g2):=bL h1 (bL h2 (bL (bL (kA h3) rfl) (if_pos h4)))
inductive D3 (ks:List V) (x y:V) (F:V->V) (o:Option (V × (List V × List V))):Prop
 | mk (r:V) (ks':List V) (F':V->V):o=some (r,(ks',ks'.map F'))->x∈ks'->F' x=r->(∀ v∈ks,F' v=F v/\v∈ks')->(∀ v∈ks',v∈ks\/v=x)->ks'.length<=ks.length+1->(x∈ks\/r=y)->D3 ks x y F o
theorem xd (h:sf (ks,vs) x=some none) (hl:ks.length < lim):fT x y ks vs=some (y,(ks++[x],vs++[y])):=bL h (if_pos hl)
theorem nF (h:rG ks) (hx:Tm 8 x) (hl:ks.length < lim):D3 ks x y F (fT x y ks (ks.map F)):=by
 by_cases m:x∈ks
 ·exact ⟨F x,ks,F,bL ((if_pos (jZ h hx)).trans (i6 h hx m)) rfl,m,rfl,λv hv=>⟨rfl,hv⟩,λv hv=>.inl hv,Nat.le_succ _,.inl m⟩
 ·have e:xz F x y x=y:=if_pos rfl
  have em:(ks++[x]).map (xz F x y)=ks.map F++[y]:=by rw [List.map_append,ug m,List.map_singleton,e]
  exact ⟨y,ks++[x],xz F x y,(xd ((if_pos (jZ h hx)).trans (pD h hx m)) hl).trans (congrArg (λl=>some (y,ks++[x],l)) em.symm),aQ _ (.head _),e,λv hv=>⟨if_neg λe:v=x=>m (e ▸ hv),aP _ hv⟩,
   λv hv=>(aU.mp hv).imp id ay.mp,Nat.le_of_eq aB,.inr rfl⟩
variable {X w:Nat}{d:E}{tb:Option D}{rh:E}{al:Option E}{bd:List S}{ks' vs':List V}{qv:V}{o:Option (Fl × En × G)}
theorem xK {t:D}{ks2 vs2:List V}(h5:t cf env g=some ((ks2,vs2),g)) (h5':de ks2 r=true) (h5'':ed r ks2 vs2=some (some qv)):zZ (some t) cf env r g=some (qv,g):=bL h5 (bL (bL ((if_pos h5').trans h5'') rfl) rfl)
theorem yz (h1:a cf env g=some (x,g)) (h2:d cf env g=some (y,g)) (h3:env[w]?=some (some (.od ks vs))) (h4:fT x y ks vs=some (r,(ks',vs'))) (h5:zZ tb cf (env.set w (some (.od ks' vs'))) r g=some (qv,g))
  (h6:rh cf (env.set w (some (.od ks' vs'))) g=some (z,g)) (h7:fU qv z=some false) (k:dE X cf bd (env.set w (some (.od ks' vs'))) g=o):(S.ifSetdef w a d tb rh al bd) X cf env g=o:=
 bL h1 (bL h2 (bL (bL (kA h3) rfl) (bL h4 (bL h5 (bL h6 (bL h7 k))))))
theorem pE (h1:a cf env g=some (x,g)) (h2:d cf env g=some (y,g)) (h3:env[w]?=some (some (.od ks vs))) (h4:fT x y ks vs=some (r,(ks',vs'))) (h5:zZ tb cf (env.set w (some (.od ks' vs'))) r g=some (qv,g))
  (h6:rh cf (env.set w (some (.od ks' vs'))) g=some (z,g)) (h7:fU qv z=some true):(S.ifSetdef w a d tb rh none bd) X cf env g=some (.nxt,env.set w (some (.od ks' vs')),g):=
 bL h1 (bL h2 (bL (bL (kA h3) rfl) (bL h4 (bL h5 (bL h6 (bL h7 rfl))))))
theorem v0 {c:E}(h1:a cf env g=some (x,g)) (h2:d cf env g=some (y,g)) (h3:env[w]?=some (some (.od ks vs))) (h4:fT x y ks vs=some (r,(ks',vs')))
  (h6:rh cf (env.set w (some (.od ks' vs'))) g=some (z,g)) (h7:fU r z=some true) (h8:c cf (env.set w (some (.od ks' vs'))) g=some (.bool false,g)):(S.ifSetdef w a d none rh (some c) bd) X cf env g=some (.nxt,env.set w (some (.od ks' vs')),g):=
 bL h1 (bL h2 (bL (bL (kA h3) rfl) (bL h4 (bL rfl (bL h6 (bL h7 (cG (k:=λb g=>cond b (dE X cf bd (env.set w (some (.od ks' vs'))) g) (some (.nxt,env.set w (some (.od ks' vs')),g))) h8 rfl)))))))
structure fD (W:List V):Prop where
 nd:W.Nodup
 tm:∀ w∈W,Tm 3 w
 cl:∀ w∈W,∀ k∈bV w,k∈W
 le:W.length<=1000
theorem fD.t8 (h:fD W):rG W:=λv hv=>(h.tm v hv).up (by decide)
theorem fD.sq (h:fD W):gj (.lst W)=some W:=if_pos (aj h.le (by decide))
inductive CE (W:List V) (pr:bN) (M:V->V) (env:En):Prop
 | mk (a3 a4 a5 a6 a7 a8 a9 a10 a11:Option bN):env=[some (.val (.lst W)),some pr,some (.od W (W.map M)),a3,a4,a5,a6,a7,a8,a9,a10,a11]->CE W pr M env
noncomputable abbrev Bl:List S:=[.setD 2 x7 (.ite (.cmp .eq (.dget (.var 2) x7) x6) x5 (.dget (.var 2) x7))]
noncomputable abbrev kJ (W:List V) (pr:bN) (M:V->V) (a3 a4 a5 a6 a7 a8 a9 a10 a11:Option bN):En:=[some (.val (.lst W)),some pr,some (.od W (W.map M)),a3,a4,a5,a6,a7,a8,a9,a10,a11]
theorem jy {i:Nat}(T:fD W) (h:env[2]?=some (some (.od W (W.map M)))) (hk:(E.var i) cf env g=some (x,g)) (hx:x∈W):(E.dget (.var 2) (.var i)) cf env g=some (M x,g):=
 lJ hk (bL (bL (kA h) rfl) rfl) T.t8 (T.t8 x hx) hx
theorem pK {pr:bN}{a3 a4 a8 a9 a10 a11:Option bN}(T:fD W) (l:pV W L) (hs:s∈W) (ht:t∈W):∀ {ys:List V}{M:V->V}{a7:Option bN},ys.Nodup->(∀ v∈ys,v∈W/\M v=L v)->(∀ v∈W,v∉ys->M v=kG L s t v) ->
  ∃ b7,gG (dE 10000 cf Bl) [7] (ys.map λx=>[x]) (kJ W pr M a3 a4 (some (.val (L s))) (some (.val (L t))) a7 a8 a9 a10 a11) g=some (.nxt,kJ W pr (kG L s t) a3 a4 (some (.val (L s))) (some (.val (L t))) b7 a8 a9 a10 a11,g)
 | [],M,a7,_,_,h=>by
  have e:W.map M=W.map (kG L s t):=List.map_congr_left λv hv=>h v hv λh=>(nomatch h)
  exact ⟨a7,congrArg (λl=>some (Fl.nxt,[some (bN.val (V.lst W)),some pr,some (.od W l),a3,a4,some (.val (L s)),some (.val (L t)),a7,a8,a9,a10,a11],g)) e⟩
 | w::ys,M,a7,nd,h1,h2=>by
  obtain ⟨n1,n2⟩:=aT.mp nd
  obtain ⟨hw,hM⟩:=h1 w aa
  have step:dE 10000 cf Bl (kJ W pr M a3 a4 (some (.val (L s))) (some (.val (L t))) (some (.val w)) a8 a9 a10 a11) g=some (.nxt,kJ W pr (xz M w (kG L s t w)) a3 a4 (some (.val (L s))) (some (.val (L t))) (some (.val w)) a8 a9 a10 a11,g):=by
   have get:(E.dget (.var 2) x7) cf (kJ W pr M a3 a4 (some (.val (L s))) (some (.val (L t))) (some (.val w)) a8 a9 a10 a11) g=some (L w,g):=(jy T rfl rfl hw).trans (by rw [hM])
   obtain ⟨b,e,zz,i⟩:=lU (T.tm _ (l.mem w hw)) (T.tm _ (l.mem t ht)) ⟨by decide,by decide⟩
   have val:(E.ite (.cmp .eq (.dget (.var 2) x7) x6) x5 (.dget (.var 2) x7)) cf (kJ W pr M a3 a4 (some (.val (L s))) (some (.val (L t))) (some (.val w)) a8 a9 a10 a11) g=some (kG L s t w,g):=by
    cases b with
    | true=>rw [je (i.mp rfl)]; exact oY (cN get rfl e) rfl
    | false=>rw [rm λh=>aF (i.mpr h)]; exact wF (cN get rfl e) get
   have sd:=Bw (X:=10000) (i:=2) (a:=x7) val rfl rfl ⟨jZ T.t8 (T.t8 w hw),aI T.le (by decide)⟩
   rw [ya T.t8 (T.t8 w hw) T.nd hw] at sd
   exact bQ sd
  obtain ⟨b7,e⟩:=pK (a3:=a3) (a4:=a4) (a8:=a8) (a9:=a9) (a10:=a10) (a11:=a11) T l hs ht (M:=xz M w (kG L s t w)) (a7:=some (.val w)) n2 (λv hv=>⟨(h1 v (ai _ hv)).1,(if_neg λe:v=w=>n1 (e ▸ hv)).trans (h1 v (ai _ hv)).2⟩) λv hv no=>by
   by_cases e:v=w
   ·exact (if_pos e).trans (by rw [e])
   ·exact (if_neg e).trans (h2 v hv λh=>(az.mp h).elim e no)
  exact ⟨b7,dh step e⟩
noncomputable abbrev CL:List S:=[.asgs [5,6] [.val (.dget (.var 2) x3),.val (.dget (.var 2) x4)],fw [7] x0 Bl]
theorem pP {pr:bN}(T:fD W):∀ {ps:List (V × V)}{L:V->V}{env:En},CE W pr L env->pV W L->AC W ps->∃ env',gG (dE 10000 cf CL) [3,4] (ps.map λp=>[p.1,p.2]) env g=some (.nxt,env',g)/\CE W pr (jY L ps) env'
 | [],L,env,c,_,_=>⟨env,rfl,c⟩
 | p::ps,L,env,c,l,h=>by
  obtain ⟨a3,a4,a5,a6,a7,a8,a9,a10,a11,rfl⟩:=c
  obtain ⟨h1,h2⟩:=h p aa
  obtain ⟨b7,e⟩:=pK (cf:=cf) (g:=g) (pr:=pr) (a3:=some (.val p.1)) (a4:=some (.val p.2)) (a8:=a8) (a9:=a9) (a10:=a10) (a11:=a11) (a7:=a7) T l h1 h2 T.nd (λv hv=>⟨hv,rfl⟩) λv hv no=>(no hv).elim
  have g1:(E.dget (.var 2) x3) cf (kJ W pr L (some (.val p.1)) (some (.val p.2)) a5 a6 a7 a8 a9 a10 a11) g=some (L p.1,g):=jy T rfl rfl h1
  have g2:(E.dget (.var 2) x4) cf (kJ W pr L (some (.val p.1)) (some (.val p.2)) a5 a6 a7 a8 a9 a10 a11) g=some (L p.2,g):=jy T rfl rfl h2
  obtain ⟨env',e',c'⟩:=pP T (ps:=ps) (L:=kG L p.1 p.2) ⟨_,_,_,_,_,_,_,_,_,rfl⟩ (l.mrg h1 h2) λq hq=>h q (ai _ hq)
  exact ⟨env',dh (bF (iA g1 g2) (bQ (dj rfl rfl (dL T.sq) e))) e',c'⟩
end
section
open Classical
variable {n m N k p q:Nat}{v x y u s t r z w:V}{g g1 g2:G}{cf:Fn->List V->G->Option (V × G)}{env:En}{e a b:E}{xs ys ks vs W P:List V}{M L F:V->V}{ps:List (V × V)}
theorem CB {X i:Nat}(h:e cf env g=some (v,g1)) (h2:env[i]?=some (some (.ol xs))) (hl:xs.length < lim):(S.app i e) X cf env g=some (.nxt,env.set i (some (.ol (xs++[v]))),g1):=bL h (bL (bL (kA h2) rfl) (if_pos hl))
noncomputable abbrev mU (W:List V) (ps:List (V × V)) (L:V->V) (ks:List V) (F:V->V) (a3 a4 a5 a6 a7 a9 a10 a11:Option bN):En:=[some (.val (.lst W)),some (.ol (ps.map dG)),some (.od W (W.map L)),a3,a4,a5,a6,a7,some (.od ks (ks.map F)),a9,a10,a11]
noncomputable abbrev AI:List S:=[.asg 9 (cK (.tup [hd x7]) (.tupleOf (eK (.dget (.var 2) (.var 10)) 10 (cI x7)))),
 .ifSetdef 8 x9 x7 (some (.var 2)) (.dget (.var 2) x7) none [.app 1 (.tup [.dget (.var 8) x9,x7])]]
theorem xg {a3 a4 a5 a6 a9 a10 a11:Option bN}(T:fD W) (hw:w∈W):(cK (.tup [hd x7]) (.tupleOf (eK (.dget (.var 2) (.var 10)) 10 (cI x7)))) cf (mU W ps L ks F a3 a4 a5 a6 (some (.val w)) a9 a10 a11) g=some (dl L w,g):=by
 have tm:=T.tm w hw
 have c:(eK (.dget (.var 2) (.var 10)) 10 (cI x7)) cf (mU W ps L ks F a3 a4 a5 a6 (some (.val w)) a9 a10 a11) g=some (.lst ((bV w).map L),g):=
  cy (fp tm rfl) rfl (dL (if_pos (kQ tm))) (fB (f:=λit=>fV _ _ (bZ (mU W ps L ks F a3 a4 a5 a6 (some (.val w)) a9 a10 a11) [10] it)) (q:=λk=>[k]) (φ:=L) λk hk=>eh (jy T rfl rfl (T.cl w hw k hk)))
 clear T hw
 cases tm <;> exact cF rfl (cB c rfl) rfl
structure Sc (W:List V) (L:V->V) (P ks:List V) (F:V->V) (ps:List (V × V)):Prop where
 kf:∀ σ∈ks,Tm 8 σ/\F σ∈W/\dl L (F σ)=σ
 pk:∀ w∈P,dl L w∈ks
 pp:∀ p∈ps,(p.1∈W/\p.2∈W)/\dl L p.1=dl L p.2/\L p.1≠L p.2
 no:ps=[]->∀ w∈P,L (F (dl L w))=L w
 le:ks.length<=P.length/\ps.length<=P.length
inductive CY (W:List V) (L:V->V) (P:List V) (g:G) (a3 a4 a5 a6 a10 a11:Option bN) (o:Option (Fl × En × G)):Prop
 | mk (ks:List V) (F:V->V) (ps:List (V × V)) (b7 b9:Option bN):o=some (.nxt,mU W ps L ks F a3 a4 a5 a6 b7 b9 a10 a11,g)->Sc W L P ks F ps->CY W L P g a3 a4 a5 a6 a10 a11 o
theorem j2 (T:fD W) (l:pV W L):∀ {ys P ks:List V}{F:V->V}{ps:List (V × V)}{a3 a4 a5 a6 a7 a9 a10 a11:Option bN},(∀ y∈ys,y∈W)->Sc W L P ks F ps->P.length+ys.length<=1000 ->
  CY W L (P++ys) g a3 a4 a5 a6 a10 a11 (gG (dE 10000 cf AI) [7] (ys.map λx=>[x]) (mU W ps L ks F a3 a4 a5 a6 a7 a9 a10 a11) g)
 | [],P,ks,F,ps,a3,a4,a5,a6,a7,a9,a10,a11,_,S,_=>⟨ks,F,ps,a7,a9,rfl,by rw [bA]; exact S⟩
 | w::ys,P,ks,F,ps,a3,a4,a5,a6,a7,a9,a10,a11,hy,S,hl=>by
  have hw:=hy w aa
  have tm:=T.tm w hw
  have t8:rG ks:=λσ h=>(S.kf σ h).1
  have hx:Tm 8 (dl L w):=(wY tm λk hk=>T.tm _ (l.mem k (T.cl w hw k hk))).up (by decide)
  have len:=S.le
  rw [aO] at hl
  obtain ⟨r,ks',F',sd,xin,fx,old,ju,kl,alt⟩:=nF (F:=F) (y:=w) t8 hx (aI len.1 (aI (aj (bn _ _) hl) (by decide)))
  have hr:r∈W/\dl L r=dl L w:=alt.elim (λm=>fx ▸ (old _ m).1 ▸ (S.kf _ m).2) λe=>by rw [e]; exact ⟨hw,rfl⟩
  have kf':∀ σ∈ks',Tm 8 σ/\F' σ∈W/\dl L (F' σ)=σ:=λσ hσ=>(ju σ hσ).elim (λm=>(old σ m).1 ▸ S.kf σ m) λe=>e ▸ fx ▸ ⟨hx,hr⟩
  have kl:ks'.length<=(P++[w]).length:=aB ▸ aj kl (aR len.1)
  have pk':∀ v∈P++[w],dl L v∈ks':=λv hv=>(aU.mp hv).elim (λm=>(old _ (S.pk v m)).2) λm=>ay.mp m ▸ xin
  have e1:=cV (W:=10000) (i:=9) (xg (cf:=cf) (g:=g) (ps:=ps) (L:=L) (ks:=ks) (F:=F) (a3:=a3) (a4:=a4) (a5:=a5) (a6:=a6) (a9:=a9) (a10:=a10) (a11:=a11) T hw)
  have gw:(E.dget (.var 2) x7) cf (mU W ps L ks' F' a3 a4 a5 a6 (some (.val w)) (some (.val (dl L w))) a10 a11) g=some (L w,g):=jy T rfl rfl hw
  have q:=p7 (T.t8 _ (l.mem r hr.1)) (T.t8 _ (l.mem w hw))
  have eP:P++w::ys=(P++[w])++ys:=by rw [List.append_assoc]; rfl
  have hl':(P++[w]).length+ys.length<=1000:=by rw [aB,List.length_singleton]; lia
  rw [eP]
  by_cases c:L r=L w
  ·have e2:=pE (X:=10000) (bd:=[.app 1 (.tup [.dget (.var 8) x9,x7])]) (env:=mU W ps L ks F a3 a4 a5 a6 (some (.val w)) (some (.val (dl L w))) a10 a11) (w:=8) (a:=x9) (d:=x7) (tb:=some (.var 2)) (rh:=.dget (.var 2) x7) (cf:=cf) (g:=g) rfl rfl rfl sd (xK (ks2:=W) (vs2:=W.map L) rfl (jZ T.t8 (T.t8 r hr.1)) (i6 T.t8 (T.t8 r hr.1) hr.1)) gw (q.1 c)
   have S':Sc W L (P++[w]) ks' F' ps:=⟨kf',pk',S.pp,λh v hv=>(aU.mp hv).elim (λm=>(old _ (S.pk v m)).1 ▸ S.no h v m) λm=>ay.mp m ▸ fx ▸ c,kl,aB ▸ Nat.le_succ_of_le len.2⟩
   obtain ⟨ks2,F2,ps2,b7,b9,e3,S2⟩:=j2 T l (a3:=a3) (a4:=a4) (a5:=a5) (a6:=a6) (a7:=some (.val w)) (a9:=some (.val (dl L w))) (a10:=a10) (a11:=a11) (λy h=>hy y (ai _ h)) S' hl'
   exact ⟨ks2,F2,ps2,b7,b9,dh (bF e1 (bQ e2)) e3,S2⟩
  ·have gd:(E.tup [.dget (.var 8) x9,x7]) cf (mU W ps L ks' F' a3 a4 a5 a6 (some (.val w)) (some (.val (dl L w))) a10 a11) g=some (dG (r,w),g):=by
    refine j6 (ca ((lJ (ks:=ks') (M:=F') rfl rfl (λσ h=>(kf' σ h).1) hx xin).trans (by rw [fx])) (cO rfl)) (aE rfl)
   have ap:=CB (X:=10000) (i:=1) gd (xs:=ps.map dG) rfl (by rw [aw]; exact aI len.2 (aI (aj (bn _ _) hl) (by decide)))
   have e2:=yz (X:=10000) (al:=none) (bd:=[.app 1 (.tup [.dget (.var 8) x9,x7])]) (env:=mU W ps L ks F a3 a4 a5 a6 (some (.val w)) (some (.val (dl L w))) a10 a11) (w:=8) (a:=x9) (d:=x7) (tb:=some (.var 2)) (rh:=.dget (.var 2) x7) (cf:=cf) (g:=g) rfl rfl rfl sd (xK (ks2:=W) (vs2:=W.map L) rfl (jZ T.t8 (T.t8 r hr.1)) (i6 T.t8 (T.t8 r hr.1) hr.1)) gw (q.2 c) (bQ ap)
   have em:(ps++[(r,w)]).map dG=ps.map dG++[dG (r,w)]:=by rw [List.map_append]; rfl
   have S':Sc W L (P++[w]) ks' F' (ps++[(r,w)]):=⟨kf',pk',λp hp=>(aU.mp hp).elim (S.pp p) λm=>ay.mp m ▸ ⟨⟨hr.1,hw⟩,hr.2,c⟩,λh=>absurd h (List.append_ne_nil_of_right_ne_nil _ λh=>nomatch h),kl,by rw [aB,aB]; exact aR len.2⟩
   obtain ⟨ks2,F2,ps2,b7,b9,e3,S2⟩:=j2 T l (a3:=a3) (a4:=a4) (a5:=a5) (a6:=a6) (a7:=some (.val w)) (a9:=some (.val (dl L w))) (a10:=a10) (a11:=a11) (λy h=>hy y (ai _ h)) S' hl'
   refine ⟨ks2,F2,ps2,b7,b9,dh (bF e1 (bQ e2)) ?_,S2⟩
   simp only [mU,em] at e3
   exact e3
end
section
open Classical
variable {n m N k p q:Nat}{v x y u s t r z w:V}{g g1 g2:G}{cf:Fn->List V->G->Option (V × G)}{env:En}{e a b:E}{xs ys ks vs W P:List V}{M L F:V->V}{ps ts:List (V × V)}
structure Dp (F:V->V) (W:List V) (L:V->V) (ps:List (V × V)):Prop where
 lab:pV W L
 snd:yG F W L
 inW:AC W ps
 eq:∀ p∈ps,F p.1=F p.2
 le:ps.length<=1000
noncomputable abbrev oI:List S:=[fw [3,4] x1 CL,.asgs [8,1] [.ownD,.ownL []],fw [7] x0 AI,.freezeV 1]
noncomputable abbrev vV (ps:List (V × V)):bN:=.val (.lst (ps.map dG))
inductive CF (F:V->V) (W:List V) (L:V->V) (g:G) (o:Option (Fl × En × G)):Prop
 | mk (env:En) (ps:List (V × V)):o=some (.nxt,env,g)->CE W (vV ps) L env->Dp F W L ps->(∀ p∈ps,L p.1≠L p.2)->(ps=[]->uX W L)->CF F W L g o
theorem uB (T:fD W) (hF:ds F) (D:Dp F W L ps) (c:CE W (vV ps) L env):CF F W (jY L ps) g (dE 10000 cf oI env g):=by
 obtain ⟨env1,e1,c1⟩:=pP (cf:=cf) (g:=g) T c D.lab D.inW
 have l1:=(lO D.lab D.inW).1
 have s1:=pG D.snd D.inW D.eq
 have x1e:x1 cf env g=some (.lst (ps.map dG),g):=by obtain ⟨a3,a4,a5,a6,a7,a8,a9,a10,a11,rfl⟩:=c; rfl
 have it:=iT (a:=λp:V × V=>p.1) (b:=λp=>p.2) (l:=ps) (aj D.le (by decide))
 clear D c
 obtain ⟨a3,a4,a5,a6,a7,a8,a9,a10,a11,rfl⟩:=c1
 obtain ⟨ks,F',ps',b7,b9,e2,S⟩:=j2 (cf:=cf) (g:=g) (P:=[]) (ks:=[]) (F:=id) (ps:=[]) (a3:=a3) (a4:=a4) (a5:=a5) (a6:=a6) (a7:=a7) (a9:=a9) (a10:=a10) (a11:=a11) T l1 (λy h=>h)
  ⟨λσ h=>(nomatch h),λw h=>(nomatch h),λp h=>(nomatch h),λzz w h=>(nomatch h),⟨ak _,ak _⟩⟩ ((Nat.zero_add _).symm ▸ T.le)
 refine ⟨kJ W (vV ps') (jY L ps) a3 a4 a5 a6 b7 (some (.od ks (ks.map F'))) b9 a10 a11,ps',bF (dj x1e rfl it e1) (bF rfl (bF (dj rfl rfl (dL T.sq) e2) (bQ rfl))),⟨_,_,_,_,_,_,_,_,_,rfl⟩,⟨l1,s1,λp h=>(S.pp p h).1,λp h=>?_,aj S.le.2 T.le⟩,λp h=>(S.pp p h).2.2,λh w hw w' hw' e=>?_⟩
 ·have q:=S.pp p h
  exact vB hF s1 T.cl ((T.tm _ q.1.1).up (by decide)) ((T.tm _ q.1.2).up (by decide)) q.1.1 q.1.2 q.2.1
 ·exact (S.no h w hw).symm.trans ((congrArg (λv=>jY L ps (F' v)) e).trans (S.no h w' hw'))
theorem AG {c:CE W (vV ps) L env}:(E.cmp .ne x1 (.lst [])) cf env g=some (.bool (!ps.isEmpty),g):=by
 obtain ⟨a3,a4,a5,a6,a7,a8,a9,a10,a11,rfl⟩:=c
 cases ps <;> rfl
inductive B0 (F:V->V) (W:List V) (L:V->V) (g:G) (o:Option (Fl × En × G)):Prop
 | mk (L':V->V) (env:En):o=some (.nxt,env,g)->CE W (vV []) L' env->pV W L'->yG F W L'->uX W L'->(∀ x y,L x=L y->L' x=L' y)->B0 F W L g o
theorem sO (T:fD W) (hF:ds F):∀ (gQ:Nat) {L:V->V}{ps:List (V × V)}{env:En},Dp F W L ps->CE W (vV ps) L env->(∀ p∈ps,L p.1≠L p.2)->(ps=[]->uX W L)->oN W L < gQ ->
  B0 F W L g (eD ((E.cmp .ne x1 (.lst [])) cf) (dE 10000 cf oI) gQ env g):=by
 intro gQ
 induction gQ with
 | zero=>exact λzz zz zz zz h=>absurd h (aY _)
 | succ gQ ih=>
  intro L ps env D c ne cg hN
  have x:=AG (cf:=cf) (g:=g) (c:=c)
  cases ps with
  | nil=>exact ⟨L,env,cG x rfl,c,D.lab,D.snd,cg rfl,λx y h=>h⟩
  | cons p ps=>
   obtain ⟨env1,ps',e1,c1,D1,ne1,cg1⟩:=uB (cf:=cf) (g:=g) T hF D c
   obtain ⟨L',env',e2,c2,l2,s2,g2,k2⟩:=ih D1 c1 ne1 cg1 (br (zN D.lab D.inW (λh=>nomatch h) ne) (Nat.le_of_lt_succ hN))
   exact ⟨L',env',(kP x e1).trans e2,c2,l2,s2,g2,λx y h=>k2 x y (jO h)⟩
theorem u9 (T:fD W) (hF:ds F) (hi:AC W ts) (ne:ts≠[]) (hl:ts.length<=1000) (he:∀ p∈ts,F p.1=F p.2):
  ∃ L,C (n+1) .lawClosed [.lst W,.lst (ts.map dG)] g=some (.dct W (W.map L),g)/\pV W L/\yG F W L/\uX W L/\∀ p∈ts,L p.1=L p.2:=by
 have D:Dp F W id ts:=⟨⟨λw h=>h,λw zz=>rfl⟩,λw zz=>rfl,hi,he,hl⟩
 have lst:(eK (.tup [.var 11,.var 11]) 11 x0) (C n) [some (.val (.lst W)),some (vV ts),none,none,none,none,none,none,none,none,none,none] g=some (.lst (W.map λw=>.tup [w,id w]),g):=
  cy rfl rfl (dL T.sq) (fB (f:=λit=>fV _ _ (bZ [some (.val (.lst W)),some (vV ts),none,none,none,none,none,none,none,none,none,none] [11] it)) (q:=λk=>[k]) (φ:=λw=>.tup [w,id w]) λk hk=>eh rfl)
 have al:qk W=true:=by
  have:W.all gc=true:=aG.mpr λv hv=>(T.t8 v hv).term
  exact Bool.or_eq_true_iff.mpr (.inl this)
 have dict:pY (.lst (W.map λw=>.tup [w,id w]))=some (W,W.map id):=
  xp (by rw [aw]; exact aj T.le (by decide)) (oW (M:=id) (ws:=W) (acc:=[]) T.t8 T.nd) al
 have own:(S.ownDictOf 2 (eK (.tup [.var 11,.var 11]) 11 x0)) 10000 (C n) [some (.val (.lst W)),some (vV ts),none,none,none,none,none,none,none,none,none,none] g=some (.nxt,kJ W (vV ts) id none none none none none none none none none,g):=bL lst (bL dict rfl)
 obtain ⟨env1,ps',e1,c1,D1,ne1,cg1⟩:=uB (cf:=C n) (g:=g) T hF D (env:=kJ W (vV ts) id none none none none none none none none none) ⟨_,_,_,_,_,_,_,_,_,rfl⟩
 obtain ⟨L',env',e2,c2,l2,s2,g2,k2⟩:=sO (cf:=C n) (g:=g) T hF 9999 D1 c1 ne1 cg1 (aI (aj (List.countP_le_length) T.le) (by decide))
 have tr:(!ts.isEmpty)=true:=by cases ts with | nil=>exact absurd rfl ne | cons _ _=>rfl
 have w1:eD ((E.cmp .ne x1 (.lst [])) (C n)) (dE 10000 (C n) oI) 10000 (kJ W (vV ts) id none none none none none none none none none) g=some (.nxt,env',g):=
  (kP (n:=9999) ((AG (ps:=ts) (L:=id) (c:=⟨_,_,_,_,_,_,_,_,_,rfl⟩)).trans (by rw [tr])) e1).trans e2
 clear D D1 T al c1 cg1 dict e1 e2 env1 hF he hi hl lst ne ne1 ps' tr
 obtain ⟨a3,a4,a5,a6,a7,a8,a9,a10,a11,rfl⟩:=c2
 exact ⟨L',b8 (bF own (bF (jK w1) (bF rfl (bS rfl)))),l2,s2,g2,λp hp=>k2 _ _ (ui hp)⟩
end
section
open Classical
variable {n m N k p q:Nat}{v x y u s t r z w:V}{g g1 g2:G}{cf:Fn->List V->G->Option (V × G)}{env:En}{e a b:E}{xs ys ks vs W P:List V}{M L F:V->V}{rk:Nat->Int}{T:(V->V)->Prop}{σ:Sg}{R:jP}{Rs:List (V × V × V)}
theorem ye {X i j:Nat}(h:e cf env g=some (.tup [x,y],g1)):(S.unp [i,j] e) X cf env g=some (.nxt,(env.set i (some (.val x))).set j (some (.val y)),g1):=bL h (bL rfl (if_pos rfl))
noncomputable def Dd:V->V
 | .tup l=>.tup (l.take 4++[.bool true])
 | v=>v
theorem Bb {A:List V}{B:List V}{a0 a1 a2 a3 a4 a6 a8:Option bN}(h1:∀ s∈B,∃ l,s=V.tup l/\l.length=5) (l1:A.length < 200) (l2:B.length < 200):
  ∃ l,(cK x5 (.comp (cK (.slc x8 none (some (.int 4))) (.tup [.bool true])) [8] .rev x7 .none none)) cf [a0,a1,a2,a3,a4,some (.val (.lst A)),a6,some (.val (.lst B)),a8] g=some (.lst l,g):=by
 have c:(E.comp (cK (.slc x8 none (some (.int 4))) (.tup [.bool true])) [8] .rev x7 .none none) cf [a0,a1,a2,a3,a4,some (.val (.lst A)),a6,some (.val (.lst B)),a8] g=some (.lst (B.reverse.map Dd),g):=by
  refine cy (x:=.lst B) rfl rfl (its:=B.reverse.map λx=>[x]) (bL rfl (if_pos ⟨rfl,aj (Nat.le_of_lt l2) (by decide)⟩)) (fB (f:=λit=>fV _ _ (bZ [a0,a1,a2,a3,a4,some (.val (.lst A)),a6,some (.val (.lst B)),a8] [8] it)) (q:=λk=>[k]) (φ:=Dd) λk hk=>eh ?_)
  obtain ⟨l,rfl,h5⟩:=h1 k (List.mem_reverse.mp hk)
  have sl:(E.slc x8 none (some (.int 4))) cf [a0,a1,a2,a3,a4,some (.val (.lst A)),a6,some (.val (.lst B)),some (.val (.tup l))] g=some (.tup (l.take 4),g):=
   bL rfl (bL rfl (bL rfl (bL (bL rfl (if_pos ⟨by decide,by decide,h5.symm ▸ (by decide)⟩)) rfl)))
  exact cF sl (j6 (cO rfl) (aE rfl)) (ul (aj (aR (List.length_take_le 4 l)) (by decide)))
 exact ⟨_,cF rfl c (ja (by rw [aw,List.length_reverse]; exact aj (Nat.add_le_add (Nat.le_of_lt l1) (Nat.le_of_lt l2)) (by decide)))⟩
theorem BE {J:V->Prop}(ok:du (σ.rs Rs)) (K:m6 R rk Rs J) (js:J s) (jt:J t) (hs:Tm 7 s) (ht:Tm 7 t) (hs':Tm 7 (nf R s)) (ht':Tm 7 (nf R t)):∃ r,C (n+16) .way [.gl 2,s,t] (σ.rs Rs).st=some (r,(σ.rs Rs).st)/\l7 .isNN r .none=some (.bool (decide (nf R s=nf R t))):=by
 obtain ⟨st,e1,h1,l1⟩:=j4 (n:=n) (g:=(σ.rs Rs).st) K js hs (ak 7)
 obtain ⟨st',e2,h2,l2⟩:=j4 (n:=n) (g:=(σ.rs Rs).st) K jt ht (ak 7)
 obtain ⟨b,zz,e,i⟩:=lU hs' ht' ⟨by decide,by decide⟩
 have CP:∀ {ss:List S}{o:Option (Fl × En × G)},dE 10000 (C (n+14)) ss [some (.val (dJ Rs)),some (.val s),some (.val t),some (.val (.int 200)),some (.val (nf R s)),some (.val (.lst st)),some (.val (nf R t)),some (.val (.lst st')),none] (σ.rs Rs).st=o ->
   dE 10000 (C (n+14)) (.unp [4,5] (.meth 1 .normal x0 [x1,x3])::.unp [6,7] (.meth 1 .normal x0 [x2,x3])::ss) [some (.val (dJ Rs)),some (.val s),some (.val t),some (.val (.int 200)),none,none,none,none,none] (σ.rs Rs).st=o:=λk=>
  bF (ye (ck rfl rfl rfl e1)) (bF (ye (ck rfl rfl rfl e2)) k)
 have nw:∃ r,C (n+15) .normWay [dJ Rs,s,t,.int 200] (σ.rs Rs).st=some (r,(σ.rs Rs).st)/\l7 .isNN r .none=some (.bool (decide (nf R s=nf R t))):=by
  cases b with
  | false=>exact ⟨.none,b8 (CP (bS (eV (cN rfl rfl e) (bQ rfl)))),by rw [bq λh=>aF (i.mpr h)]; rfl⟩
  | true=>
   obtain ⟨l,el⟩:=Bb (cf:=C (n+14)) (g:=(σ.rs Rs).st) (a0:=some (.val (dJ Rs))) (a1:=some (.val s)) (a2:=some (.val t)) (a3:=some (.val (.int 200))) (a4:=some (.val (nf R s))) (a6:=some (.val (nf R t))) (a8:=none) h2 l1 l2
   exact ⟨.lst l,b8 (CP (bF (cP (cN rfl rfl e) rfl) (bS (cY el)))),by rw [be (i.mp rfl)]; rfl⟩
 obtain ⟨r,er,ir⟩:=nw
 exact ⟨r,b8 (bS (cY (ck (l8 (cO (gF rfl rfl)) (lZ (n:=n+14) ok.gd K.tm)) rfl (ca rfl (ca rfl (cO rfl))) er))),ir⟩
end
section
variable {n m N k p q:Nat}{v x y u s t r z w:V}{g g1 g2:G}{cf:Fn->List V->G->Option (V × G)}{env:En}{e a b:E}{ys:List Int}
theorem wN {elt:E}{tg:List Nat}{i:List V}{its:List (List V)}{us:List V}(h:elt cf (bZ env tg i) g=some (v,g1)) (k:eU (λit=>fV (elt cf) (rF cf none) (bZ env tg it)) its g1=some (us,g2)):
  eU (λit=>fV (elt cf) (rF cf none) (bZ env tg it)) (i::its) g=some (v::us,g2):=cw (f:=λit=>fV (elt cf) (rF cf none) (bZ env tg it)) (vs:=[v]) (eh h) k
theorem Eo {elt:E}{tg:List Nat}{kd:nX}{i:List V}{g3:G}(h1:a cf env g=some (x,g1)) (h2:b cf env g1=some (y,g2)) (h3:cJ kd tg.length x y=some [i]) (h4:elt cf (bZ env tg i) g2=some (v,g3)):(E.comp elt tg kd a b none) cf env g=some (.lst [v],g3):=
 cy h1 h2 h3 (wN h4 rfl)
theorem Ec {elt:E}{tg:List Nat}{kd:nX}{i i':List V}{g3 g4:G}(h1:a cf env g=some (x,g1)) (h2:b cf env g1=some (y,g2)) (h3:cJ kd tg.length x y=some [i,i']) (h4:elt cf (bZ env tg i) g2=some (v,g3)) (h5:elt cf (bZ env tg i') g3=some (w,g4)):(E.comp elt tg kd a b none) cf env g=some (.lst [v,w],g4):=
 cy h1 h2 h3 (wN h4 (wN h5 rfl))
noncomputable abbrev AV (j:Nat):E:=.comp (.call .lawTerm [x1,i2]) [j] .range i2 .none none
theorem xw {j:Nat}(P:sK ys) (hp:p+16<=5000) (hx:∀ k g,x1 (C (n+4)) (bZ env [j] [.int k]) g=some (.gl 0,g)):∃ s t q,(AV j) (C (n+4)) env (eW ys p::g)=some (.lst [s,t],eW ys q::g)/\Tm 3 s/\Tm 3 t/\q<=p+14:=by
 obtain ⟨s,q1,e1,t1,l1⟩:=tD (g:=g) P 2 (n:=n) (p:=p) (aj (bu (show 7<=16 by decide) p) hp)
 have l1:q1<=p+7:=l1
 have h2:q1+7<=p+14:=bB l1 7
 obtain ⟨t,q2,e2,t2,l2⟩:=tD (g:=g) P 2 (n:=n) (p:=q1) (aj h2 (aj (bu (show 14<=16 by decide) p) hp))
 exact ⟨s,t,q2,Ec (x:=.int 2) (i:=[.int 0]) (i':=[.int 1]) rfl rfl rfl (bO (ca (hx _ _) (cO rfl)) e1) (bO (ca (hx _ _) (cO rfl)) e2),t1,t2,aj l2 h2⟩
noncomputable abbrev Di:E:=.comp (.tupleOf (AV 12)) [13] .range (cK i1 (.call .lawPull [x1,i2])) .none none
noncomputable abbrev yH (a0 a1 a2 a3 a4 a5 a6 a7 a8 a9 a10 a11:Option bN):En:=[a0,a1,a2,a3,a4,a5,a6,a7,a8,a9,a10,a11,none,none,none,none,none,none,none]
theorem zt {a0 a2 a3 a4 a5:Option bN}(P:sK ys) (hp:p+40<=5000):∃ ts q,Di (C (n+4)) (yH a0 (some (.val (.gl 0))) a2 a3 a4 a5 none none none none none none) (eW ys p::g)=some (.lst (ts.map dG),eW ys q::g)/\(∀ w∈ts,wZ w)/\((∃ w,ts=[w])\/∃ w w',ts=[w,w'])/\q<=p+29:=by
 obtain ⟨r,r0,r1,e0⟩:=oF (n:=n+3) (g:=g) (k:=2) P (show p < 10000 by omega) (by decide)
 have mS:(cK i1 (.call .lawPull [x1,i2])) (C (n+4)) (yH a0 (some (.val (.gl 0))) a2 a3 a4 a5 none none none none none none) (eW ys p::g)=some (.int (1+r),eW ys (p+1)::g):=cF rfl (bO (ca rfl (cO rfl)) e0) rfl
 have el:∀ {p:Nat}(i:Int),p+16<=5000->∃ w q,(E.tupleOf (AV 12)) (C (n+4)) (bZ (yH a0 (some (.val (.gl 0))) a2 a3 a4 a5 none none none none none none) [13] [.int i]) (eW ys p::g)=some (dG w,eW ys q::g)/\wZ w/\q<=p+14:=λ{p} i hp=>by
  obtain ⟨s,t,q,e,t1,t2,l⟩:=xw (n:=n) (g:=g) (j:=12) (env:=bZ (yH a0 (some (.val (.gl 0))) a2 a3 a4 a5 none none none none none none) [13] [.int i]) P hp λk g=>rfl
  exact ⟨(s,t),q,cB e rfl,⟨t1,t2⟩,l⟩
 obtain ⟨w,q1,e1,t1,l1⟩:=el (p:=p+1) 0 (by lia)
 rcases xD r0 r1 with rfl | rfl
 ·exact ⟨[w],q1,Eo (i:=[.int 0]) mS rfl rfl e1,am.mpr t1,.inl ⟨w,rfl⟩,by omega⟩
 ·obtain ⟨w',q2,e2,t2,l2⟩:=el (p:=q1) 1 (by lia)
  exact ⟨[w,w'],q2,Ec (i:=[.int 0]) (i':=[.int 1]) mS rfl rfl e1 e2,ao.mpr ⟨t1,am.mpr t2⟩,.inr ⟨w,w',rfl⟩,by lia⟩
noncomputable abbrev CW:E:=.dictOf (eK (.tup [.var 14,.call .lawPull [x1,.int 3]]) 14 (.lst [.str (S1 102),.str (S1 103),.str (S1 104),.str (S1 98)]))
theorem zn {a0 a2 a3 a4 a5:Option bN}(P:sK ys) (hp:p+40<=5000):∃ pr:iM,CW (C (n+4)) (yH a0 (some (.val (.gl 0))) a2 a3 a4 a5 none none none none none none) (eW ys p::g)=some (pr.rv,eW ys (p+4)::g):=by
 have pl:∀ (p:Nat),p < 5000->∃ r:Int,∀ (v:V),(E.tup [.var 14,.call .lawPull [x1,.int 3]]) (C (n+4)) (bZ (yH a0 (some (.val (.gl 0))) a2 a3 a4 a5 none none none none none none) [14] [v]) (eW ys p::g)=some (.tup [v,.int r],eW ys (p+1)::g):=λp hp=>by
  obtain ⟨r,zz,zz,e⟩:=oF (n:=n+3) (g:=g) (k:=3) P (show p < 10000 by omega) (by decide)
  exact ⟨r,λv=>j6 (ca rfl (cO (bO (ca rfl (cO rfl)) e))) (aE rfl)⟩
 obtain ⟨r1,e1⟩:=pl p (by omega)
 obtain ⟨r2,e2⟩:=pl (p+1) (by omega)
 obtain ⟨r3,e3⟩:=pl (p+2) (by omega)
 obtain ⟨r4,e4⟩:=pl (p+3) (by omega)
 refine ⟨⟨r1,r2,r3,r4⟩,my (xs:=[.tup [.str (S1 102),.int r1],.tup [.str (S1 103),.int r2],.tup [.str (S1 104),.int r3],.tup [.str (S1 98),.int r4]]) ?_ (aE rfl) rfl rfl⟩
 exact cy (its:=[[.str (S1 102)],[.str (S1 103)],[.str (S1 104)],[.str (S1 98)]]) rfl rfl rfl (wN (e1 _) (wN (e2 _) (wN (e3 _) (wN (e4 _) rfl))))
theorem zT {pr:iM}:o6 (C (n+1)) 2 .pathInit [pr.rv] [eW ys p]=some (.gl 1,[eW ys p,.inst 2 [.val pr.rv,.od [] []]]):=uy (g:=[eW ys p]) rfl rfl
end
section
open Classical
variable {n m N k p q:Nat}{v x y u s t r z w:V}{g g1 g2:G}{cf:Fn->List V->G->Option (V × G)}{env:En}{e a b:E}{ys:List Int}{W ks xs:List V}{A B L F NF:V->V}{rk:Nat->Int}{T:(V->V)->Prop}{σ:Sg}{R:jP}{Rs:List (V × V × V)}{ts:List (V × V)}
structure Ci (W:List V) (A B:V->V) (ks:List V) (F:V->V):Prop where
 k8:rG ks
 f:∀ w∈W,A w∈ks->F (A w)=B w
theorem Ci.step (h:Ci W A B ks F) (hw:w∈W) (t:Tm 8 (A w)) (hl:ks.length < 1000) (ab:∀ v∈W,A v=A w->B v=B w):∃ ks' F',fT (A w) (B w) ks (ks.map F)=some (B w,(ks',ks'.map F'))/\Ci W A B ks' F'/\ks'.length<=ks.length+1:=by
 obtain ⟨r,ks',F',sd,xin,fx,old,ju,kl,alt⟩:=nF (F:=F) (y:=B w) h.k8 t (Nat.lt_trans hl (by decide))
 have hr:r=B w:=alt.elim (λm=>fx.symm.trans ((old _ m).1.trans (h.f w hw m))) id
 exact ⟨ks',F',hr ▸ sd,⟨λv hv=>(ju v hv).elim (h.k8 v) λe=>e ▸ t,λv hv m=>(ju _ m).elim (λm=>(old _ m).1.trans (h.f v hv m)) λe=>(congrArg F' e).trans (fx.trans (hr.trans (ab v hv e).symm))⟩,kl⟩
noncomputable abbrev Co:List S:=[.ifSetdef 9 (.dget (.var 7) (.var 11)) (.dget (.var 8) (.var 11)) none (.dget (.var 8) (.var 11)) none [.ret (.bool false)],
  .ifSetdef 10 (.dget (.var 8) (.var 11)) (.dget (.var 7) (.var 11)) none (.dget (.var 7) (.var 11)) (some (.cmp .ne (.meth 3 .simpler x5 [.dget (.var 8) (.var 11)]) (.dget (.var 8) (.var 11)))) [.ret (.bool false)]]
noncomputable abbrev zS (W:List V) (L NF:V->V) (k1:List V) (F1:V->V) (k2:List V) (F2:V->V) (a0 a1 a2 a3 a4 a11:Option bN):En:=
 yH a0 a1 a2 a3 a4 (some (.val (.gl 2))) (some (.val (.lst W))) (some (.val (.dct W (W.map L)))) (some (.val (.dct W (W.map NF)))) (some (.od k1 (k1.map F1))) (some (.od k2 (k2.map F2))) a11
inductive D2 (W:List V) (L NF:V->V) (a0 a1 a2 a3 a4:Option bN) (g:G) (o:Option (Fl × En × G)):Prop
 | mk (k1:List V) (F1:V->V) (k2:List V) (F2:V->V) (b11:Option bN):o=some (.nxt,zS W L NF k1 F1 k2 F2 a0 a1 a2 a3 a4 b11,g)->D2 W L NF a0 a1 a2 a3 a4 g o
theorem pZ (T:fD W) (l:pV W L) (nt:∀ w∈W,Tm 7 (NF w)) (same:∀ v∈W,∀ w∈W,L v=L w↔NF v=NF w) (still:∀ w∈W,C n .simpler [.gl 2,NF w] σ.st=some (NF w,σ.st)):
  ∀ {ys k1 k2:List V}{F1 F2:V->V}{a0 a1 a2 a3 a4 a11:Option bN},(∀ y∈ys,y∈W)->Ci W L NF k1 F1->Ci W NF L k2 F2->k1.length+ys.length<=1000->k2.length+ys.length<=1000 ->
  D2 W L NF a0 a1 a2 a3 a4 σ.st (gG (dE 10000 (C n) Co) [11] (ys.map λx=>[x]) (zS W L NF k1 F1 k2 F2 a0 a1 a2 a3 a4 a11) σ.st)
 | [],k1,k2,F1,F2,a0,a1,a2,a3,a4,a11,_,_,_,_,_=>⟨k1,F1,k2,F2,a11,rfl⟩
 | w::ys,k1,k2,F1,F2,a0,a1,a2,a3,a4,a11,hy,f1,f2,l1,l2=>by
  have hw:=hy w aa
  rw [aO] at l1 l2
  have tl:Tm 8 (L w):=T.t8 _ (l.mem w hw)
  have tn:Tm 8 (NF w):=(nt w hw).up (by decide)
  obtain ⟨k1',F1',s1,f1',m1⟩:=f1.step hw tl (by omega) λv hv e=>(same v hv w hw).mp e
  obtain ⟨k2',F2',s2,f2',m2⟩:=f2.step hw tn (by lia) λv hv e=>(same v hv w hw).mpr e
  have gL:∀ {k1 k2:List V}{F1 F2:V->V},(E.dget (.var 7) (.var 11)) (C n) (zS W L NF k1 F1 k2 F2 a0 a1 a2 a3 a4 (some (.val w))) σ.st=some (L w,σ.st):=lJ rfl rfl T.t8 (T.t8 w hw) hw
  have gN:∀ {k1 k2:List V}{F1 F2:V->V},(E.dget (.var 8) (.var 11)) (C n) (zS W L NF k1 F1 k2 F2 a0 a1 a2 a3 a4 (some (.val w))) σ.st=some (NF w,σ.st):=lJ rfl rfl T.t8 (T.t8 w hw) hw
  have q1:=pE (X:=10000) (tb:=none) (w:=9) (rh:=.dget (.var 8) (.var 11)) (bd:=[.ret (.bool false)]) gL gN (env:=zS W L NF k1 F1 k2 F2 a0 a1 a2 a3 a4 (some (.val w))) rfl s1 rfl (gN (k1:=k1') (F1:=F1') (k2:=k2) (F2:=F2)) ((p7 tn tn).1 rfl)
  obtain ⟨b,zz,e,i⟩:=lU (nt w hw) (nt w hw) ⟨by decide,by decide⟩
  rw [i.mpr rfl] at e
  have al:(E.cmp .ne (.meth 3 .simpler x5 [.dget (.var 8) (.var 11)]) (.dget (.var 8) (.var 11))) (C n) (zS W L NF k1' F1' k2' F2' a0 a1 a2 a3 a4 (some (.val w))) σ.st=some (.bool false,σ.st):=cN (ck rfl rfl (cO gN) (still w hw)) gN e
  have q2:=v0 (X:=10000) (w:=10) (rh:=.dget (.var 7) (.var 11)) (bd:=[.ret (.bool false)]) gN gL (env:=zS W L NF k1' F1' k2 F2 a0 a1 a2 a3 a4 (some (.val w))) rfl s2 (gL (k1:=k1') (F1:=F1') (k2:=k2') (F2:=F2')) ((p7 tl tl).1 rfl) al
  obtain ⟨k1'',F1'',k2'',F2'',b11,e3⟩:=pZ T l nt same still (a0:=a0) (a1:=a1) (a2:=a2) (a3:=a3) (a4:=a4) (a11:=some (.val w)) (λy h=>hy y (ai _ h)) f1' f2' (by lia) (by lia)
  exact ⟨k1'',F1'',k2'',F2'',b11,dh (bF q1 (bQ q2)) e3⟩
theorem jN.nf7 (D:jN rk T R Rs) (h:Tm 3 w):Tm 7 (nf R w)/\g6 R 1 3 (nf R w)/\nf R (nf R w)=nf R w:=by
 have low:∀ {l r m},R l r->Tm m l->1<=m:=λzz t=>t.pos
 have t:Tm 7 (nf R w):=uk D.good low D.t5 (by decide) h (by decide) (by decide)
 exact ⟨t,(oO (c:=id) D.good low D.t5 (N:=3) (by decide) h.bud (ak 3)).1,lS t (by decide) (iB D.good h (by decide))⟩
theorem jN.told (D:jN rk (fR ts) R Rs):∀ p∈ts,nf R p.1=nf R p.2:=(D.eqv gs).mpr λ{l r} h=>by
 obtain ⟨q,hq,e1,e2⟩:=D.has h
 have t:=(D.tm.2 q hq).1
 rw [e1,e2] at t
 exact (oA D.good t.1 (by decide) h).trans (ia D.good t.2 (by decide) h).symm
theorem jN.same (D:jN rk (fR ts) R Rs) (Te:fD W) (hi:AC W ts) (l:pV W L) (sn:yG (nf R) W L) (cg:uX W L) (he:∀ p∈ts,L p.1=L p.2):∀ v∈W,∀ w∈W,L v=L w↔nf R v=nf R w:=by
 intro v hv w hw
 have cn:∀ {w:V},w∈W->nf (RL W L) w=L w:=λh=>B3 cg Te.cl (Te.tm _ h) (by decide) h
 have sound:∀ {l r},R l r->nf (RL W L) l=nf (RL W L) r:=(D.eqv (c:=nf (RL W L)) gs).mp λp hp=>by rw [cn (hi p hp).1,cn (hi p hp).2,he p hp]
 have gY:∀ {w:V},w∈W->nf (RL W L) (nf R w)=nf (RL W L) w:=λh=>sM D.good (k:=1) (j:=5) (λzz t=>t.pos) D.t5 (by decide) (Te.tm _ h) gs sound
 constructor
 ·intro e; rw [← sn v hv,e,sn w hw]
 ·intro e; rw [← cn hv,← cn hw,← gY hv,e,gY hw]
end
section
open Classical
variable {n m N k p q:Nat}{v x y u s t r z w:V}{g g1 g2:G}{cf:Fn->List V->G->Option (V × G)}{env:En}{e a b:E}{ys:List Int}{W ks:List V}{A B L F NF:V->V}{rk:Nat->Int}{T:(V->V)->Prop}{σ:Sg}{R:jP}{Rs:List (V × V × V)}{ts:List (V × V)}
theorem zH {a0 a1 a3 a4 a5:Option bN}(t33:∀ w∈ts,wZ w) (t12:(∃ w,ts=[w])\/∃ w w',ts=[w,w']):∃ fl,(E.comp2 (.var 16) 15 x2 16 (.var 15)) cf (yH a0 a1 (some (.val (.lst (ts.map dG)))) a3 a4 a5 none none none none none none) g=some (.lst fl,g)/\(∀ x∈fl,Tm 3 x)/\(∀ w∈ts,w.1∈fl/\w.2∈fl)/\fl.length<=4:=by
 have m2:∀ {x y:V}{l:List V},y∈x::y::l:=ai _ aa
 rcases t12 with ⟨w,rfl⟩ | ⟨w,w',rfl⟩
 ·have h:=t33 w aa
  exact ⟨[w.1,w.2],rfl,ao.mpr ⟨h.1,am.mpr h.2⟩,am.mpr ⟨.head _,m2⟩,aE rfl⟩
 ·have h:=t33 w aa
  have h':=t33 w' (ai _ aa)
  exact ⟨[w.1,w.2,w'.1,w'.2],rfl,ao.mpr ⟨h.1,ao.mpr ⟨h.2,ao.mpr ⟨h'.1,am.mpr h'.2⟩⟩⟩,ao.mpr ⟨⟨.head _,m2⟩,am.mpr ⟨.tail _ m2,.tail _ (.tail _ m2)⟩⟩,ak 4⟩
noncomputable abbrev wI (src:V) (ts:List (V × V)) (t u:V) (a6 a7 a8 a9 a10 a11:Option bN):En:=yH (some (.val src)) (some (.val (.gl 0))) (some (.val (.lst (ts.map dG)))) (some (.val (.lst [t,u]))) (some (.val (.gl 1))) (some (.val (.gl 2))) a6 a7 a8 a9 a10 a11
theorem zj {src:V}(ok:du (σ.rs Rs)) (D:jN rk (fR ts) R Rs) (t33:∀ w∈ts,wZ w) (t12:(∃ w,ts=[w])\/∃ w w',ts=[w,w']) (ht:Tm 3 t) (hu:Tm 3 u):
  ∃ env,dE 10000 (C (n+20)) [
   .asg 6 (.call .lawWhole [cK (.comp2 (.var 16) 15 x2 16 (.var 15)) x3]),
   .asg 7 (.call .lawClosed [x6,x2]),
   .asg 8 (.dictOf (eK (.tup [.var 18,.meth 3 .simpler x5 [.var 18]]) 18 x6)),
   .asgs [9,10] [.ownD,.ownD],
   fw [11] x6 Co,
   .ret (.cmp .eq (.cmp .isNN (.meth 3 .way x5 [hd x3,.idx x3 i1]) .none) (.cmp .eq (.dget (.var 7) (hd x3)) (.dget (.var 7) (.idx x3 i1))))] (wI src ts t u none none none none none none) (σ.rs Rs).st=some (.ret (.bool true),env,(σ.rs Rs).st):=by
 obtain ⟨fl,ef,tf,mf,lf⟩:=zH (cf:=C (n+20)) (g:=(σ.rs Rs).st) (a0:=some (.val src)) (a1:=some (.val (.gl 0))) (a3:=some (.val (.lst [t,u]))) (a4:=some (.val (.gl 1))) (a5:=some (.val (.gl 2))) t33 t12
 have tfl:∀ x∈fl++[t,u],Tm 3 x:=λx hx=>(aU.mp hx).elim (tf x) ((ao.mpr ⟨ht,am.mpr hu⟩:∀ x∈[t,u],Tm 3 x) x)
 have ll:(fl++[t,u]).length<=6:=by rw [aB]; exact bB lf 2
 obtain ⟨W,ew,wh,mem⟩:=xC (g:=(σ.rs Rs).st) 3 (n:=n+16) (src:=.lst (fl++[t,u])) (by decide) (if_pos (aj ll (by decide))) tfl (aj ll (by decide))
 have Te:fD W:=⟨wh.nd,wh.tm tfl,wh.cl,aj (wh.le tfl) (aj (Nat.mul_le_mul_right 8 ll) (by decide))⟩
 have hi:AC W ts:=λp hp=>⟨mem _ (aP _ (mf p hp).1),mem _ (aP _ (mf p hp).2)⟩
 have mt:t∈W:=mem _ (aQ _ aa)
 have mu:u∈W:=mem _ (aQ _ (ai _ aa))
 have ne:ts≠[]:=by rcases t12 with ⟨w,rfl⟩ | ⟨w,w',rfl⟩ <;> exact List.cons_ne_nil _ _
 have l1000:ts.length<=1000:=by rcases t12 with ⟨w,rfl⟩ | ⟨w,w',rfl⟩ <;> exact aE rfl
 obtain ⟨L,el,lb,sn,cg,he⟩:=u9 (n:=n+19) (g:=(σ.rs Rs).st) (F:=nf R) Te gs hi ne l1000 D.told
 have sm:=D.same Te hi lb sn cg he
 have s6:=cV (W:=10000) (i:=6) (cf:=C (n+20)) (env:=wI src ts t u none none none none none none) (g:=(σ.rs Rs).st) (bO (cO (cF (op:=.add) (b:=x3) ef rfl (ja (a:=fl) (b:=[t,u]) (aj (bB lf 2) (by decide))))) ew)
 have s7:=cV (W:=10000) (i:=7) (cf:=C (n+20)) (env:=wI src ts t u (some (.val (.lst W))) none none none none none) (g:=(σ.rs Rs).st) (bO (es:=[x6,x2]) (ca rfl (cO rfl)) el)
 have si:∀ w,Tm 7 w->g6 R 1 3 w->C (n+20) .simpler [.gl 2,w] (σ.rs Rs).st=some (nf R w,(σ.rs Rs).st):=λw t b=>fH (n:=n+5) ok D.runs b t
 have c8:(eK (.tup [.var 18,.meth 3 .simpler x5 [.var 18]]) 18 x6) (C (n+20)) (wI src ts t u (some (.val (.lst W))) (some (.val (.dct W (W.map L)))) none none none none) (σ.rs Rs).st=some (.lst (W.map λw=>.tup [w,nf R w]),(σ.rs Rs).st):=
  cy rfl rfl (dL Te.sq) (fB (f:=λit=>fV _ _ (bZ (wI src ts t u (some (.val (.lst W))) (some (.val (.dct W (W.map L)))) none none none none) [18] it)) (q:=λk=>[k]) (φ:=λw=>.tup [w,nf R w]) λk hk=>eh (j6 (ca rfl (cO (ck rfl rfl rfl (si k ((Te.tm k hk).up (by decide)) (Te.tm k hk).bud)))) (aE rfl)))
 have al:qk W=true:=by
  have:W.all gc=true:=aG.mpr λv hv=>(Te.t8 v hv).term
  exact Bool.or_eq_true_iff.mpr (.inl this)
 have s8:=cV (W:=10000) (i:=8) (my c8 (by rw [aw]; exact aj Te.le (by decide)) (oW (M:=nf R) (ws:=W) (acc:=[]) Te.t8 Te.nd) al)
 obtain ⟨k1,F1,k2,F2,b11,ec⟩:=pZ (n:=n+20) (σ:=σ.rs Rs) (NF:=nf R) Te lb (λw hw=>(D.nf7 (Te.tm w hw)).1) sm (λw hw=>by
  obtain ⟨a,b,c⟩:=D.nf7 (Te.tm w hw)
  have:=si _ a b
  rwa [c] at this) (ys:=W) (k1:=[]) (k2:=[]) (F1:=id) (F2:=id) (a0:=some (.val src)) (a1:=some (.val (.gl 0))) (a2:=some (.val (.lst (ts.map dG)))) (a3:=some (.val (.lst [t,u]))) (a4:=some (.val (.gl 1))) (a11:=none)
  (λy h=>h) ⟨λv h=>(nomatch h),λw zz h=>(nomatch h)⟩ ⟨λv h=>(nomatch h),λw zz h=>(nomatch h)⟩ ((Nat.zero_add _).symm ▸ Te.le) ((Nat.zero_add _).symm ▸ Te.le)
 obtain ⟨r,er,ir⟩:=BE (n:=n+4) ok D.runs ht.bud hu.bud (ht.up (by decide)) (hu.up (by decide)) (D.nf7 ht).1 (D.nf7 hu).1
 obtain ⟨b,eb,zz,ib⟩:=lU (Te.tm _ (lb.mem t mt)) (Te.tm _ (lb.mem u mu)) ⟨by decide,by decide⟩
 have bd:decide (nf R t=nf R u)=b:=by
  have:=sm t mt u mu
  cases b with
  | true=>exact be (this.mp (ib.mp rfl))
  | false=>exact bq λh=>aF (ib.mpr (this.mpr h))
 rw [bd] at ir
 have gd:∀ {e:E}{x:V},x∈W->e (C (n+20)) (zS W L (nf R) k1 F1 k2 F2 (some (.val src)) (some (.val (.gl 0))) (some (.val (.lst (ts.map dG)))) (some (.val (.lst [t,u]))) (some (.val (.gl 1))) b11) (σ.rs Rs).st=some (x,(σ.rs Rs).st) ->
   (E.dget (.var 7) e) (C (n+20)) (zS W L (nf R) k1 F1 k2 F2 (some (.val src)) (some (.val (.gl 0))) (some (.val (.lst (ts.map dG)))) (some (.val (.lst [t,u]))) (some (.val (.gl 1))) b11) (σ.rs Rs).st=some (L x,(σ.rs Rs).st):=λ{e x} hx he=>lJ he rfl Te.t8 (Te.t8 x hx) hx
 refine ⟨_,bF s6 (bF s7 (bF s8 (bF rfl (bF (dj rfl rfl (dL Te.sq) ec) (bS (cY (cN (cN (ck rfl rfl (ca rfl (cO rfl)) er) rfl ir) (cN (gd mt rfl) (gd mu rfl) eb) ?_)))))))⟩
 show some (V.bool (b == b))=_
 rw [beq_self_eq_true]
theorem plain (xs:List Int) (hx:xs.length<=63):∃ g,kj 10000 tbl 60 .law [.lst (xs.map .int)] []=some (.bool true,g):=by
 obtain ⟨ys,P,e1⟩:=z5 (n:=58) (xs:=xs) (by lia)
 obtain ⟨ts,q1,e2,t33,t12,l1⟩:=zt (n:=55) (g:=[]) (p:=0) (a0:=some (.val (.lst (xs.map .int)))) (a2:=none) (a3:=none) (a4:=none) (a5:=none) P (by decide)
 obtain ⟨t,u,q2,e3,ht,hu,l2⟩:=xw (n:=55) (g:=[]) (p:=q1) (j:=17) (env:=yH (some (.val (.lst (xs.map .int)))) (some (.val (.gl 0))) (some (.val (.lst (ts.map dG)))) none none none none none none none none none) P (by lia) λk g=>rfl
 obtain ⟨pr,e4⟩:=zn (n:=55) (g:=[]) (p:=q2) (a0:=some (.val (.lst (xs.map .int)))) (a2:=some (.val (.lst (ts.map dG)))) (a3:=some (.val (.lst [t,u]))) (a4:=none) (a5:=none) P (by lia)
 have hp:gV 3 (eW ys (q2+4))=true:=by
  show (ie 3 (.lst (ys.map .int)) && (ie 3 (.int _) && true))=true
  have:dH 3 (ys.map V.int)=true:=eH λv hv=>by obtain ⟨i,zz,rfl⟩:=bx.mp hv; rfl
  exact aC.mpr ⟨this,rfl⟩
 obtain ⟨ws,e6,few,fine,ok,says⟩:=zo (n:=48) (p0:=eW ys (q2+4)) (rv:=pr.rv) hp rfl t33 t12
 obtain ⟨N,s',hN,ch,Rs,R,es,ok',D⟩:=yE (n:=16) (Q:=pr) (U:=[]) (T:=fR ts) (σ:=Sg.new (eW ys (q2+4)) pr.rv []) (ws:=ws) few fine ⟨ok,rfl,⟨rfl,List.nodup_nil,λv h=>(nomatch h),λv h=>(nomatch h),λi x y h=>(nomatch h)⟩,by decide⟩ (aE rfl) (by decide) λ{c} zz=>(says c).symm
 have run:=Bd ch (by lia)
 rw [es] at ok' run
 obtain ⟨env,et⟩:=zj (n:=39) (src:=.lst (xs.map .int)) ok' D t33 t12 ht hu
 exact ⟨_,b8 (bF (cV (bO rfl e1)) (bF (cV e2) (bF (cV e3) (bF (cV (l8 (cO e4) (zT (n:=58)))) (bF (cV (l8 (ca rfl (ca rfl (cO rfl))) e6)) (bF (cP (iI (pI (ck rfl rfl rfl run)) (cN (gF rfl rfl) rfl rfl)) rfl) et))))))⟩
end
section
open PySem PySem.Challenge
theorem eQ:rw_pq0127_01.Holds:=CG plain
end
end Mine
theorem PySem.Challenge.cw_pq0127_01_holds : PySem.Challenge.rw_pq0127_01.Holds :=
  Mine.eQ
