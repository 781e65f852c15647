import PyProof.Rows.All
import Wide.All
import OpenK.AllK
import Wide.FinOn
import KE.KTryMore
import PyProof.ExcBaseAll.Exception
import PySem.Challenge.RW_nn0153_01
set_option Elab.async false
set_option maxRecDepth 100000
set_option maxHeartbeats 4000000
set_option linter.unusedVariables false
set_option genSizeOf false
set_option genInjectivity false
set_option genCtorIdx false
set_option compiler.extract_closed false
set_option linter.defProp false
open PySem PySem.W PySem.Calls PyProof.Rows PySem.Spec
namespace Mine.Internal
theorem zB{a b:Bool}(h:(a&&b)=true):a=true/\b=true:=Bool.and_eq_true_iff.mp h
theorem zC{A:Type}{a b:A}{l:List A}(h:a∈b::l):a=b\/a∈l:=List.mem_cons.mp h
theorem zE{A:Type}{l:List A}{p:A->Bool}(h:l.all p=true):∀x,x∈l->p x=true:=List.all_eq_true.mp h
theorem zF{A B:Type}{f:A->B}{b:B}{l:List A}(h:b∈l.map f):∃a,a∈l/\f a=b:=List.mem_map.mp h
theorem zG{A:Type}{a:A}{s t:List A}(h:a∈s++t):a∈s\/a∈t:=List.mem_append.mp h
def aP:=@Nat.le_of_ble_eq_true
def aK:=@List.length_append
def aM:=@wpAny_bind
def b0:=@List.length_map
def dU:=@List.append_assoc
def bR:=@Nat.le_trans
def eP:=@of_decide_eq_true
def cc:=@Nat.le_refl
def e9:=@Option.some.inj
def gZ:=@List.lookup_cons
def cN:=@Nat.lt_of_le_of_lt
def aX:=@wpAny_pure
def bZ:=@List.map_append
def eh:=@List.mem_cons_of_mem
def au:=@if_pos
def dR:=@List.mem_cons_self
def cF:=@List.append_nil
def cO:=@decide_eq_false
def dn:=@Nat.le_add_right
def dq:=@List.not_mem_nil
def e7:=@List.mem_map_of_mem
def bq:=@Exists.imp
def gY:=@Heap.get?_push_of_some
def bh:=@eq_of_beq
def iD:=@List.mem_append_right
def dD:=@decide_eq_true
def iP:=@Nat.ne_of_beq_eq_false
def fj:=@List.length_cons
def aH:=@if_neg
def my:=@List.getElem?_append_right
def fm:=@List.length_nil
def km:=@Heap.get?_update_other
def dE:=@Prod.mk.inj
def eo:=@Nat.ne_of_lt
def ko:=@Nat.not_succ_le_zero
def fo:=@And.imp_right
def kq:=@Int.natCast_nonneg
def eO:=@Nat.le_succ
def fP:=@Nat.ne_of_gt
def k9:=@Nat.lt_of_lt_of_le
def jK:=@beq_self_eq_true
def lb:=@Nat.add_right_comm
def jt:=@beq_false_of_ne
def fQ:=@List.map_map
def iE:=@List.map_cons
def e8:=@wpAny_mono
def pH:=@Nat.le_of_succ_le_succ
def iQ:=@wpAny_holding
def iF:=@Nat.zero_add
def ci:=@Ne.symm
def iG:=@Nat.le_of_eq
def pc:=@Nat.add_le_add_left
def mz:=@Bool.and_eq_true
def mA:=@List.suffix_cons
def ju:=@Nat.le_of_lt
def jv:=@Nat.succ_pos
def uG:=@Nat.add_sub_cancel_left
def fp:=@look_both
def kr:=@List.cons.inj
def pd:=@Bool.not_eq_true'
def sx:=@List.mem_append_left
def iR:=@wpAny_of_eq
def Ak:=@List.eq_nil_of_length_eq_zero
def jL:=@Heap.lt_size
def mX:=@Value.ref.inj
def jw:=@Nat.zero_le
def uH:=@List.Perm.append_left
def uI:=@Heap.get?_update_self
def pI:=@wpAny_loadPart_at
def sy:=@of_decide_eq_false
def mB:=@wpAny_standAt
def pe:=@Nat.le_add_left
def sA:=@List.cons_append
def pJ:=@Nat.succ_le_succ
def pK:=@List.length_take
def uJ:=@List.dropWhile_cons
def sB:=@Bool.false_ne_true
def sC:=@List.perm_middle
def Al:=@List.filter_cons_of_pos
def pf:=@Nat.add_assoc
def uK:=@List.reverse_cons
def mY:=@Int.le_of_lt
def uL:=@List.map_congr_left
def sD:=@List.length_set
def Am:=@List.length_singleton
def wG:=@List.contains_cons
def uM:=@Nat.lt_succ_self
def pg:=@Nat.lt_trans
def sE:=@List.nodup_nil
def wH:=@List.size_toArray
def wI:=@wpAny_truthy_bool
def An:=@List.takeWhile_cons
def Ek:=@Heap.size_after_update
def pL:=@Nat.sub_self
def Hu:=@List.perm_append_comm_assoc
def sF:=@Except.ok.inj
def wJ:=@wpAny_execs_cons
def Hw:=@List.getElem?_append_left
def wK:=@Bool.eq_iff_iff
def Ao:=@List.nil_append
def k6:=@And.imp_left
def qB:=@List.nodup_append
def uz:=@List.mem_of_getElem?
def uA:=@Name_function_global
def k7:=@spliced_cons
def k8:=@Nat.add_comm
def qC:=@Nat.lt_succ_of_lt
def qD:=@Nat.le_succ_of_le
def yo:=@List.getElem?_eq_getElem
def uB:=@wpAny_isSubtype_exc
def qE:=@List.filter_cons
def yq:=@List.filter_cons_of_neg
def qF:=@List.suffix_refl
def uC:=@List.zip_cons_cons
def qG:=@codeAny_of_tree
def qH:=@Nat.min_eq_left
def gX:=@congrFun
def o8:=@Nat.lt_irrefl
def yr:=@builtinLookup_eq_fast
def ys:=@List.set_append_right
def yt:=@List.dropWhile_suffix
def yu:=@List.length_mergeSort
def uD:=@List.getElem?_map
def o9:=@List.map_nil
def pa:=@Int.le_trans
def uE:=@Nat.min_le_right
def uF:=@List.cons_ne_nil
def mO:=@beq_iff_eq
noncomputable def nB:Stmt->Str×Arguments×List Stmt×Scope| .FunctionDef n a b _ _ _ s _ _ _=>(n,a,b,s)| .ClassDef n _ _ b _ _ _ _ _ _ _=>(n,default,b,default)|_=>(default,default,[],default)
noncomputable def Gc (i j:Nat):Str×Arguments×List Stmt×Scope:=((PySem.Challenge.pw_nn0153_01.main.body[i]?).map nB).casesOn (nB (.Pass default)) fun s=>j.casesOn s fun j=>((s.2.2.1[j]?).map nB).getD (nB (.Pass default))
noncomputable def am (i j:Nat):List Stmt:=(Gc i j).2.2.1
noncomputable def eK (i j:Nat):Arguments:=(Gc i j).2.1
noncomputable def ae (i j:Nat):Scope:=(Gc i j).2.2.2
noncomputable def eY (i j:Nat):Str:=(Gc i j).1
noncomputable def dN (i j:Nat):Str:=j.casesOn (eY i 0) fun _=>eY i 0++"." ++eY i j
noncomputable def aL (s:Str):Nat:=s.cps.toList.foldr (fun c a=>c+256*a) 0
noncomputable def aO (s:Str):Bool:=s.cps.toList.all fun c=>decide (0<c)&&decide (c<256)
theorem nZ(hx:(decide (0<x)&&decide (x<256))=true):0<x/\x<256:=⟨eP (zB hx).1,eP (zB hx).2⟩
theorem m9(hx:x<256):(x+256*a) % 256=x/\(x+256*a) / 256=a:=⟨(Nat.add_mul_mod_self_left x 256 a).trans (Nat.mod_eq_of_lt hx),(Nat.add_mul_div_left x a (by decide)).trans (by rw[Nat.div_eq_of_lt hx,iF])⟩
theorem E5(hx:(decide (0<x)&&decide (x<256))=true)(c:(decide (0<y)&&decide (y<256))=true)(h:x+256*a=y+256*b):x=y/\a=b:=⟨(m9 (nZ hx).2).1.symm.trans ((congrArg (· % 256) h).trans (m9 (nZ c).2).1),(m9 (nZ hx).2).2.symm.trans ((congrArg (· / 256) h).trans (m9 (nZ c).2).2)⟩
theorem xd(hx:(decide (0<x)&&decide (x<256))=true)(h:x+256*a=0):False:=fP (k9 (nZ hx).1 (dn ..)) h
theorem BP (a:List Nat):∀b:List Nat,(a.all fun c=>decide (0<c)&&decide (c<256))=true->(b.all fun c=>decide (0<c)&&decide (c<256))=true->a.foldr (fun c a=>c+256*a) 0=b.foldr (fun c a=>c+256*a) 0->a=b:=by induction a with
 |nil=>
  intro b;cases b with|nil=>exact fun _ _ _=>rfl|cons y b=>exact fun _ hb h=>(xd (zB hb).1 h.symm).elim
 |cons x a g=>
  intro b;cases b with
  |nil=>exact fun e _ h=>(xd (zB e).1 h).elim|cons y b=>
   intro e hb h;have q:=E5 (zB e).1 (zB hb).1 h;rw[q.1,g b (zB e).2 (zB hb).2 q.2]
theorem fV(c:aO a=true)(hb:aO b=true)(h:aL a=aL b):a=b:=congrArg (fun l:List Nat=>(⟨⟨l⟩⟩:Str)) (BP _ _ c hb h)
set_option genCtorIdx true in
inductive BI where|len|min|max|abs|chr|isinstance|sorted
set_option genCtorIdx true in
inductive Ty where|int|bool|list|dict|bytes|range|tuple
set_option genCtorIdx true in
inductive Op where|add|sub|mul|mod|fdiv
set_option genCtorIdx true in
inductive Cm where|eq|ne|lt|le|gt|ge|is|isnot|isin|notin
mutual
inductive V where
 |none|bool (b:Bool)|int (i:Int)|str (s:List Nat)|bytes (b:List UInt8)|tup (vs:List V)|loc (l:Nat)
 |fn (i:Nat)|cls (i:Nat)|ty (t:Ty)|bi (b:BI)|exc (x:Int)|rng (a b c:Int)|lam (e:E) (cells:List (Nat×Nat))|xl (is:List Int)
inductive E where
 |val (v:V)|loc (n:Nat)|cell (n:Nat)
 |tup (es:List E)|list (es:List E)
 |bin (o:Op) (a b:E)|neg (a:E)
 |cmp (a:E) (o:Cm) (b:E)|cmp2 (a:E) (o:Cm) (b:E) (o':Cm) (c:E)
 |not (a:E)|and (es:List E)|or (es:List E)
 |ite (t a b:E)
 |attr (e:E) (f:Nat)
 |sub (e i:E)|slice (e:E) (lo hi:List E)
 |call (f:E) (es:List E)
 |meth (o:E) (f:Nat) (es:List E)
 |comp (fv:List Nat) (x:Nat) (it:E) (c:List E) (e:E)
 |dcomp (fv:List Nat) (x:Nat) (it:E) (c:List E) (a b:E)
 |dict (ks:List (List UInt8)) (es:List E)
 |sdict
 |lam (fv:List Nat) (e:E)
end
set_option genCtorIdx true in
inductive ah where
 |list (vs:List V)|dictS (kvs:List (List Nat×V))|dictB (kvs:List (List UInt8×V))|inst (c:Nat) (fs:List (Nat×V))|cell (v:Option V)
noncomputable def Ty.name (t:Ty):String:=t.casesOn "int" "bool" "list" "dict" "bytes" "range" "tuple"
noncomputable def BI.name (t:BI):String:=t.casesOn "len" "min" "max" "abs" "chr" "isinstance" "sorted"
noncomputable abbrev MS:=List ah
inductive iM where
 |list (a:Addr) (us:List Value) (n:Nat)
 |dict (a:Addr) (es:List DictEntry) (n:Nat)
 |inst (x cls dx:Addr) (es:List DictEntry) (n:Nat)
 |cell (a:Addr) (o:Obj)
noncomputable def iM.objs (r:iM):List (Addr×Obj):=r.casesOn (fun a e n=>[(a,listOf e.toArray n)]) (fun a b n=>[(a,dictOf b n)]) (fun x c d b n=>[(x,instObj c d),(d,dictOf b n)]) (fun a o=>[(a,o)])
noncomputable def iM.adr (r:iM):Addr:=r.casesOn (fun a _ _=>a) (fun a _ _=>a) (fun x _ _ _ _=>x) (fun a _=>a)
structure Sg where
 frs:List (Env×Addr×Obj)
 reps:List iM
 imm:List (Addr×Obj)
 its:List (Addr×Obj)
 tabs:List (Addr×Array Value)
noncomputable def Sg.rest (s:Sg):List (Addr×Obj):=s.reps.flatMap iM.objs++(s.imm++(s.its++s.tabs.map fun q=>(q.1,tabObj q.2)))
noncomputable def Sg.news (s:Sg):List (Addr×Obj):=s.frs.map (·.2)++s.rest
noncomputable def Sg.adr (s:Sg)(l:Nat):Option Addr:=(s.reps[l]?).map iM.adr
structure Cx where
 prog:Program
 w:World
 K:Frag
 G:Heap
 p:Program
 loose:List Str
 mean:ExcName->Option Value
 mg:Str->Option Value
 mb:Str->Option Value
 os:OsState
 fa:Nat->Nat->Addr
 ca:Nat->Addr
 cdv:Nat->Nat->Value
 lam:E->Expr->Scope->Prop
 tq:List (Addr×Str)
def Cx.has (C:Cx)(s:Sg)(a:Addr)(o:Obj):Prop:=C.G.get? a=some o\/(a,o)∈s.imm
noncomputable abbrev Bu:Nat:=14
def g7 (x:Int)(a:List DictEntry):Prop:=∃b c d e f g,a=[⟨b,.str (Str.ofString "what") c,d⟩,⟨e,.str (Str.ofString "at") f,.int x g⟩]
noncomputable abbrev aN (l:List Nat):Str:=⟨l.toArray⟩
def jO (C:Cx)(s:Sg)(b:List Value)(u:Value):Prop:=b.length<=1000000/\∃a n,u= .ref a/\C.has s a {cls:=.type "tuple",data:=.seq b.toArray n}
noncomputable def KJ:List Int->List Value->Prop| []=>fun a=>a=[]|i::is=>fun a=>∃t r,a= .int i t::r/\KJ is r
def Nm (C:Cx)(b:List Int)(u:Value):Prop:=∃a c,u= .ref a/\C.G.IsList a c.toArray/\KJ b c/\b.length<=1000000
def sP (C:Cx)(s:Sg)(a b c:Int)(u:Value):Prop:=∃t i e r,u= .ref r/\C.has s r {cls:=.type "range",dict:=none,data:=.fields #[.int a t,.int b i,.int c e],slots:=#[]}
structure HB (C:Cx)(σ:Sg)(x:Int)(e dx:Addr)(vs:Array Value)(sl:Array (Option Value))(es:List DictEntry)(n:Nat):Prop where
 h1:C.has σ e {cls:=.ref (C.ca Bu),dict:=some dx,data:=.fields vs,slots:=sl}
 h2:C.has σ dx (dictOf es n)
 h3:g7 x es
structure K6 (C:Cx)(σ:Sg)(m:E)(cells:List (Nat×Nat))(name qual:Str)(body:Expr)(scope:Scope)(clos:List (Str×Addr))(pm ctv:Value)(f c':Addr)(oc:Obj)(vs:Array Value)(t:Tok):Prop where
 h0:C.lam m body scope
 h1:(f,kla_obj name qual default body scope clos pm c' ctv)∈σ.imm
 h2:(c',oc)∈σ.imm
 h3:oc.data= .fields vs
 h4:vs[1]?=some (.str qual t)
 h5:∀x l,aO x=true->cells.lookup (aL x)=some l->∃a,clos.lookup x=some a/\σ.adr l=some a
mutual
noncomputable def VR (C:Cx)(w:Sg):V->Value->Prop
 | .none=>fun u=>u= .none
 | .bool b=>fun u=>u= .bool b
 | .int i=>fun u=>∃t,u= .int i t
 | .str s=>fun u=>∃t,u= .str (aN s) t/\s.length<=1000000
 | .bytes b=>fun u=>∃t,u= .bytes b.toArray t/\b.length<=1000000
 | .tup vs=>fun u=>∃us,jO C w us u/\VRs C w vs us
 | .loc l=>fun u=>∃a,u= .ref a/\w.adr l=some a
 | .fn i=>fun u=>u= .ref (C.fa i 0)
 | .cls i=>fun u=>u= .ref (C.ca i)
 | .ty t=>fun u=>u= .type t.name
 | .bi b=>fun u=>u= .builtin b.name
 | .rng a b c=>sP C w a b c
 | .exc x=>fun u=>∃e dx vs sl es n,u= .ref e/\HB C w x e dx vs sl es n
 | .lam m cells=>fun u=>∃name qual body scope clos pm ctv f c' oc vs t,u= .ref f/\K6 C w m cells name qual body scope clos pm ctv f c' oc vs t
 | .xl is=>fun u=>Nm C is u
noncomputable def VRs (C:Cx)(s:Sg):List V->List Value->Prop
 | []=>fun us=>us=[]
 |v::vs=>fun us=>∃u r,us=u::r/\VR C s v u/\VRs C s vs r
end
noncomputable def oa (f:Env×Addr×Obj):Env×Addr×Data:=(f.1,f.2.1,f.2.2.data)
structure Sg.le (σ τ:Sg):Prop where
 frs:σ.frs.map oa=τ.frs.map oa
 adr:∀l a,σ.adr l=some a->τ.adr l=some a
 imm:∀q∈σ.imm,q∈τ.imm
 its:σ.its=τ.its
theorem Sg.le.refl (s:Sg):s.le s:=⟨rfl,fun _ _ e=>e,fun _ e=>e,rfl⟩
theorem Sg.le.trans{s:Sg}(x:s.le t)(y:t.le υ):s.le υ:=⟨x.frs.trans y.frs,fun l a e=>y.adr l a (x.adr l a e),fun q e=>y.imm q (x.imm q e),x.its.trans y.its⟩
structure Sg.sub (σ τ:Sg):Prop where
 adr:∀l a,σ.adr l=some a->τ.adr l=some a
 imm:∀q∈σ.imm,q∈τ.imm
theorem Sg.le.sub{s:Sg}(l:s.le t):s.sub t:=⟨l.adr,l.imm⟩
theorem Sg.sub.trans{s:Sg}(x:s.sub t)(y:t.sub υ):s.sub υ:=⟨fun l a e=>y.adr l a (x.adr l a e),fun q e=>y.imm q (x.imm q e)⟩
theorem Cx.has.le{C:Cx}(h:C.has s a o)(l:s.sub t):C.has t a o:=h.imp id (l.imm _)
theorem jO.le(l:s.sub t)(h:jO C s d u):jO C t d u:=⟨h.1,h.2.imp fun a=>bq fun n=>fo (·.le l)⟩
theorem sP.le(l:s.sub w)(h:sP C s a b c u):sP C w a b c u:=h.imp fun t=>bq fun f=>bq fun e=>bq fun r=>fo (·.le l)
mutual
theorem VR.le {C:Cx}{w z:Sg}(l:w.sub z):∀(v:V) (u:Value),VR C w v u->VR C z v u
 | .none=>fun _=>id
 | .bool b=>fun _=>id
 | .int i=>fun _=>id
 | .str s=>fun _=>id
 | .bytes b=>fun _=>id
 | .tup vs=>fun _=>bq fun us=>And.imp (jO.le l) (VRs.le l vs us)
 | .loc n=>fun _=>bq fun a=>fo (l.adr _ _)
 | .fn i=>fun _=>id
 | .cls i=>fun _=>id
 | .ty n=>fun _=>id
 | .bi n=>fun _=>id
 | .rng a b c=>fun _=>sP.le l
 | .exc x=>fun _=>bq fun e=>bq fun dx=>bq fun vs=>bq fun sl=>bq fun es=>bq fun n=>fo fun h=>⟨h.h1.le l,h.h2.le l,h.h3⟩
 | .lam m cells=>fun _=>bq fun name=>bq fun qual=>bq fun body=>bq fun scope=>bq fun clos=>bq fun pm=>bq fun ctv=>bq fun f=>bq fun c'=>bq fun oc=>bq fun vs=>bq fun t=>
   fo fun h=>⟨h.h0,l.imm _ h.h1,l.imm _ h.h2,h.h3,h.h4,fun x n g e=>(h.h5 x n g e).imp fun a=>fo (l.adr _ _)⟩
 | .xl is=>fun _=>id
theorem VRs.le {C:Cx}{s t:Sg}(l:s.sub t):∀(vs:List V) (us:List Value),VRs C s vs us->VRs C t vs us
 | []=>fun _=>id
 |v::vs=>fun _=>bq fun u=>bq fun r=>fo (And.imp (VR.le l v u) (VRs.le l vs r))
end
theorem VR.sub (l:s.sub t)(h:VR C s v u):VR C t v u:=VR.le l v u h
theorem VRs.sub (l:s.sub t)(h:VRs C s v u):VRs C t v u:=VRs.le l v u h
theorem VR.int (i:Int)(t:Tok):VR C s (.int i) (.int i t):=⟨t,rfl⟩
theorem VR.none:VR C s .none .none:=rfl
theorem VR.bool (b:Bool):VR C s (.bool b) (.bool b):=rfl
theorem VR.str (s:List Nat)(t:Tok)(hl:s.length<=1000000):VR C u (.str s) (.str (aN s) t):=⟨t,rfl,hl⟩
theorem VR.bytes (b:List UInt8)(t:Tok)(hl:b.length<=1000000):VR C s (.bytes b) (.bytes b.toArray t):=⟨t,rfl,hl⟩
theorem VR.loc(h:s.adr l=some a):VR C s (.loc l) (.ref a):=⟨a,rfl,h⟩
theorem VRs.nil:VRs C s [] []:=rfl
theorem VRs.cons(h:VR C s v u)(r:VRs C s vs a):VRs C s (v::vs) (u::a):=⟨u,a,rfl,h,r⟩
theorem VRs.ind{P:List V->List Value->Prop}(d:P [] [])(f:∀v u a b,VR C s v u->VRs C s a b->P a b->P (v::a) (u::b)):∀(a:List V) (b:List Value),VRs C s a b->P a b| []=>fun b e=>(show b=[]from e)▸d|v::a=>fun b h=>h.elim fun u h=>h.elim fun r h=>h.1▸f v u a r h.2.1 h.2.2 (VRs.ind d f a r h.2.2)
inductive sH (C:Cx)(σ:Sg):List (Nat×V)->List DictEntry->Prop
 |nil:sH C σ [] []
 |cons {n:Str} {v:V} {e:DictEntry} {t:Tok} {fs es} (g:aO n=true) (h1:e.key= .str n t) (h2:e.hash=PyData.keyHash C.w.params n) (h3:VR C σ v e.val) (r:sH C σ fs es):sH C σ ((aL n,v)::fs) (e::es)
inductive mE (C:Cx)(σ:Sg){K:Type} [DecidableEq K](knd:KeyKind C.prog C.w K):List (K×V)->List DictEntry->Prop
 |nil:mE C σ knd [] []
 |cons {k:K} {v:V} {e:DictEntry} {fs es} (h1:knd.is k e.key=true) (h2:e.hash=knd.hash k) (h3:VR C σ v e.val) (r:mE C σ knd fs es):mE C σ knd ((k,v)::fs) (e::es)
theorem sH.le(l:s.sub t)(h:sH C s b c):sH C t b c:=by induction h with|nil=>exact .nil|cons g d e f _ i=>exact .cons g d e (f.sub l) i
theorem mE.le{C:Cx}{s t:Sg}{K:Type} [DecidableEq K]{a:KeyKind C.prog C.w K}(l:s.sub t){c d}(h:mE C s a c d):mE C t a c d:=by induction h with|nil=>exact .nil|cons e f g _ i=>exact .cons e f (g.sub l) i
noncomputable abbrev jq (a:List (List Nat×V)):List (Str×V):=a.map fun p=>(aN p.1,p.2)
structure AB (C:Cx)(σ:Sg)(kvs:List (List Nat×V))(es:List DictEntry):Prop where
 h:mE C σ (strKind C.prog C.w) (jq kvs) es
 nd:(kvs.map (·.1)).Nodup
 hl:kvs.length<=1000000
 hk:∀p∈kvs,p.1.length<=1000000
structure AA (C:Cx)(σ:Sg)(kvs:List (List UInt8×V))(es:List DictEntry):Prop where
 h:mE C σ (bytesKind C.prog C.w) kvs es
 nd:(kvs.map (·.1)).Nodup
 hl:kvs.length<=1000000
def Av (C:Cx)(s:Sg)(v:Option V)(o:Obj):Prop:=∃u,o.data= .cell u/\∀x,v=some x->∃y,u=some y/\VR C s x y
def iV (C:Cx)(s:Sg)(m:ah)(r:iM):Prop:=m.casesOn (fun e=>∃a f n,r= .list a f n/\VRs C s e f/\e.length<=1000000) (fun b=>∃a d,r= .dict a d b.length/\AB C s b d) (fun b=>∃a d n,r= .dict a d n/\AA C s b d) (fun c g=>∃x h d n,r= .inst x (C.ca c) h d n/\sH C s g d/\g.length<=100) (fun v=>∃a o,r= .cell a o/\Av C s v o)
theorem iV.le(l:s.sub t):iV C s m r->iV C t m r:=by cases m with|list g=>exact bq fun a=>bq fun i=>bq fun n=>fo (k6 (VRs.sub l))|dictS b=>exact bq fun a=>bq fun d=>fo fun h=>⟨h.h.le l,h.nd,h.hl,h.hk⟩|dictB b=>exact bq fun a=>bq fun d=>bq fun n=>fo fun h=>⟨h.h.le l,h.nd,h.hl⟩|inst c j=>exact bq fun x=>bq fun k=>bq fun d=>bq fun n=>fo (k6 (sH.le l))|cell v=>exact bq fun a=>bq fun o=>fo (bq fun u=>fo fun h x e=>(h x e).imp fun y=>fo (VR.sub l))
def wN (s:Sg)(q:Str)(d:Value):Prop:=∃a b c t,d= .ref a/\(a,b)∈s.imm/\b.data= .fields c/\c[1]?=some (.str q t)
structure pY (C:Cx)(σ:Sg):Prop where
 keys:σ.tabs.map (·.1)=C.tq.map (·.1)
 ok:∀P ps,(P,ps)∈σ.tabs->TriplesOk ps.toList
 q:∀P ps q,(P,ps)∈σ.tabs->C.tq.lookup P=some q->∀pos cv,codeAmong pos ps.toList=some cv->wN σ q cv
theorem wN.le(i:∀q∈s.imm,q∈u.imm)(h:wN s q c):wN u q c:=h.imp fun d=>bq fun e=>bq fun f=>bq fun t=>fo (k6 (i _))
theorem pY.of(h:pY C s)(e:t.tabs=s.tabs)(i:∀q∈s.imm,q∈t.imm):pY C t:=⟨e▸h.keys,fun P b m=>h.ok P b (e▸m),fun P b q m f c g j=>(h.q P b q (e▸m) f c g j).le i⟩
structure FI where
 scope:Scope
 qual:Str
 f:Option Addr
 cdv:Value
 cp:Bool
structure Fx where
 A:Around
 L:Addr
 cl:List (Str×Addr)
 fr:Option Addr
noncomputable def Fx.env (x:Fx)(d:FI):Env:={scope:=d.scope,locals:=x.L,globals:=mainGlobals,cells:=x.cl,qual:=d.qual,func:=d.f,code:=d.cdv,frame:=x.fr}
structure MF where
 vars:List (Nat×V)
 cells:List (Nat×Nat)
structure iN (k:Nat)(A:Around):Prop where
 dep:A.depth+4*k<960
 uni:A.units+32*k<9600
 hn:A.handled=none
structure Ok (C:Cx)(k:Nat)(fi:FI)(x:Fx)(mf:MF)(ms:MS)(σ:Sg)(m:Str->Option Value)(s:Shared):Prop where
 F:Fr C.G x.L s.heap m
 N:News C.G x.L s.heap σ.news
 nd:(σ.news.map (·.1)).Nodup
 st:x.A.frames=some ((if fi.cp then []else [x.env fi])++σ.frs.map (·.1))
 hfr:fi.cp=false->x.fr=some x.L
 kd:fi.scope.kind= .function
 fok:∀f∈σ.frs,f.1.scope.kind= .function/\f.1.frame=some f.2.1/\∃es n,f.2.2.data= .dict es n
 room:iN k x.A
 gens:s.gens=#[]
 os:s.os=C.os
 vars:∀n v,aO n=true->mf.vars.lookup (aL n)=some v->∃u,m n=some u/\VR C σ v u
 cells:∀n l,aO n=true->mf.cells.lookup (aL n)=some l->∃a,x.cl.lookup n=some a/\σ.adr l=some a
 len:σ.reps.length=ms.length
 reps:∀(l:Nat) (o:ah) (r:iM),(ms:List ah)[l]?=some o->σ.reps[l]?=some r->iV C σ o r
 tabs:pY C σ
theorem bS{P:Prop}(b:Bool)(t:b=true->P)(f:b=false->P):P:=by cases h:b with|true=>exact t h|false=>exact f h
theorem qI{P:Prop}(b:Bool)(f:b=false->P)(t:b=true->P):P:=bS b t f
theorem El{t:Type}{P:Prop}(o:Option t)(n:o=none->P)(s:∀a,o=some a->P):P:=by cases h:o with|none=>exact n h|some a=>exact s a h
theorem Nh{t:Type}{P:Prop}(o:List t)(n:o=[]->P)(s:∀a r,o=a::r->P):P:=by cases h:o with|nil=>exact n h|cons a r=>exact s a r h
theorem Qj{t u:Type}{P:Prop}(o:Except t u)(s:∀a,o=.ok a->P)(n:∀a,o=.error a->P):P:=by cases h:o with|ok a=>exact s a h|error a=>exact n a h
theorem yv{t u:Type}{P:Prop}(o:Except t u)(n:∀a,o=.error a->P)(s:∀a,o=.ok a->P):P:=Qj o s n
theorem KT{P:Prop}(h:false=true):P:=(sB h).elim
noncomputable abbrev hP:Program:=PySem.Challenge.pw_nn0153_01
noncomputable def hk (s:String):Str:=Str.ofString s
noncomputable def hI (i:Int)(t:Tok):Value:=.int i t
noncomputable def hA (s:String)(t:Tok):Value:=.str (Str.ofString s) t
noncomputable def hr (a:Addr):Value:=.ref a
noncomputable def hT (n:String):Value:=.type n
noncomputable def he (P:Params)(s:String)(t:Tok)(v:Value):DictEntry:=⟨PyData.keyHash P (Str.ofString s),.str (Str.ofString s) t,v⟩
noncomputable def hq (l:List Value)(n:Nat):Data:=.seq ⟨l⟩ n
noncomputable def hd (l:List DictEntry)(n:Nat):Data:=.dict ⟨l⟩ n
noncomputable def hf (l:List Value):Data:=.fields ⟨l⟩
noncomputable def hF (i j:Nat)(g:Addr)(cl:List (Str×Addr))(dv kv doc pm:Value)(an:Option Addr)(cd ct:Value)(bi:Addr):Data:=.func ⟨eY i j,dN i j,eK i j,.stmts (am i j),ae i j,g,cl,dv,kv,doc,pm,an,cd,ct,bi⟩
noncomputable def HZ {s:Type}(l:List s):List s×List s:=l.rec ([],[]) fun a _ ih=>(a::ih.2,ih.1)
noncomputable def Nq (n:Nat):List Obj->BT:=n.rec (fun _=>.nil) fun _ ih l=>l.casesOn .nil fun o r=>.node o (ih (HZ r).1) (ih (HZ r).2)
noncomputable def hS (L:List Obj)(n toks:Nat)(os:OsState):SharedT:=⟨Nq 12 L,n,{},⟨[]⟩,⟨0,0,0,0⟩,toks,os⟩
noncomputable def oj:Option Value:=some (.ref 6)
noncomputable def hB:List Stmt:=behindTheImports hP
noncomputable def vR:Env:={scope:=hP.main.scope,locals:=mainNs,globals:=mainNs,cells:=[],code:=.ref 13,frame:=some 14}
noncomputable def hC:Code:=.body hB vR
noncomputable def hQ:Pos:=⟨0,0,0,0⟩
noncomputable def Me (w:World)(os:OsState)(N:Nat)(L:List Obj)(n toks i k:Nat)(p:Pos):Option (Flow×SharedT×Code×Pos):=PySem.W.Fast.tw10110043849684766642 PySem.W.Fast.tw14364793385576792824 hP w 11 oj 1 N (hS L n toks os) ⟨(PySem.W.Fast.tw12563942051412417395 ((hB.drop i).take k) vR).wrap doneF deadEnd id id,hC,p,[topFrame hQ]⟩
noncomputable def Fj (os:OsState)(L:List Obj)(n toks:Nat)(p:Pos):Option (Flow×SharedT×Code×Pos):=some (.next,hS L n toks os,hC,p)
theorem Jn {w:World}{os:OsState}{N:Nat}{L L':List Obj}{n n' t t' i k:Nat}{p p':Pos}(h:Me w os N L n t i k p=Fj os L' n' t' p'):
  segRun treeTable hP w 11 oj 1 N (hS L n t os).abs (piecesOf ((hB.drop i).take k) vR hC p [topFrame hQ])=some (.next,(hS L' n' t' os).abs,hC,p'):=by
 unfold Me at h
 rw[<- PySem.W.Fast.te10110043849684766642,<- PySem.W.Fast.te14364793385576792824,<- PySem.W.Fast.te12563942051412417395]at h
 exact segRun_of h
noncomputable def O2 (l:List String):Nat->List Value:=l.rec (fun _=>[]) fun x _ ih t=>hA x t::ih (t+1)
noncomputable def tu (l:List Value):Obj:=⟨hT "tuple",none,hq l 0,⟨[]⟩⟩
noncomputable def hc (l:List Value):Obj:=⟨hT "code",none,hf l,⟨[]⟩⟩
noncomputable def di (l:List DictEntry)(n:Nat):Obj:=⟨hT "dict",none,hd l n,⟨[]⟩⟩
noncomputable def hz:Obj:=⟨.none,none,hf [],⟨[]⟩⟩
noncomputable def hu (t:Value)(i j a:Nat)(dv mo cd:Value):Obj:=⟨t,none,hF i j a [] dv .none .none mo none cd .none 0,⟨[]⟩⟩
noncomputable def dg (i j a t ln n fl:Nat)(vs cs:List String)(dv mo:Value):List Obj:=[tu [],hz,tu (O2 vs (t+3)),tu (O2 cs (t+3+vs.length)),hu .none i j 0 .none .none .none,
 hc [.str (eY i j) t,.str (dN i j) (t+1),hA "/claim/cut.py" (t+2),hI ln 0,hI n 0,hI 0 0,hI 0 0,hI fl 0,hr a,.bool true,hI 181 0,hr (a+1),.none,hr (a+2),hr (a+3),hr (a+4),hI (t+3+vs.length+cs.length:Nat) 0,hI ln 0,hA "/claim/cut.py" (t+4+vs.length+cs.length)],hu (hT "function") i j 3 dv mo (hr (a+5))]
noncomputable def n0:Value:=hA "__main__" 164
noncomputable def n1:Value:=hA "paperhold.cursor" 194
noncomputable def n2:Value:=hA "paperhold.errors" 376
noncomputable def n3:Value:=hA "paperhold.decimals" 434
noncomputable def n4:Value:=hA "paperhold.lexer" 579
noncomputable def n5:Value:=hA "paperhold.objects" 700
noncomputable def n6:Value:=hA "paperhold.reader" 870
noncomputable def n7:Value:=hA "law_nn0153_01" 1005
noncomputable def Jk (P:Params):List Obj:=[boot_o_0 P,boot_o_1 P,boot_o_2 P,boot_o_3 P,boot_o_4 P,boot_o_5 P,boot_o_6 P,boot_o_7 P,boot_o_8 P,boot_o_9 P,boot_o_10 P,tu [],hz,hc [hA "<module>" 182,hA "<module>" 183,hA "/claim/cut.py" 184,hI 1 0,hI 0 0,hI 0 0,hI 0 0,hI 0 0,hr 11,.bool false,hI 181 0,hr 12,.none,.none,.none,.none,hI 185 0,hI 1 0,hA "/claim/cut.py" 186],⟨hT "frame",none,.plain,⟨[some (hr 13),some (hr 3),some (hr 3),none,some n0,none,some (hr 0)]⟩⟩]
noncomputable def Ib (P:Params):=[he P "__doc__" 166 .none,he P "__package__" 167 .none,he P "__loader__" 168 (.builtin "__main__.__loader__#opaque"),he P "__spec__" 169 .none,he P "__annotations__" 170 (hr 6),he P "__builtins__" 171 (hr 4),he P "__file__" 173 (hA "/claim/cut.py" 172),he P "__cached__" 174 .none,he P "_wall" 193 (hr 21),he P "WHITE" 202 (hr 22),he P "DELIMITERS" 213 (hr 23),he P "LINE_FEED" 215 (hI 10 214),he P "RETURN" 217 (hI 13 216),he P "COMMENT" 219 (hI 37 218),he P "MOST_FIGURES_cursor" 221 (hI 20 220),he P "is_white" 228 (hr 30),he P "is_regular" 235 (hr 37),he P "is_figure" 242 (hr 44),he P "Cursor" 375 (hr 147),he P "PaperError" 417 (hr 176),he P "SyntaxFault" 433 (hr 189),he P "MOST_FIGURES_decimals" 437 (hI 40 436),he P "PLUS" 439 (hI 43 438),he P "MINUS" 441 (hI 45 440),he P "POINT" 443 (hI 46 442),he P "ZERO" 445 (hI 48 444)]
noncomputable def Da (P:Params):=[hI 0 0,hr 20,hI 11 0,hI 0 0,hr 29,hI 13 0,hI 0 0,hr 36,hI 15 0,hI 0 0,hr 43,hI 17 0,hI 0 0,hr 50,hI 94 0,hI 0 0,hr 157,hI 103 0,hI 0 0,hr 185]
noncomputable def N4 (P:Params):List Obj:=(List.set (List.set (List.set (Jk P) 2 ⟨.none,none,hd [he P "type.__subclasses__.Exception.0" 414 (hI 176 0),he P "type.__subclasses__.Exception.n" 415 (hI 1 0)] 2,⟨[]⟩⟩) 3 ⟨hT "dict",none,hd (he P "__name__" 165 n3::Ib P) 27,⟨[]⟩⟩) 12 ⟨.none,none,hf ((hI 1 0)::Da P),⟨[]⟩⟩)++dg 0 0 15 187 1 1 3 ["k"] [] .none n0++[tu [hI 0 196,hI 9 197,hI 10 198,hI 12 199,hI 13 200,hI 32 201],tu [hI 40 203,hI 41 204,hI 60 205,hI 62 206,hI 91 207,hI 93 208,hI 123 209,hI 125 210,hI 47 211,hI 37 212]]++dg 8 0 24 222 11 1 3 ["code"] [] .none n1++dg 9 0 31 229 13 1 3 ["code"] [] .none n1++dg 10 0 38 236 15 1 3 ["code"] [] .none n1++[tu [],⟨hT "builtin_function_or_method",none,hf [.builtin "type.__prepare__",hT "type"],⟨[]⟩⟩,di [he P "__module__" 250 n1,he P "__qualname__" 252 (hA "Cursor" 251),he P "__firstlineno__" 254 (hI 17 253),he P "__init__" 267 (hr 59),he P "is_done" 274 (hr 66),he P "peek" 284 (hr 74),he P "take" 292 (hr 81),he P "starts" 300 (hr 88),he P "skip" 308 (hr 95),he P "skip_white" 316 (hr 102),he P "take_regular" 324 (hr 109),he P "skip_line_end" 331 (hr 116),he P "take_line" 338 (hr 123),he P "number" 347 (hr 130),he P "find" 356 (hr 137),he P "find_last" 364 (hr 144),he P "__static_attributes__" 368 (hr 145)] 17,tu [],⟨.none,none,hf [hI 19 0,hI 4 0,hr 58,hI 24 0,hI 4 0,hr 65,hI 27 0,hI 4 0,hr 73,hI 31 0,hI 4 0,hr 80,hI 38 0,hI 4 0,hr 87,hI 41 0,hI 4 0,hr 94,hI 47 0,hI 4 0,hr 101,hI 58 0,hI 4 0,hr 108,hI 64 0,hI 4 0,hr 115,hI 75 0,hI 4 0,hr 122,hI 78 0,hI 4 0,hr 129,hI 88 0,hI 4 0,hr 136,hI 91 0,hI 4 0,hr 143],⟨[]⟩⟩,hc [hA "Cursor" 245,hA "Cursor" 246,hA "/claim/cut.py" 247,hI 17 0,hI 0 0,hI 0 0,hI 0 0,hI 0 0,hr 48,.bool false,hI 181 0,hr 49,.none,.none,.none,.none,hI 248 0,hI 17 0,hA "/claim/cut.py" 249],⟨hT "frame",none,.plain,⟨[some (hr 50),some (hr 3),some (hr 47),none,some n1,none,some (hr 0)]⟩⟩,tu [hI 0 255,hI (-1) 257]]++dg 11 1 53 258 19 4 3 ["self","data","at","end"] [] (hr 52) n1++dg 11 2 60 268 24 1 3 ["self"] [] .none n1++[tu [hI 0 275]]++dg 11 3 68 276 27 2 3 ["self","ahead","spot"] [] (hr 67) n1++dg 11 4 75 285 31 1 3 ["self","code"] [] .none n1++dg 11 5 82 293 38 2 3 ["self","word"] [] .none n1++dg 11 6 89 301 41 2 3 ["self","word"] [] .none n1++dg 11 7 96 309 47 1 3 ["self","code"] [] .none n1++dg 11 8 103 317 58 1 3 ["self","first"] [] .none n1++dg 11 9 110 325 64 1 3 ["self"] [] .none n1++dg 11 10 117 332 75 1 3 ["self"] [] .none n1++dg 11 11 124 339 78 1 3 ["self","first","number"] [] .none n1++dg 11 12 131 348 88 3 3 ["self","word","first"] [] .none n1++dg 11 13 138 357 91 2 3 ["self","word"] [] .none n1++[tu [hA "at" 365,hA "data" 366,hA "end" 367],di [he P "__module__" 250 n1,he P "__firstlineno__" 254 (hI 17 253),he P "__init__" 267 (hr 59),he P "is_done" 274 (hr 66),he P "peek" 284 (hr 74),he P "take" 292 (hr 81),he P "starts" 300 (hr 88),he P "skip" 308 (hr 95),he P "skip_white" 316 (hr 102),he P "take_regular" 324 (hr 109),he P "skip_line_end" 331 (hr 116),he P "take_line" 338 (hr 123),he P "number" 347 (hr 130),he P "find" 356 (hr 137),he P "find_last" 364 (hr 144),he P "__static_attributes__" 368 (hr 145),he P "__dict__" 370 (hr 148),he P "__weakref__" 372 (hr 149),he P "__doc__" 373 .none] 4,⟨hT "type",none,.cls ⟨hk "Cursor",[hT "object"],[hr 147,hT "object"],146,hk "Cursor",true,[],[],false,none,false⟩,⟨[none,none,some (hA "Cursor" 243),some (hA "Cursor" 251),some (.builtin "object.__new__"),some (.bool true)]⟩⟩,⟨hT "getset_descriptor",none,hf [hA "__dict__" 369,hr 147,.builtin "function.__dict__",.builtin "function.__dict__#set"],⟨[]⟩⟩,⟨hT "getset_descriptor",none,hf [hA "__weakref__" 371,hr 147,.builtin "ExceptionGroup.__weakref__",.none],⟨[]⟩⟩,⟨hT "super",none,hf [hr 147,hr 147,hr 147],⟨[]⟩⟩,⟨hT "builtin_function_or_method",none,hf [.builtin "object.__init_subclass__",hr 147],⟨[]⟩⟩,tu [hT "Exception"],⟨hT "builtin_function_or_method",none,hf [.builtin "type.__prepare__",hT "type"],⟨[]⟩⟩,di [he P "__module__" 385 n2,he P "__qualname__" 387 (hA "PaperError" 386),he P "__firstlineno__" 389 (hI 94 388),he P "__init__" 400 (hr 166),he P "told" 407 (hr 173),he P "__static_attributes__" 410 (hr 174)] 6,tu [],⟨.none,none,hf [hI 96 0,hI 4 0,hr 165,hI 101 0,hI 4 0,hr 172],⟨[]⟩⟩,hc [hA "PaperError" 380,hA "PaperError" 381,hA "/claim/cut.py" 382,hI 94 0,hI 0 0,hI 0 0,hI 0 0,hI 0 0,hr 155,.bool false,hI 181 0,hr 156,.none,.none,.none,.none,hI 383 0,hI 94 0,hA "/claim/cut.py" 384],⟨hT "frame",none,.plain,⟨[some (hr 157),some (hr 3),some (hr 154),none,some n2,none,some (hr 0)]⟩⟩,tu [hI (-1) 391]]++dg 13 1 160 392 96 3 3 ["self","what","at"] [] (hr 159) n2++dg 13 2 167 401 101 1 3 ["self"] [] .none n2++[tu [hA "at" 408,hA "what" 409],di [he P "__module__" 385 n2,he P "__firstlineno__" 389 (hI 94 388),he P "__init__" 400 (hr 166),he P "told" 407 (hr 173),he P "__static_attributes__" 410 (hr 174),he P "__weakref__" 412 (hr 177),he P "__doc__" 413 .none] 3,⟨hT "type",none,.cls ⟨hk "PaperError",[hT "Exception"],[hr 176,hT "Exception",hT "BaseException",hT "object"],175,hk "PaperError",true,[],[hr 189],false,none,false⟩,⟨[some (hr 152),none,some (hA "PaperError" 378),some (hA "PaperError" 386),some (.builtin "Exception.__new__"),some (.bool true)]⟩⟩,⟨hT "getset_descriptor",none,hf [hA "__weakref__" 411,hr 176,.builtin "ExceptionGroup.__weakref__",.none],⟨[]⟩⟩,⟨hT "super",none,hf [hr 176,hr 176,hr 176],⟨[]⟩⟩,⟨hT "builtin_function_or_method",none,hf [.builtin "object.__init_subclass__",hr 176],⟨[]⟩⟩,tu [hr 176],⟨hT "builtin_function_or_method",none,hf [.builtin "type.__prepare__",hT "type"],⟨[]⟩⟩,di [he P "__module__" 425 n2,he P "__qualname__" 427 (hA "SyntaxFault" 426),he P "__firstlineno__" 429 (hI 103 428),he P "__static_attributes__" 430 (hr 187)] 4,tu [],hz,hc [hA "SyntaxFault" 420,hA "SyntaxFault" 421,hA "/claim/cut.py" 422,hI 103 0,hI 0 0,hI 0 0,hI 0 0,hI 0 0,hr 183,.bool false,hI 181 0,hr 184,.none,.none,.none,.none,hI 423 0,hI 103 0,hA "/claim/cut.py" 424],⟨hT "frame",none,.plain,⟨[some (hr 185),some (hr 3),some (hr 182),none,some n2,none,some (hr 0)]⟩⟩,tu [],di [he P "__module__" 425 n2,he P "__firstlineno__" 429 (hI 103 428),he P "__static_attributes__" 430 (hr 187),he P "__doc__" 431 .none] 2,⟨hT "type",none,.cls ⟨hk "SyntaxFault",[hr 176],[hr 189,hr 176,hT "Exception",hT "BaseException",hT "object"],188,hk "SyntaxFault",true,[],[],false,none,false⟩,⟨[some (hr 180),none,some (hA "SyntaxFault" 418),some (hA "SyntaxFault" 426),some (.builtin "Exception.__new__"),some (.bool true)]⟩⟩,⟨hT "super",none,hf [hr 189,hr 189,hr 189],⟨[]⟩⟩,⟨hT "builtin_function_or_method",none,hf [.builtin "object.__init_subclass__",hr 189],⟨[]⟩⟩]
noncomputable def Ic (P:Params):=Ib P++[he P "Decimal" 559 (hr 285),he P "sign_text" 566 (hr 296),he P "read_decimal" 578 (hr 303),he P "PAREN" 582 (hI 40 581),he P "CLOSE_PAREN" 584 (hI 41 583),he P "LESS" 586 (hI 60 585),he P "GREATER" 588 (hI 62 587),he P "SLASH" 590 (hI 47 589),he P "BACKSLASH" 592 (hI 92 591),he P "HASH" 594 (hI 35 593),he P "SIGNS" 599 (hr 304),he P "hex_worth" 606 (hr 311),he P "plain_escape" 613 (hr 318),he P "name_text" 628 (hr 326),he P "octal" 638 (hr 333),he P "escaped_codes" 646 (hr 340),he P "literal" 657 (hr 347),he P "hex_string" 663 (hr 352),he P "run_token" 673 (hr 359),he P "delimited_token" 682 (hr 366),he P "next_token" 691 (hr 373),he P "is_sign" 699 (hr 380),he P "Name" 730 (hr 397),he P "String" 761 (hr 419),he P "Stream" 792 (hr 440)]
noncomputable def Db (P:Params):=Da P++[hI 111 0,hI 0 0,hr 197,hI 156 0,hI 0 0,hr 295,hI 158 0,hI 0 0,hr 302,hI 189 0,hI 0 0,hr 310,hI 197 0,hI 0 0,hr 317,hI 209 0,hI 0 0,hr 325,hI 225 0,hI 0 0,hr 332,hI 232 0,hI 0 0,hr 339,hI 241 0,hI 0 0,hr 346,hI 261 0,hI 0 0,hr 351,hI 276 0,hI 0 0,hr 358,hI 284 0,hI 0 0,hr 365,hI 302 0,hI 0 0,hr 372,hI 311 0,hI 0 0,hr 379,hI 314 0,hI 0 0,hr 386,hI 318 0,hI 0 0,hr 407,hI 323 0,hI 0 0,hr 429]
noncomputable def L8 (P:Params):List Obj:=(List.set (List.set (N4 P) 3 ⟨hT "dict",none,hd (he P "__name__" 165 n5::Ic P) 52,⟨[]⟩⟩) 12 ⟨.none,none,hf ((hI 1 0)::Db P),⟨[]⟩⟩)++[tu [],⟨hT "builtin_function_or_method",none,hf [.builtin "type.__prepare__",hT "type"],⟨[]⟩⟩,di [he P "__module__" 453 n3,he P "__qualname__" 455 (hA "Decimal" 454),he P "__firstlineno__" 457 (hI 111 456),he P "__init__" 466 (hr 205),he P "plus" 474 (hr 212),he P "minus" 482 (hr 219),he P "times" 490 (hr 226),he P "negated" 497 (hr 233),he P "compared" 505 (hr 240),he P "is_whole" 512 (hr 247),he P "floor" 519 (hr 254),he P "rounded" 527 (hr 261),he P "told" 534 (hr 268),he P "text" 542 (hr 275),he P "least_text" 549 (hr 282),he P "__static_attributes__" 552 (hr 283)] 16,tu [],⟨.none,none,hf [hI 113 0,hI 4 0,hr 204,hI 120 0,hI 4 0,hr 211,hI 123 0,hI 4 0,hr 218,hI 126 0,hI 4 0,hr 225,hI 129 0,hI 4 0,hr 232,hI 132 0,hI 4 0,hr 239,hI 135 0,hI 4 0,hr 246,hI 138 0,hI 4 0,hr 253,hI 141 0,hI 4 0,hr 260,hI 144 0,hI 4 0,hr 267,hI 147 0,hI 4 0,hr 274,hI 154 0,hI 4 0,hr 281],⟨[]⟩⟩,hc [hA "Decimal" 448,hA "Decimal" 449,hA "/claim/cut.py" 450,hI 111 0,hI 0 0,hI 0 0,hI 0 0,hI 0 0,hr 195,.bool false,hI 181 0,hr 196,.none,.none,.none,.none,hI 451 0,hI 111 0,hA "/claim/cut.py" 452],⟨hT "frame",none,.plain,⟨[some (hr 197),some (hr 3),some (hr 194),none,some n3,none,some (hr 0)]⟩⟩]++dg 21 1 199 458 113 3 3 ["self","top","places"] [] .none n3++dg 21 2 206 467 120 2 3 ["self","other"] [] .none n3++dg 21 3 213 475 123 2 3 ["self","other"] [] .none n3++dg 21 4 220 483 126 2 3 ["self","other"] [] .none n3++dg 21 5 227 491 129 1 3 ["self"] [] .none n3++dg 21 6 234 498 132 2 3 ["self","other"] [] .none n3++dg 21 7 241 506 135 1 3 ["self"] [] .none n3++dg 21 8 248 513 138 1 3 ["self"] [] .none n3++dg 21 9 255 520 141 2 3 ["self","places"] [] .none n3++dg 21 10 262 528 144 1 3 ["self"] [] .none n3++dg 21 11 269 535 147 1 3 ["self","numerals"] [] .none n3++dg 21 12 276 543 154 1 3 ["self"] [] .none n3++[tu [hA "places" 550,hA "top" 551],di [he P "__module__" 453 n3,he P "__firstlineno__" 457 (hI 111 456),he P "__init__" 466 (hr 205),he P "plus" 474 (hr 212),he P "minus" 482 (hr 219),he P "times" 490 (hr 226),he P "negated" 497 (hr 233),he P "compared" 505 (hr 240),he P "is_whole" 512 (hr 247),he P "floor" 519 (hr 254),he P "rounded" 527 (hr 261),he P "told" 534 (hr 268),he P "text" 542 (hr 275),he P "least_text" 549 (hr 282),he P "__static_attributes__" 552 (hr 283),he P "__dict__" 554 (hr 286),he P "__weakref__" 556 (hr 287),he P "__doc__" 557 .none] 4,⟨hT "type",none,.cls ⟨hk "Decimal",[hT "object"],[hr 285,hT "object"],284,hk "Decimal",true,[],[],false,none,false⟩,⟨[none,none,some (hA "Decimal" 446),some (hA "Decimal" 454),some (.builtin "object.__new__"),some (.bool true)]⟩⟩,⟨hT "getset_descriptor",none,hf [hA "__dict__" 553,hr 285,.builtin "function.__dict__",.builtin "function.__dict__#set"],⟨[]⟩⟩,⟨hT "getset_descriptor",none,hf [hA "__weakref__" 555,hr 285,.builtin "ExceptionGroup.__weakref__",.none],⟨[]⟩⟩,⟨hT "super",none,hf [hr 285,hr 285,hr 285],⟨[]⟩⟩,⟨hT "builtin_function_or_method",none,hf [.builtin "object.__init_subclass__",hr 285],⟨[]⟩⟩]++dg 22 0 290 560 156 1 3 ["number"] [] .none n3++dg 23 0 297 567 158 1 3 ["octets","begun","top","numerals","places","code"] [] .none n3++[tu [hI 91 595,hI 93 596,hI 123 597,hI 125 598]]++dg 33 0 305 600 189 1 3 ["code"] [] .none n4++dg 34 0 312 607 197 1 3 ["code"] [] .none n4++[tu [hI (-1) 615]]++dg 35 0 320 616 209 2 3 ["octets","at","signs","place","code","high","low"] [] (hr 319) n4++dg 36 0 327 629 225 2 3 ["cursor","first","code","taken"] [] .none n4++dg 37 0 334 639 232 1 3 ["cursor","code"] [] .none n4++dg 38 0 341 647 241 1 3 ["cursor","opening","codes","depth","code"] [] .none n4++[tu [],hz,hu .none 39 0 0 .none .none .none,hc [hA "hex_string" 658,hA "hex_string" 659,hA "/claim/cut.py" 660,hI 261 0,hI 1 0,hI 0 0,hI 0 0,hI 3 0,hr 348,.bool true,hI 181 0,hr 349,.none,.none,.none,hr 350,hI 661 0,hI 261 0,hA "/claim/cut.py" 662],hu (hT "function") 39 0 3 .none n4 (hr 351)]++dg 40 0 353 664 276 2 3 ["cursor","at","run","number"] [] .none n4++dg 41 0 360 674 284 3 3 ["cursor","code","at"] [] .none n4++dg 42 0 367 683 302 1 3 ["cursor","at","code"] [] .none n4++dg 43 0 374 692 311 2 3 ["token","sign"] [] .none n4++[tu [],⟨hT "builtin_function_or_method",none,hf [.builtin "type.__prepare__",hT "type"],⟨[]⟩⟩,di [he P "__module__" 709 n5,he P "__qualname__" 711 (hA "Name" 710),he P "__firstlineno__" 713 (hI 314 712),he P "__init__" 721 (hr 394),he P "__static_attributes__" 723 (hr 395)] 5,tu [],⟨.none,none,hf [hI 316 0,hI 4 0,hr 393],⟨[]⟩⟩,hc [hA "Name" 704,hA "Name" 705,hA "/claim/cut.py" 706,hI 314 0,hI 0 0,hI 0 0,hI 0 0,hI 0 0,hr 384,.bool false,hI 181 0,hr 385,.none,.none,.none,.none,hI 707 0,hI 314 0,hA "/claim/cut.py" 708],⟨hT "frame",none,.plain,⟨[some (hr 386),some (hr 3),some (hr 383),none,some n5,none,some (hr 0)]⟩⟩]++dg 45 1 388 714 316 2 3 ["self","text"] [] .none n5++[tu [hA "text" 722],di [he P "__module__" 709 n5,he P "__firstlineno__" 713 (hI 314 712),he P "__init__" 721 (hr 394),he P "__static_attributes__" 723 (hr 395),he P "__dict__" 725 (hr 398),he P "__weakref__" 727 (hr 399),he P "__doc__" 728 .none] 4,⟨hT "type",none,.cls ⟨hk "Name",[hT "object"],[hr 397,hT "object"],396,hk "Name",true,[],[],false,none,false⟩,⟨[none,none,some (hA "Name" 702),some (hA "Name" 710),some (.builtin "object.__new__"),some (.bool true)]⟩⟩,⟨hT "getset_descriptor",none,hf [hA "__dict__" 724,hr 397,.builtin "function.__dict__",.builtin "function.__dict__#set"],⟨[]⟩⟩,⟨hT "getset_descriptor",none,hf [hA "__weakref__" 726,hr 397,.builtin "ExceptionGroup.__weakref__",.none],⟨[]⟩⟩,⟨hT "super",none,hf [hr 397,hr 397,hr 397],⟨[]⟩⟩,⟨hT "builtin_function_or_method",none,hf [.builtin "object.__init_subclass__",hr 397],⟨[]⟩⟩,tu [],⟨hT "builtin_function_or_method",none,hf [.builtin "type.__prepare__",hT "type"],⟨[]⟩⟩,di [he P "__module__" 738 n5,he P "__qualname__" 740 (hA "String" 739),he P "__firstlineno__" 742 (hI 318 741),he P "__init__" 751 (hr 416),he P "__static_attributes__" 754 (hr 417)] 5,tu [],⟨.none,none,hf [hI 320 0,hI 4 0,hr 415],⟨[]⟩⟩,hc [hA "String" 733,hA "String" 734,hA "/claim/cut.py" 735,hI 318 0,hI 0 0,hI 0 0,hI 0 0,hI 0 0,hr 405,.bool false,hI 181 0,hr 406,.none,.none,.none,.none,hI 736 0,hI 318 0,hA "/claim/cut.py" 737],⟨hT "frame",none,.plain,⟨[some (hr 407),some (hr 3),some (hr 404),none,some n5,none,some (hr 0)]⟩⟩,tu [.bool false]]++dg 46 1 410 743 320 3 3 ["self","octets","is_hex"] [] (hr 409) n5++[tu [hA "is_hex" 752,hA "octets" 753],di [he P "__module__" 738 n5,he P "__firstlineno__" 742 (hI 318 741),he P "__init__" 751 (hr 416),he P "__static_attributes__" 754 (hr 417),he P "__dict__" 756 (hr 420),he P "__weakref__" 758 (hr 421),he P "__doc__" 759 .none] 4,⟨hT "type",none,.cls ⟨hk "String",[hT "object"],[hr 419,hT "object"],418,hk "String",true,[],[],false,none,false⟩,⟨[none,none,some (hA "String" 731),some (hA "String" 739),some (.builtin "object.__new__"),some (.bool true)]⟩⟩,⟨hT "getset_descriptor",none,hf [hA "__dict__" 755,hr 419,.builtin "function.__dict__",.builtin "function.__dict__#set"],⟨[]⟩⟩,⟨hT "getset_descriptor",none,hf [hA "__weakref__" 757,hr 419,.builtin "ExceptionGroup.__weakref__",.none],⟨[]⟩⟩,⟨hT "super",none,hf [hr 419,hr 419,hr 419],⟨[]⟩⟩,⟨hT "builtin_function_or_method",none,hf [.builtin "object.__init_subclass__",hr 419],⟨[]⟩⟩,tu [],⟨hT "builtin_function_or_method",none,hf [.builtin "type.__prepare__",hT "type"],⟨[]⟩⟩,di [he P "__module__" 769 n5,he P "__qualname__" 771 (hA "Stream" 770),he P "__firstlineno__" 773 (hI 323 772),he P "__init__" 782 (hr 437),he P "__static_attributes__" 785 (hr 438)] 5,tu [],⟨.none,none,hf [hI 325 0,hI 4 0,hr 436],⟨[]⟩⟩,hc [hA "Stream" 764,hA "Stream" 765,hA "/claim/cut.py" 766,hI 323 0,hI 0 0,hI 0 0,hI 0 0,hI 0 0,hr 427,.bool false,hI 181 0,hr 428,.none,.none,.none,.none,hI 767 0,hI 323 0,hA "/claim/cut.py" 768],⟨hT "frame",none,.plain,⟨[some (hr 429),some (hr 3),some (hr 426),none,some n5,none,some (hr 0)]⟩⟩]++dg 47 1 431 774 325 3 3 ["self","head","octets"] [] .none n5++[tu [hA "head" 783,hA "octets" 784],di [he P "__module__" 769 n5,he P "__firstlineno__" 773 (hI 323 772),he P "__init__" 782 (hr 437),he P "__static_attributes__" 785 (hr 438),he P "__dict__" 787 (hr 441),he P "__weakref__" 789 (hr 442),he P "__doc__" 790 .none] 4,⟨hT "type",none,.cls ⟨hk "Stream",[hT "object"],[hr 440,hT "object"],439,hk "Stream",true,[],[],false,none,false⟩,⟨[none,none,some (hA "Stream" 762),some (hA "Stream" 770),some (.builtin "object.__new__"),some (.bool true)]⟩⟩,⟨hT "getset_descriptor",none,hf [hA "__dict__" 786,hr 440,.builtin "function.__dict__",.builtin "function.__dict__#set"],⟨[]⟩⟩,⟨hT "getset_descriptor",none,hf [hA "__weakref__" 788,hr 440,.builtin "ExceptionGroup.__weakref__",.none],⟨[]⟩⟩,⟨hT "super",none,hf [hr 440,hr 440,hr 440],⟨[]⟩⟩,⟨hT "builtin_function_or_method",none,hf [.builtin "object.__init_subclass__",hr 440],⟨[]⟩⟩]
noncomputable def Ms (P:Params):=Ic P++[he P "Reference" 830 (hr 468),he P "kind_of" 837 (hr 479),he P "told_plain" 845 (hr 486),he P "told" 851 (hr 491),he P "parts_of" 857 (hr 496),he P "depth_of" 869 (hr 503),he P "MOST_DEPTH" 873 (hI 40 872),he P "Frame" 910 (hr 527),he P "is_whole" 917 (hr 538),he P "take_reference" 927 (hr 545),he P "word_value" 935 (hr 552),he P "plain_value" 947 (hr 559),he P "dict_of" 953 (hr 564),he P "close_frame" 964 (hr 571),he P "object_from" 979 (hr 579),he P "read_object" 986 (hr 586),he P "read_value" 995 (hr 593),he P "read_values" 1004 (hr 600),he P "_law_pen" 1015 (hr 607),he P "_law_draw" 1024 (hr 614),he P "_law_pick" 1032 (hr 621),he P "_law_plains" 1039 (hr 628),he P "_law_told_of" 1047 (hr 635),he P "_law_object" 1058 (hr 642),he P "_law_bent" 1069 (hr 649),he P "_law_laid" 1080 (hr 656),he P "_law_read" 1090 (hr 663),he P "_law_array" 1102 (hr 670),he P "_law_dict" 1108 (hr 675),he P "_law_heard" 1116 (hr 682),he P "_law_object_at" 1125 (hr 689),he P "_law_all" 1137 (hr 696),he P "_law_deep_right" 1152 (hr 703),he P "_law_references_right" 1161 (hr 710),he P "law" 1175 (hr 717)]
noncomputable def JI (P:Params):=Db P++[hI 328 0,hI 0 0,hr 450,hI 336 0,hI 0 0,hr 478,hI 358 0,hI 0 0,hr 485,hI 372 0,hI 0 0,hr 490,hI 381 0,hI 0 0,hr 495,hI 390 0,hI 0 0,hr 502,hI 402 0,hI 0 0,hr 509,hI 410 0,hI 0 0,hr 537,hI 412 0,hI 0 0,hr 544,hI 421 0,hI 0 0,hr 551,hI 429 0,hI 0 0,hr 558,hI 446 0,hI 0 0,hr 563,hI 451 0,hI 0 0,hr 570,hI 461 0,hI 0 0,hr 578,hI 481 0,hI 0 0,hr 585,hI 483 0,hI 0 0,hr 592,hI 490 0,hI 0 0,hr 599,hI 499 0,hI 0 0,hr 606,hI 504 0,hI 0 0,hr 613,hI 511 0,hI 0 0,hr 620,hI 513 0,hI 0 0,hr 627,hI 516 0,hI 0 0,hr 634,hI 527 0,hI 0 0,hr 641,hI 540 0,hI 0 0,hr 648,hI 553 0,hI 0 0,hr 655,hI 559 0,hI 0 0,hr 662,hI 571 0,hI 0 0,hr 669,hI 579 0,hI 0 0,hr 674,hI 593 0,hI 0 0,hr 681,hI 598 0,hI 0 0,hr 688,hI 601 0,hI 0 0,hr 695,hI 609 0,hI 0 0,hr 702,hI 620 0,hI 0 0,hr 709,hI 628 0,hI 0 0,hr 716]
noncomputable def HY (P:Params):List Obj:=(List.set (List.set (L8 P) 3 ⟨hT "dict",none,hd (he P "__name__" 165 n7::Ms P) 87,⟨[]⟩⟩) 12 ⟨.none,none,hf ((hI 1 0)::JI P),⟨[]⟩⟩)++[tu [],⟨hT "builtin_function_or_method",none,hf [.builtin "type.__prepare__",hT "type"],⟨[]⟩⟩,di [he P "__module__" 800 n5,he P "__qualname__" 802 (hA "Reference" 801),he P "__firstlineno__" 804 (hI 328 803),he P "__init__" 813 (hr 458),he P "pair" 820 (hr 465),he P "__static_attributes__" 823 (hr 466)] 6,tu [],⟨.none,none,hf [hI 330 0,hI 4 0,hr 457,hI 334 0,hI 4 0,hr 464],⟨[]⟩⟩,hc [hA "Reference" 795,hA "Reference" 796,hA "/claim/cut.py" 797,hI 328 0,hI 0 0,hI 0 0,hI 0 0,hI 0 0,hr 448,.bool false,hI 181 0,hr 449,.none,.none,.none,.none,hI 798 0,hI 328 0,hA "/claim/cut.py" 799],⟨hT "frame",none,.plain,⟨[some (hr 450),some (hr 3),some (hr 447),none,some n5,none,some (hr 0)]⟩⟩]++dg 48 1 452 805 330 3 3 ["self","number","generation"] [] .none n5++dg 48 2 459 814 334 1 3 ["self"] [] .none n5++[tu [hA "generation" 821,hA "number" 822],di [he P "__module__" 800 n5,he P "__firstlineno__" 804 (hI 328 803),he P "__init__" 813 (hr 458),he P "pair" 820 (hr 465),he P "__static_attributes__" 823 (hr 466),he P "__dict__" 825 (hr 469),he P "__weakref__" 827 (hr 470),he P "__doc__" 828 .none] 4,⟨hT "type",none,.cls ⟨hk "Reference",[hT "object"],[hr 468,hT "object"],467,hk "Reference",true,[],[],false,none,false⟩,⟨[none,none,some (hA "Reference" 793),some (hA "Reference" 801),some (.builtin "object.__new__"),some (.bool true)]⟩⟩,⟨hT "getset_descriptor",none,hf [hA "__dict__" 824,hr 468,.builtin "function.__dict__",.builtin "function.__dict__#set"],⟨[]⟩⟩,⟨hT "getset_descriptor",none,hf [hA "__weakref__" 826,hr 468,.builtin "ExceptionGroup.__weakref__",.none],⟨[]⟩⟩,⟨hT "super",none,hf [hr 468,hr 468,hr 468],⟨[]⟩⟩,⟨hT "builtin_function_or_method",none,hf [.builtin "object.__init_subclass__",hr 468],⟨[]⟩⟩]++dg 49 0 473 831 336 1 3 ["value"] [] .none n5++dg 50 0 480 838 358 2 3 ["kind","value"] [] .none n5++[tu [],hz,hu .none 51 0 0 .none .none .none,hc [hA "told" 846,hA "told" 847,hA "/claim/cut.py" 848,hI 372 0,hI 1 0,hI 0 0,hI 0 0,hI 3 0,hr 487,.bool true,hI 181 0,hr 488,.none,.none,.none,hr 489,hI 849 0,hI 372 0,hA "/claim/cut.py" 850],hu (hT "function") 51 0 3 .none n5 (hr 490),tu [],hz,hu .none 52 0 0 .none .none .none,hc [hA "parts_of" 852,hA "parts_of" 853,hA "/claim/cut.py" 854,hI 381 0,hI 1 0,hI 0 0,hI 0 0,hI 3 0,hr 492,.bool true,hI 181 0,hr 493,.none,.none,.none,hr 494,hI 855 0,hI 381 0,hA "/claim/cut.py" 856],hu (hT "function") 52 0 3 .none n5 (hr 495)]++dg 53 0 497 858 390 1 3 ["value","deepest","line","here","above","part"] [] .none n5++[tu [],⟨hT "builtin_function_or_method",none,hf [.builtin "type.__prepare__",hT "type"],⟨[]⟩⟩,di [he P "__module__" 881 n6,he P "__qualname__" 883 (hA "Frame" 882),he P "__firstlineno__" 885 (hI 402 884),he P "__init__" 893 (hr 517),he P "wants_key" 900 (hr 524),he P "__static_attributes__" 903 (hr 525)] 6,tu [],⟨.none,none,hf [hI 404 0,hI 4 0,hr 516,hI 408 0,hI 4 0,hr 523],⟨[]⟩⟩,hc [hA "Frame" 876,hA "Frame" 877,hA "/claim/cut.py" 878,hI 402 0,hI 0 0,hI 0 0,hI 0 0,hI 0 0,hr 507,.bool false,hI 181 0,hr 508,.none,.none,.none,.none,hI 879 0,hI 402 0,hA "/claim/cut.py" 880],⟨hT "frame",none,.plain,⟨[some (hr 509),some (hr 3),some (hr 506),none,some n6,none,some (hr 0)]⟩⟩]++dg 56 1 511 886 404 2 3 ["self","mark"] [] .none n6++dg 56 2 518 894 408 1 3 ["self"] [] .none n6++[tu [hA "items" 901,hA "mark" 902],di [he P "__module__" 881 n6,he P "__firstlineno__" 885 (hI 402 884),he P "__init__" 893 (hr 517),he P "wants_key" 900 (hr 524),he P "__static_attributes__" 903 (hr 525),he P "__dict__" 905 (hr 528),he P "__weakref__" 907 (hr 529),he P "__doc__" 908 .none] 4,⟨hT "type",none,.cls ⟨hk "Frame",[hT "object"],[hr 527,hT "object"],526,hk "Frame",true,[],[],false,none,false⟩,⟨[none,none,some (hA "Frame" 874),some (hA "Frame" 882),some (.builtin "object.__new__"),some (.bool true)]⟩⟩,⟨hT "getset_descriptor",none,hf [hA "__dict__" 904,hr 527,.builtin "function.__dict__",.builtin "function.__dict__#set"],⟨[]⟩⟩,⟨hT "getset_descriptor",none,hf [hA "__weakref__" 906,hr 527,.builtin "ExceptionGroup.__weakref__",.none],⟨[]⟩⟩,⟨hT "super",none,hf [hr 527,hr 527,hr 527],⟨[]⟩⟩,⟨hT "builtin_function_or_method",none,hf [.builtin "object.__init_subclass__",hr 527],⟨[]⟩⟩]++dg 57 0 532 911 410 1 3 ["value"] [] .none n6++dg 58 0 539 918 412 2 3 ["cursor","number","probe","generation"] [] .none n6++dg 59 0 546 928 421 2 3 ["worth","at"] [] .none n6++dg 60 0 553 936 429 3 3 ["cursor","token","lets_references","kind","worth","at"] [] .none n6++[tu [],hz,hu .none 61 0 0 .none .none .none,hc [hA "dict_of" 948,hA "dict_of" 949,hA "/claim/cut.py" 950,hI 446 0,hI 1 0,hI 0 0,hI 0 0,hI 3 0,hr 560,.bool true,hI 181 0,hr 561,.none,.none,.none,hr 562,hI 951 0,hI 446 0,hA "/claim/cut.py" 952],hu (hT "function") 61 0 3 .none n6 (hr 563)]++dg 62 0 565 954 451 3 3 ["frames","worth","at","opening","frame"] [] .none n6++[tu [.bool true]]++dg 63 0 573 965 461 3 3 ["cursor","token","lets_references","frames","kind","worth","at","is_opening","value"] [] (hr 572) n6++dg 64 0 580 980 481 1 3 ["cursor"] [] .none n6++dg 65 0 587 987 483 1 3 ["data","cursor","value"] [] .none n6++dg 66 0 594 996 490 1 3 ["data","cursor","found"] [] .none n6++dg 68 0 601 1007 499 1 3 ["script","number","cell"] [] .none n7++dg 69 0 608 1016 504 2 3 ["pen","many","digit"] [] .none n7++dg 70 0 615 1025 511 2 3 ["pen","some"] [] .none n7++dg 71 0 622 1033 513 0 3 ["found"] [] .none n7++dg 72 0 629 1040 516 0 3 ["found","key"] [] .none n7++dg 73 0 636 1048 527 2 3 ["pen","deep","way","found","turn"] [] .none n7++dg 74 0 643 1059 540 2 3 ["pen","row","way","other","spot"] [] .none n7++dg 75 0 650 1070 553 2 3 ["pen","row","data","places","token"] [] .none n7++dg 76 0 657 1081 559 4 3 ["row","places","end","at"] [] .none n7++dg 77 0 664 1091 571 4 3 ["row","places","end","at","found","heard"] [] .none n7++[tu [],hz,hu .none 78 0 0 .none .none .none,hc [hA "_law_dict" 1103,hA "_law_dict" 1104,hA "/claim/cut.py" 1105,hI 579 0,hI 4 0,hI 0 0,hI 0 0,hI 3 0,hr 671,.bool true,hI 181 0,hr 672,.none,.none,.none,hr 673,hI 1106 0,hI 579 0,hA "/claim/cut.py" 1107],hu (hT "function") 78 0 3 .none n7 (hr 674)]++dg 79 0 676 1109 593 1 3 ["ask","error"] [] .none n7++dg 80 0 683 1117 598 2 3 ["data","end"] ["cursor"] .none n7++dg 81 0 690 1126 601 3 3 ["row","places","end","found","at","heard"] [] .none n7++dg 82 0 697 1138 609 1 3 ["pen","many","data","closing","places","nth","is_array","due"] ["whole_row"] .none n7++dg 83 0 704 1153 620 0 3 ["pair"] ["one","other"] .none n7++dg 84 0 711 1162 628 1 3 ["script","pen","turn","row","places","due","end"] ["data"] .none n7
theorem Ou (w:World)(os:OsState):Me w os 1362 (Jk w.params) 15 187 0 21 ⟨0,0,0,0⟩=Fj os (N4 w.params) 192 446 ⟨110,0,110,4⟩:=by kernel_rfl
theorem Ov (w:World)(os:OsState):Me w os 1746 (N4 w.params) 192 446 21 27 ⟨110,0,110,4⟩=Fj os (L8 w.params) 445 793 ⟨323,0,327,28⟩:=by kernel_rfl
theorem Ow (w:World)(os:OsState):Me w os 1536 (L8 w.params) 445 793 48 37 ⟨323,0,327,28⟩=Fj os (HY w.params) 718 1176 ⟨628,0,643,59⟩:=by kernel_rfl
set_option profiler true
set_option profiler.threshold 500
noncomputable def hH (P:Params):Heap:=absHeap (Nq 12 (HY P)) 718 {}
noncomputable def PF:Pos:=⟨628,0,643,59⟩
theorem MQ (w:World)(a:OsState):topGo treeTable hP w 11 oj 12 ⟨boot_heap w.params,Array.mk [],boot_drawn,boot_toks,a⟩ (topStub hP)=some ((hS (Jk w.params) 15 187 a).abs,⟨denote treeTable (.body hB vR),hC,hQ,[topFrame hQ]⟩):=by kernel_rfl
theorem Gg (w:World)(a:OsState):segRun treeTable hP w 11 oj 1 1 (hS (Jk w.params) 15 187 a).abs (blockOf hB vR hC hQ [topFrame hQ])=some (.next,(hS (Jk w.params) 15 187 a).abs,hC,hQ):=by kernel_rfl
theorem MP (w:World)(a:OsState):topRun treeTable hP w 11 oj 2 (hS (HY w.params) 718 1176 a).abs ⟨doneF .next,hC,PF,[topFrame hQ]⟩=some (hS (HY w.params) 718 1176 a).abs:=by kernel_rfl
theorem J8 (w:World):((boot_heap w.params).isNs mainGlobals&&(Array.mk []:Array GenState).size==0,(boot_heap w.params).objs.size,(boot_heap w.params).nsMap mainGlobals "__annotations__")=(true,11,oj):=by kernel_rfl
theorem L7:(hB.drop 0).take 21++((hB.drop 21).take 27++((hB.drop 48).take 37++[]))=hB:=by kernel_rfl
theorem MO{a:OsState}:∀{l:List Stmt},(hB.drop 0).take 21++((hB.drop 21).take 27++((hB.drop 48).take 37++[]))=l->topRun treeTable hP w 11 oj (1362+(1746+(1536+2))) (hS (Jk w.params) 15 187 a).abs (restOf ((hB.drop 0).take 21++((hB.drop 21).take 27++((hB.drop 48).take 37++[]))) vR hC hQ [topFrame hQ])=some r->topRun treeTable hP w 11 oj (1362+(1746+(1536+2))) (hS (Jk w.params) 15 187 a).abs (restOf l vR hC hQ [topFrame hQ])=some r|_,rfl,h=>h
theorem MR (w:World)(a:OsState):topRun treeTable hP w 11 oj (12+(1+(1362+(1746+(1536+2))))) ⟨boot_heap w.params,Array.mk [],boot_drawn,boot_toks,a⟩ (topStub hP)=some (hS (HY w.params) 718 1176 a).abs:=go_top (MQ w a) (piece_block (Gg w a) (MO L7 (piece_app (Jn (Ou w a)) (piece_app (Jn (Ov w a)) (piece_app (Jn (Ow w a)) (rest:=[]) (piece_nil (MP w a)))))))
noncomputable def lS:Program:=view hP [84]
noncomputable def Es:List Str:=(hP.main.scope.names.map (·.1)).filter fun x=>!(x==Str.ofString "law")
noncomputable abbrev zj (P:Params)(a:OsState):Shared:=⟨hH P,Array.mk [],⟨0,0,0,0⟩,1176,a⟩
theorem PP (w:World)(b:OsState):(staticsOk (importedModules hP.main.body) (boot_heap w.params) (hH w.params)&&namesBound hP (hH w.params)&&gensDone (zj w.params b)&&laidKept (boot_heap w.params) (hH w.params))=true:=by kernel_rfl
theorem PG (w:World)(c:OsState):seen ((recsOf lS).map (·.name)) (ownsOf lS) [] {zj w.params c with gens:=#[]}=expectedOf lS:=by kernel_rfl
theorem PH (w:World):(hH w.params).bltView=bltViewBooted:=by kernel_rfl
theorem PI (w:World)(os:OsState):((hH w.params).keysOk (looseW lS Es) ((recsOf lS).map (·.name)) ((litsOf lS).map (·.1)) ((clssOf lS (looseW lS Es)).map (·.name))&&(hH w.params).accountedOkI (importedModules hP.main.body)&&(hH w.params).isNs mainGlobals&&(hH w.params).isNs builtinsNs&&tablesOk lS (hH w.params)&&true&&(zj w.params os).gens.size==0)=true:=by kernel_rfl
theorem PJ (w:World)(b:OsState):tabsOk lS (zj w.params b)=true:=by kernel_rfl
theorem PK (w:World)(b:OsState):pinSeenD lS (drecsOf lS) (zj w.params b)=pinGoodD (drecsOf lS):=by kernel_rfl
theorem PL (w:World)(b:OsState):plainSeenE lS (looseW lS Es) (zj w.params b)=plainGoodE lS (looseW lS Es):=by kernel_rfl
theorem PM (w:World)(b:OsState):plainSeenD lS Es (zj w.params b)=plainGoodD lS Es:=by kernel_rfl
theorem PN (w:World)(b:OsState):wideSeen lS (zj w.params b)=wideGood lS:=by kernel_rfl
theorem PO (w:World)(b:OsState):clsSeenW lS Es (zj w.params b)=clsGoodW lS Es:=by kernel_rfl
theorem II (P:Params)(a:OsState):(hS (HY P) 718 1176 a).abs=zj P a:=by kernel_rfl
theorem J7 (w:World)(os:OsState):topRun treeTable hP w 11 oj (12+(1+(1362+(1746+(1536+2))))) ⟨boot_heap w.params,Array.mk [],boot_drawn,boot_toks,os⟩ (topStub hP)=some (zj w.params os):=(MR w os).trans (congrArg some (II w.params os))
theorem Af:opening hP=plainProg hP.main.scope.names:=by kernel_rfl
theorem Gh (s:Shared):fenceModules? hP s=some s:=by kernel_rfl
theorem J6:∀w:World,(fencedOpening treeTable hP w 9408).map (fun s=>(s.heap,s.gens,s.drawn,s.toks))=some (boot_heap w.params,Array.mk [],boot_drawn,boot_toks):=boot_open Af (by decide) Gh
theorem F8(c:seen ((recsOf q).map (·.name)) (ownsOf q) [] {s with gens:=#[]}=expectedOf q)(d:s.heap.bltView=bltViewBooted) (e:(s.heap.keysOk (looseW q a) ((recsOf q).map (·.name)) ((litsOf q).map (·.1)) ((clssOf q (looseW q a)).map (·.name))&&s.heap.accountedOkI b&&s.heap.isNs mainGlobals&&s.heap.isNs builtinsNs&&tablesOk q s.heap&&true&&(s.gens.size==0))=true) (f:tabsOk q s=true) (g:pinSeenD q (drecsOf q) s=pinGoodD (drecsOf q)) (h:plainSeenE q (looseW q a) s=plainGoodE q (looseW q a)) (i:plainSeenD q a s=plainGoodD q a) (j:wideSeen q s=wideGood q) (k:clsSeenW q a s=clsGoodW q a):openSeen q a b (fun _=>true) true s=openGood q a:=Prod.ext c (Prod.ext d (Prod.ext e (Prod.ext f (Prod.ext g (Prod.ext h (Prod.ext i (Prod.ext j k)))))))
theorem Ft(h:∀w os,openSeen q loose (importedModules hP.main.body) (fun _=>true) true (zj (World.params w) os)=openGood q loose)(ha:∀(w:World) os,(staticsOk (importedModules hP.main.body) (boot_heap w.params) (hH w.params)&&namesBound hP (hH w.params)&&gensDone (zj w.params os)&&laidKept (boot_heap w.params) (hH w.params))=true):LeftO hP q loose (fun _=>true) (fun s=>s.heap) (fun w=>hH w.params) 9408:=
 LeftO.of_pieces (H₀:=boot_heap) (H₁:=hH) (gs₀:=Array.mk []) (gs₁:=Array.mk []) (d₀:=boot_drawn) (d₁:=⟨0,0,0,0⟩) (k₀:=boot_toks) (k₁:=1176) (m₀:=11) (ann:=oj) (M:=12+(1+(1362+(1746+(1536+2))))) J6 J8 J7 (by decide) fun w=>funext fun os=>Prod.ext (ha w os) (Prod.ext (h w os) rfl)
theorem J4:LeftO hP lS Es (fun _=>true) (fun s=>s.heap) (fun w=>hH w.params) 9408:=Ft (fun w a=>F8 (PG w a) (PH w) (PI w a) (PJ w a) (PK w a) (PL w a) (PM w a) (PN w a) (PO w a)) PP
theorem rL(h:Str.ofString a=Str.ofString b):a=b:=by
 rw[Str.ofString_eq_toList,Str.ofString_eq_toList]at h;have c:a.toList.map Char.toNat=b.toList.map Char.toNat:=by
  have:=congrArg (fun s=>s.cps.toList) h
  simpa using this
 have d:a.toList=b.toList:=(List.map_inj_right (fun x y e=>Char.toNat_inj.mp e)).mp c;exact String.toList_inj.mp d
theorem kR (a b:String):(Str.ofString a==Str.ofString b)=(a==b):=by
 by_cases h:a=b
 ·subst h;simp
 ·have:Str.ofString a≠Str.ofString b:=fun e=>h (rL e);rw[jt this,jt h]
structure TN (C:Cx)(h:Heap)(keys:List Addr)(e T:Addr)(oT:Obj)(ts:Array Value)(fl:Value):Prop where
 hT:h.get? T=some oT
 dT:oT.data= .fields ts
 t3:ts[3]?=some fl
 ne:T≠e
 nk:T ∉ keys
 nG:C.G.get? T=none
inductive Tb (C:Cx)(h:Heap)(keys:List Addr)(e:Addr)(vs:Array Value)(L:Addr):Bool->Prop
 |new (h1:vs[1]?=some .none):Tb C h keys e vs L true
 |old {T:Addr} {oT:Obj} {ts:Array Value} {fl:Value} (v1:vs[1]?=some (.ref T)) (o:TN C h keys e T oT ts fl) (h5:fl= .none\/fl=rawInt L):Tb C h keys e vs L false
structure AF (C:Cx)(h:Heap)(keys:List Addr)(e dx:Addr)(vs:Array Value)(sl:Array (Option Value)):Prop where
 he:h.get? e=some {cls:=.ref (C.ca Bu),dict:=some dx,data:=.fields vs,slots:=sl}
 nk:e ∉ keys
 nG:C.G.get? e=none
 sz:1<vs.size
def K4 (C:Cx)(h:Heap)(a:List Addr)(L:Addr)(e d:Addr)(b:Bool):Prop:=∃c f,AF C h a e d c f/\Tb C h a e c L b
def AG (C:Cx)(s:Sg)(z:Int)(b:Addr):Prop:=∃a n,C.has s b (dictOf a n)/\g7 z a
theorem AG.le(l:s.sub t)(h:AG C s z b):AG C t z b:=h.imp fun c=>bq fun n=>k6 (·.le l)
def pN (C:Cx)(t:Sg)(a:List Addr)(L:Addr)(z:Int)(e:Addr)(s:Shared)(b:Bool):Prop:=∃c,K4 C s.heap a L e c b/\AG C t z c
noncomputable def Sg.keys (s:Sg):List Addr:=s.news.map (·.1)
structure Ap (C:Cx)(k:Nat)(fi:FI)(x:Fx)(mf:MF)(ms:MS)(σ:Sg)(m:Str->Option Value)(z:Int)(e:Addr)(s:Shared):Prop where
 ok:Ok C k fi x mf ms σ m s
 exc:∃b,pN C σ (x.L::σ.keys) x.L z e s b
 hc:fi.cp=false
section
variable (C:Cx) (k:Nat) (fi:FI) (mf:MF) (ms:MS)
def bO{n:Type}(R:Sg->n->q->Prop)(t:Fx->Sem q)(o:Except Int n)(d:MF)(f:MS):Prop:=∀x u m s,Ok C k fi x mf ms u m s->∀(Q:q->Shared->Prop) (E:Value->Shared->Prop),(∀b,o= .ok b->∀c h g a,u.le c->Ok C k fi x d f c h g->R c b a->Q a g)->(∀z,o= .error z->∀c h g e,u.le c->Ap C k fi x d f c h z e g->E (.ref e) g)->wpAny (model C.prog C.w) x.A (t x) Q E s
abbrev ax (e:Expr)(o:Except Int V)(a:MS):Prop:=bO C k fi mf ms (VR C) (fun x=>eval e (x.env fi)) o mf a
abbrev Ev (e:Expr)(v:V):Prop:=ax C k fi mf ms e (.ok v) ms
abbrev fu (b:List Expr)(p:Pos)(o:Except Int (List V))(a:MS):Prop:=bO C k fi mf ms (VRs C) (fun x=>spliced (backTo p (starEach b (x.env fi)))) o mf a
abbrev cy (e:Expr)(o:Except Int Bool)(c:MS):Prop:=bO C k fi mf ms (fun _ b a=>a=b) (fun x=>isTrue e (x.env fi) (eval e (x.env fi))) o mf c
end
structure KF (C:Cx):Prop where
 X:C.K.In C.G
 T:Top C.p C.loose C.mean C.mg C.mb C.G
theorem KF.R(H:KF C):TopRead C.p C.loose C.mg C.mb C.G:=topRead_of H.T
theorem Ok.toks(h:Ok C k i x j l u m s)(t:Nat):Ok C k i x j l u m {s with toks:=t}:=⟨h.F,h.N,h.nd,h.st,h.hfr,h.kd,h.fok,h.room,h.gens,h.os,h.vars,h.cells,h.len,h.reps,h.tabs⟩
theorem bO.go{t:Fx->Sem l}{b:y}(h:bO C k i n o R t (.ok b) f g)(d:Ok C k i x n o r m s) {E:Value->Shared->Prop} (q:∀c p j a,r.le c->Ok C k i x f g c p j->R c b a->Q a j):wpAny (model C.prog C.w) x.A (t x) Q E s:=h x r m s d Q E (fun u e=>sF e▸q) (fun z e=>nomatch e)
theorem bO.goE{R:Sg->i->a->Prop}(h:bO C k f j l R t (.error z) c d)(n:Ok C k f x j l r m s) {E:Value->Shared->Prop} (q:∀b o g e,r.le b->Ap C k f x c d b o z e g->E (.ref e) g):wpAny (model C.prog C.w) x.A (t x) Q E s:=h x r m s n Q E (fun u e=>nomatch e) (fun z e=>Except.error.inj e▸q)
theorem bO.ok{b:r}(h:∀x u m s,Ok C k f x l n u m s->∀(Q:z->Shared->Prop) (E:Value->Shared->Prop),(∀c p g a,u.le c->Ok C k f x d e c p g->R c b a->Q a g)->wpAny (model C.prog C.w) x.A (t x) Q E s):bO C k f l n R t (.ok b) d e:=fun x u m s o Q E q _=>h x u m s o Q E (q b rfl)
theorem bO.err{R:Sg->r->d->Prop}(h:∀x u m s,Ok C k f x j l u m s->∀(Q:d->Shared->Prop) (E:Value->Shared->Prop),(∀a n g e,u.le a->Ap C k f x b c a n z e g->E (.ref e) g)->wpAny (model C.prog C.w) x.A (t x) Q E s):bO C k f j l R t (.error z) b c:=fun x u m s o Q E _ q=>h x u m s o Q E (q z rfl)
theorem bO.thru{t:Fx->Sem G}{o:Except Int H}(h:bO C k n u v R t o i j){y:Sg}(l:y.le r)(p:Ok C k n x u v r m s) {E:Value->Shared->Prop} (q:∀b,o= .ok b->∀c f d a,y.le c->Ok C k n x i j c f d->R c b a->Q a d) (e:∀z,o= .error z->∀c f d e,y.le c->Ap C k n x i j c f z e d->E (.ref e) d):wpAny (model C.prog C.w) x.A (t x) Q E s:=h x r m s p Q E (fun b B c f d a g=>q b B c f d a (l.trans g)) (fun z D c f d a g=>e z D c f d a (l.trans g))
theorem Iz (i:Int)(n:Nat)(p:Pos):Ev C k d e f (.Constant (.int i) n p) (.int i):=bO.ok fun x t m s h Q E q=>wpAny_Constant_int (q t m _ _ (.refl _) (h.toks _) (.int _ _))
theorem ED (n:Nat)(p:Pos):Ev C k b c d (.Constant .none n p) .none:=bO.ok fun x t m s h Q E q=>wpAny_Constant_none (q t m _ _ (.refl _) h .none)
theorem EA (n:Nat)(p:Pos)(b:Bool):Ev C k d e f (.Constant (.bool b) n p) (.bool b):=bO.ok fun x t m s h Q E q=>wpAny_Constant_bool (q t m _ _ (.refl _) h (.bool _))
theorem IA (y:Str)(n:Nat)(p:Pos)(hl:y.cps.toList.length<=1000000):Ev C k f g i (.Constant (.str y) n p) (.str y.cps.toList):=bO.ok fun x t m s h Q E q=>Calls.Constant_str (q t m _ _ (.refl _) (h.toks _) (.str _ _ hl))
theorem AC (y:List UInt8)(n:Nat)(p:Pos)(hl:y.length<=1000000):Ev C k b c d (.Constant (.bytes y) n p) (.bytes y):=bO.ok fun x t m s h Q E q=>by
 show wpAny _ _ (constValue _ (.bytes y)) _ _ _;exact fun Γ p a=>q t m _ _ (.refl _) (h.toks _) (.bytes _ _ hl)
theorem AE(hk:a.scope.names.lookup n=some .local)(g:aO n=true)(c:d.vars.lookup (aL n)=some v)(hd:(n==("__debug__":Str))=false):Ev C k a d i (.Name n p) v:=bO.ok fun x t m s h Q E q=>by
  obtain⟨u,e,f⟩:=h.vars n v g c;exact wpAny_Name (wpAny_loadName_local (env:=x.env a) h.kd hk h.F.ns e (q t m _ _ (.refl _) h f)) hd
structure eQ (C:Cx)(k:Nat)(A:Around)(ms:MS)(σ:Sg)(s:Shared):Prop where
 keep:∀b o,C.G.get? b=some o->s.heap.get? b=some o
 sz:C.G.objs.size<=s.heap.objs.size
 news:∀p∈σ.news,s.heap.get? p.1=some p.2/\C.G.get? p.1=none
 nd:(σ.news.map (·.1)).Nodup
 st:A.frames=some (σ.frs.map (·.1))
 fok:∀f∈σ.frs,f.1.scope.kind= .function/\f.1.frame=some f.2.1/\∃es n,f.2.2.data= .dict es n
 room:iN k A
 gens:s.gens=#[]
 os:s.os=C.os
 len:σ.reps.length=ms.length
 reps:∀(l:Nat) (o:ah) (r:iM),(ms:List ah)[l]?=some o->σ.reps[l]?=some r->iV C σ o r
 tabs:pY C σ
noncomputable def Sg.push (s:Sg)(a:Env)(L:Addr)(o:Obj):Sg:={s with frs:=(a,L,o)::s.frs}
noncomputable def Sg.pop (s:Sg):Sg:={s with frs:=s.frs.tail}
theorem zK (s:Sg)(a:Env)(L:Addr)(o:Obj):(s.push a L o).news=(L,o)::s.news:=rfl
theorem FV{s:Sg}(h:(s.push e L o).le t):∃g,t=t.pop.push e L g/\g.data=o.data/\s.le t.pop:=by
 have q:=h.frs;refine Nh (t.frs) ?_ ?_
 ·intro hf;rw[hf]at q;cases q
 ·intro f r hf;rw[hf]at q;simp only[Sg.push,iE,List.cons.injEq,oa,Prod.mk.injEq]at q;obtain⟨⟨j,k,l⟩,m⟩:=q;obtain⟨u,v,n⟩:=f;simp only at j k l;subst j k;refine⟨n,?_,l.symm,⟨?_,h.adr,h.imm,h.its⟩⟩
  ·obtain⟨a,b,c,d,i⟩:=t;simp only at hf;subst hf
   rfl
  ·show s.frs.map oa=t.frs.tail.map oa;rw[hf];exact m
theorem Gd (s:Sg)(a:Env)(L:Addr)(o:Obj):(s.push a L o).sub s:=⟨fun _ _ e=>e,fun _ e=>e⟩
theorem DW (s:Sg)(a:Env)(L:Addr)(o:Obj):s.sub (s.push a L o):=⟨fun _ _ e=>e,fun _ e=>e⟩
noncomputable def Sg.hold (s:Sg)(L:Addr)(o:Obj):Sg:={s with its:=(L,o)::s.its}
noncomputable def Sg.up (s:Sg)(a:FI)(x:Fx)(o:Obj):Sg:=if a.cp=true then s.hold x.L o else s.push (x.env a) x.L o
theorem Sg.up_f{σ:Sg}(h:a.cp=false):σ.up a x o=σ.push (x.env a) x.L o:=by unfold Sg.up;rw[h];rfl
theorem Sg.up_t{s:Sg}(h:a.cp=true):s.up a x o=s.hold x.L o:=by unfold Sg.up;rw[h];rfl
theorem bt (s:Sg)(L:Addr)(o:Obj):(s.hold L o).news.Perm ((L,o)::s.news):=by unfold Sg.hold Sg.news Sg.rest;simp only[sA];refine(uH _ (uH _ sC)).trans ?_;exact(uH _ sC).trans sC
theorem f6 (s:Sg)(a:FI)(x:Fx)(o:Obj):(s.up a x o).news.Perm ((x.L,o)::s.news):=by
 refine qI (a.cp) ?_ ?_
 ·intro h;rw[Sg.up_f h,zK]
 ·intro h;rw[Sg.up_t h];exact bt ..
theorem mq (s:Sg)(a:FI)(x:Fx)(o:Obj):s.sub (s.up a x o):=by
 refine qI (a.cp) ?_ ?_
 ·intro h;rw[Sg.up_f h];exact DW ..
 ·intro h;rw[Sg.up_t h];exact⟨fun _ _ e=>e,fun _ e=>e⟩
theorem kX (s:Sg)(a:FI)(x:Fx)(o:Obj):(s.up a x o).sub s:=by
 refine qI (a.cp) ?_ ?_
 ·intro h;rw[Sg.up_f h];exact Gd ..
 ·intro h;rw[Sg.up_t h];exact⟨fun _ _ e=>e,fun _ e=>e⟩
theorem nE (s:Sg)(a:FI)(x:Fx)(o:Obj):(s.up a x o).reps=s.reps:=by unfold Sg.up;split<;>rfl
theorem yk (s:Sg)(a:FI)(x:Fx)(o:Obj):(s.up a x o).tabs=s.tabs:=by unfold Sg.up;split<;>rfl
theorem su (s:Sg)(a:FI)(x:Fx)(o:Obj):(s.up a x o).frs=(if a.cp then []else [(x.env a,x.L,o)])++s.frs:=by unfold Sg.up;cases a.cp<;>rfl
theorem Iv{s:Sg}(h:(s.up k x o).le t):∃f j,t=f.up k x j/\j.data=o.data/\s.le f:=by
 refine qI (k.cp) ?_ ?_
 ·intro q;rw[Sg.up_f q]at h;obtain⟨j,e,d,l⟩:=FV h;exact⟨_,j,by rw[Sg.up_f q];exact e,d,l⟩
 ·intro q;rw[Sg.up_t q]at h;refine⟨{t with its:=s.its},o,?_,rfl,⟨h.frs,h.adr,h.imm,rfl⟩⟩;rw[Sg.up_t q];have:=h.its;obtain⟨a,b,c,d,e⟩:=t;simp only[Sg.hold]at this ⊢;rw[this]
theorem oF{h b:Heap}(i:h.Ns L m)(j:h.get? L=some o)(a:b.get? L=some c)(e:c.data=o.data):b.Ns L m:=by obtain⟨f,k,l,g,d,r⟩:=i;rw[j]at g;cases g;exact⟨c,k,l,a,e.trans d,r⟩
theorem Ok.toC (h:Ok C k t x U I w m s):∃o,s.heap.get? x.L=some o/\eQ C k x.A I (w.up t x o) s:=by
 obtain⟨o,J,K,u,hd,r⟩:=h.F.ns;refine⟨o,u,h.F.keep,bR h.F.above (ju (jL u)),fun p n=>?_,?_,?_,fun f hf=>?_,h.room,h.gens,h.os,by rw[nE];exact h.len,fun l a b P D=>(h.reps l a b P (by rw[nE]at D;exact D)).le (mq ..),h.tabs.of (yk ..) (mq ..).imm⟩
 ·rcases zC ((f6 ..).mem_iff.mp n)with rfl|n
  ·exact⟨u,Heap.get?_none_of_le h.F.above⟩
  ·exact⟨(h.N p n).1,(h.N p n).2.2⟩
 ·rw[((f6 w t x o).map (·.1)).nodup_iff,iE,List.nodup_cons];refine⟨fun Q=>?_,h.nd⟩;obtain⟨p,n,e⟩:=zF Q;exact(h.N p n).2.1 e
 ·rw[su,h.st];cases t.cp<;>rfl
 ·rw[su]at hf;refine bS (t.cp) ?_ ?_
  ·intro q;rw[q]at hf;exact h.fok f (by simpa using hf)
  ·intro q;rw[q]at hf;rcases zC (show f∈_::w.frs from hf)with rfl|hf
   ·exact⟨h.kd,h.hfr q,J,K,hd⟩
   ·exact h.fok f hf
theorem eQ.down(h:Ok C k q x Y ms t m s)(Z:s.heap.get? x.L=some o)(hd:y.data=o.data)(K:t.sub τ')(d:eQ C k x.A B (τ'.up q x y) s'):Ok C k q x Y B τ' m s':=by have D:=d.news;have j:=d.nd;rw[((f6 τ' q x y).map (·.1)).nodup_iff,iE,List.nodup_cons]at j;have hL:=D (x.L,y) ((f6 ..).mem_iff.mpr (.head _));have r:=d.st;rw[su]at r;refine⟨⟨oF h.F.ns Z hL.1 hd,d.keep,h.F.above⟩,fun p H=>⟨(D p ((f6 ..).mem_iff.mpr (.tail _ H))).1,fun e=>j.1 (List.mem_map.mpr ⟨p,H,e⟩),(D p ((f6 ..).mem_iff.mpr (.tail _ H))).2⟩,j.2,?_,h.hfr,h.kd,fun f hf=>d.fok f (by rw[su];exact iD _ hf),d.room,d.gens,d.os,fun n v g e=>(h.vars n v g e).imp fun u=>fo (VR.sub K),fun n I g e=>(h.cells n I g e).imp fun a=>fo (K.adr _ _),nE τ' q x y▸d.len,fun I a b e1 e2=>(d.reps I a b e1 (by rw[nE];exact e2)).le (kX ..),d.tabs.of (yk ..).symm (kX ..).imm⟩;rw[r];cases q.cp<;>rfl
theorem eQ.back(h:Ok C k b x f r t m s)(g:s.heap.get? x.L=some o)(l:(t.up b x o).le u)(j:eQ C k x.A c u n):∃a d,u=a.up b x d/\t.le a/\Ok C k b x f c a m n:=(Iv l).elim fun a q=>q.elim fun d q=>⟨a,d,q.1,q.2.2,eQ.down h g q.2.1 q.2.2.sub (q.1▸j)⟩
def yz (C:Cx)(k:Nat)(i j:Nat)(d:List V)(p:MS)(o:Except Int V)(f:MS):Prop:=∀A t s h,eQ C k A p t s->VRs C t d h->∀R:Result->Shared->Prop,(∀v,o= .ok v->∀a c u,t.le a->eQ C k A f a c->VR C a v u->R (.ok (.ret u)) c)->(∀z,o= .error z->∀a c e,t.le a->eQ C k A f a c->(∀L,pN C a a.keys L z e c false)->R (.error (.ref e)) c)->codeAny (model C.prog C.w) A (.call (.ref (C.fa i j)) ⟨h,[]⟩) R s
set_option genCtorIdx true in
inductive Fl where|next|brk|cont|ret (v:V)
def IB (C:Cx)(s:Sg)(f:Fl)(a:Flow):Prop:=f.casesOn (a= .next) (a= .brk) (a= .cont) fun v=>∃u,a= .ret u/\VR C s v u
abbrev d3 (C:Cx)(k:Nat)(c:FI)(d:MF)(e:MS)(f:Stmt)(o:Except Int Fl)(a:MF)(b:MS):Prop:=bO C k c d e (IB C) (fun x=>exec f (x.env c)) o a b
abbrev dZ (C:Cx)(k:Nat)(c:FI)(d:MF)(e:MS)(f:List Stmt)(o:Except Int Fl)(a:MF)(b:MS):Prop:=bO C k c d e (IB C) (fun x=>execs f (x.env c)) o a b
noncomputable abbrev bP (l:List Env):List Addr:=l.filterMap (·.frame)
structure cY (C:Cx)(keys fr:List Addr)(h h':Heap):Prop where
 base:∀b o,C.G.get? b=some o->h.get? b=some o->h'.get? b=some o
 same:∀a∈keys,a ∉ fr->h'.get? a=h.get? a
 slots:∀a∈keys,∀o,h.get? a=some o->∃sl,h'.get? a=some {o with slots:=sl}
 size:h.objs.size<=h'.objs.size
theorem cY.refl (C:Cx)(a d:List Addr)(h:Heap):cY C a d h h:=⟨fun _ _ _ e=>e,fun _ _ _=>rfl,fun _ _ o e=>⟨o.slots,e⟩,cc _⟩
theorem cY.trans(x:cY C c l h p)(y:cY C c l p k):cY C c l h k:=⟨fun b o g e=>y.base b o g (x.base b o g e),fun a m n=>(y.same a m n).trans (x.same a m n),fun a m o e=>let ⟨_,q⟩:=x.slots a m o e;let ⟨r,s⟩:=y.slots a m _ q;⟨r,s⟩,bR x.size y.size⟩
theorem cY.update{T:Addr}(f:Obj->Obj)(j:T ∉ c)(k:C.G.get? T=none):cY C c l h (h.update T f):=by have d:∀a,a≠T->(h.update T f).get? a=h.get? a:=fun a n=>km _ _ (ci n);refine⟨fun b o g e=>(d b fun q=>?_).trans e,fun a m _=>d a fun q=>j (q▸m),fun a m o e=>⟨o.slots,(d a fun q=>j (q▸m)).trans e⟩,iG (Ek ..).symm⟩;rw[q,k]at g;cases g
theorem cY.push(o:Obj)(hk:∀a∈f,∃o,h.get? a=some o):cY C f l h (h.push o):=⟨fun b i _ e=>gY _ e,fun a m _=>by obtain⟨i,e⟩:=hk a m;rw[e];exact gY _ e,fun a m i e=>⟨i.slots,gY _ e⟩,by rw[Heap.size_push];exact eO _⟩
structure jM (C:Cx)(A:Around)(h:Heap)(keys:List Addr)(env:Env)(outer:List Env)(L:Addr):Prop where
 fr:A.frames=some (env::outer)
 ff:h.FunFrames C.G (env::outer)
 f:env.frame=some L
 k:∀a∈keys,∃o,h.get? a=some o
 g:∀b o,C.G.get? b=some o->h.get? b=some o
 i:∀a∈bP (env::outer),a∈keys
theorem y8(head:Value)(L:Addr)(hpl:IsPlace pl):([head,.ref L,.none,rawInt L,.none]++(if pl.isEmpty then List.replicate 6 Value.none else pl)).toArray[3]?=some (rawInt L):=hpl.elim (fun q=>q▸rfl) fun _=>by simp
theorem y9{d:Heap}(c:jM C A h e j i L)(hk:∀a∈e,∃o,d.get? a=some o)(k:d.objs.size=h.objs.size):d.objs.size ∉ e/\C.G.get? d.objs.size=none:=⟨fun m=>(hk _ m).elim fun o q=>o8 _ (jL q),by
  rw[k];cases q:C.G.get? h.objs.size with|none=>rfl|some o=>exact absurd (jL (c.g _ o q)) (o8 _)⟩
theorem uh(c:jM C A h f i d L)(k:Heap.SlotsOnly (bP (i::d)) h j):cY C f (bP (i::d)) h j:=⟨fun b o g q=>(k.2.1 b fun m=>by rw[(c.ff.mem m).1]at g;cases g).trans q,fun a _ n=>k.2.1 a n,fun a _ o q=>k.2.2 a o q,iG k.1.symm⟩
theorem y7{E:Value->Shared->Prop}{s:Shared}{keys:List Addr}{env:Env}{outer:List Env}{L e:Addr}{oe:Obj}{vs ts:Array Value}{oT:Obj}{h₁:Heap}{Q:Unit->Shared->Prop}(c:jM C A s.heap keys env outer L)(hs:Heap.SlotsOnly (bP (env::outer)) s.heap h₁)(he:s.heap.get? e=some oe)(hen:e ∉ keys)(heG:C.G.get? e=none)(hd:oe.data= .fields vs)(hsz:1<vs.size) (dT:oT.data= .fields ts) (t3:ts[3]?=some (rawInt L)) (h:∀h' T,cY C keys (bP (env::outer)) s.heap h'->h'.get? e=some (oe.mapFields (·.setIfInBounds 1 (.ref T)))->TN C h' keys e T oT ts (rawInt L)->Q () {s with heap:=h'}):wpAny M A (setField (.ref e) 1 (.ref h₁.objs.size)) Q E {s with heap:=h₁.push oT}:=by have n₁:=uh c hs;have he₁:h₁.get? e=some oe:=(hs.2.1 e fun q=>hen (c.i e q)).trans he;have k₁:∀a∈keys,∃o,h₁.get? a=some o:=fun a m=>(c.k a m).elim fun o q=>(hs.2.2 a o q).elim fun _ z=>⟨_,z⟩;have nw:=y9 c k₁ hs.1;have ne:h₁.objs.size≠e:=fP (jL he₁);have fr:∀{o:Obj} {vs:Array Value},o.data= .fields vs->o.isFreed=false:=fun q=>Obj.isFreed_of_fields q;exact wpAny_setField (s:={s with heap:=h₁.push oT}) (gY oT he₁) hd hsz (h _ h₁.objs.size ((n₁.trans (.push oT k₁)).trans (.update _ hen heG)) (uI _ (gY oT he₁) (Obj.isFreed_of_fields (Obj.data_mapFields hd _))) ⟨(km _ _ (ci ne)).trans (Heap.get?_push_size _ (fr dT)),dT,t3,ne,nw.1,nw.2⟩)
theorem vE{E:Value->Shared->Prop}(c:jM C A s.heap d n i L)(he:s.heap.get? e=some x)(t:e ∉ d)(u:C.G.get? e=none)(hd:x.data= .fields B)(v:1<B.size) (h:∀l T D F,cY C d (bP (n::i)) s.heap l->l.get? e=some (x.mapFields (·.setIfInBounds 1 (.ref T)))->TN C l d e T D F (rawInt L)->Q () {s with heap:=l}):wpAny M A (do let a <- frameOf n;let y <- entryPlaceOf L o;let b <- EntryCells.newEntry p a .none (rawInt L) .none y;setField (.ref e) 1 b) Q E s:=aM (wpAny_frameOf_fun c.fr c.ff c.f fun z k=>aM (wpAny_entryPlaceOf fun y q=>aM (wpAny_newObj_type (y7 c k he t u hd v rfl (y8 p L q) fun l T=>h l T _ _) (q.sizeOk5 _ _ _ _ _))))
theorem Jc(b:AF C h a e f k g)(he:l.get? e=some {cls:=.ref (C.ca Bu),dict:=some f,data:=.fields c,slots:=g})(hz:c.size=k.size):AF C l a e f c g:=⟨he,b.nk,b.nG,hz▸b.sz⟩
theorem jM.put{s:Shared}(c:jM C A s.heap l u n L){T:Addr}(o:TN C s.heap l e T B x D)(f:Obj->Obj):jM C A (s.heap.update T f) l u n L:=by have p:cY C l (bP (u::n)) s.heap (s.heap.update T f):=.update _ o.nk o.nG;refine⟨c.fr,c.ff.of_keeps fun b t hb v=>⟨t,(km _ _ fun q=>?_).trans hb,rfl⟩,c.f,fun a m=>(c.k a m).elim fun t q=>(p.slots a m t q).elim fun _ z=>⟨_,z⟩,fun b t g=>p.base b t g (c.g b t g),c.i⟩;rw[<- q,o.hT]at hb;exact v x (e9 hb▸o.dT)
theorem ql{E:Value->Shared->Prop}(c:jM C A s.heap d env k L)(x:K4 C s.heap d L e dx b) (h:∀h' vs sl T oT ts,cY C d (bP (env::k)) s.heap h'->AF C h' d e dx vs sl->vs[1]?=some (.ref T)->TN C h' d e T oT ts (rawInt L)->Q () {s with heap:=h'}):wpAny M A (noteFrame (.ref e) env) Q E s:=by obtain⟨vs,sl,xb,tb⟩:=x;unfold noteFrame;rw[c.f];have fin:∀{h₀:Heap} {hadNext:Bool} {head:Value},cY C d (bP (env::k)) s.heap h₀->jM C A h₀ d env k L->AF C h₀ d e dx vs sl->wpAny M A (do let a <- frameOf env;let pl <- entryPlaceOf L hadNext;let b <- EntryCells.newEntry head a .none (rawInt L) .none pl;setField (.ref e) 1 b) Q E {s with heap:=h₀}:=fun n₀ c₀ i=>vE (s:={s with heap:=_}) c₀ i.he i.nk i.nG rfl i.sz fun h' T oT ts n g tn=>h h' _ sl T oT ts (n₀.trans n) (Jc i g (by simp)) (by simp[i.sz]) tn;cases tb with|new h1=>exact aM (wpAny_field xb.he rfl h1 (fin (.refl ..) c xb))|old v1 o h5=>
  rename_i T oT ts fl;refine aM (wpAny_field xb.he rfl v1 (aM (wpAny_field o.hT o.dT o.t3 ?_)));by_cases q:(fl==rawInt L)=true
  ·rw[au q];exact aX (h s.heap vs sl T oT ts (.refl ..) xb v1 (beq_iff_eq.mp q▸o))
  ·rw[aH q];exact aM (wpAny_setField o.hT o.dT (Array.getElem?_eq_some_iff.mp o.t3).1 (fin (.update _ o.nk o.nG) (c.put o _) ⟨(km _ _ o.ne).trans xb.he,xb.nk,xb.nG,xb.sz⟩))
theorem mJ{E:Value->Shared->Prop}{T:Addr}(j:AF C s.heap d e v n w)(x:n[1]?=some (.ref T))(o:TN C s.heap d e T p q B)(y:List Addr) (h:∀l p q,cY C d y s.heap l->AF C l d e v n w->TN C l d e T p q (f.elim .none fun a=>rawInt a)->Q () {s with heap:=l}):wpAny M A (setFlight (.ref e) f) Q E s:=by have i:=(Array.getElem?_eq_some_iff.mp o.t3).1;unfold setFlight;refine aM (wpAny_field j.he rfl x ?_);rw[au (show(Value.ref T !=Value.none)=true from by simp)];exact wpAny_setField o.hT o.dT i (h _ _ _ (.update _ o.nk o.nG) ⟨(km _ _ o.ne).trans j.he,j.nk,j.nG,j.sz⟩ ⟨uI _ o.hT (Obj.isFreed_of_fields (Obj.data_mapFields o.dT _)),Obj.data_mapFields o.dT _,by simp[i],o.ne,o.nk,o.nG⟩)
noncomputable def Sg.after (s:Sg)(h:Heap):Sg:={s with frs:=s.frs.map fun f=>(f.1,f.2.1,(h.get? f.2.1).getD f.2.2)}
theorem j3 (s:Sg)(h:Heap):(s.after h).keys=s.keys:=by
 unfold Sg.keys Sg.news Sg.after Sg.rest;simp only[bZ,fQ]
 rfl
theorem eQ.mem (h:eQ C k A f t s)(m:a∈t.keys):∃o,s.heap.get? a=some o:=by obtain⟨p,e,rfl⟩:=zF m;exact⟨_,(h.news p e).1⟩
theorem eQ.addrs (h:eQ C k A m t s):bP (t.frs.map (·.1))=t.frs.map (·.2.1):=by
 have:=h.fok
 revert this;generalize t.frs=l;intro q;unfold bP;induction l with
 |nil=>rfl|cons f r i=>
  rw[iE,List.filterMap_cons,(q f (.head _)).2.1];show f.2.1::_=_;rw[i fun g j=>q g (.tail _ j)]
  rfl
theorem eQ.funFrames (h:eQ C k A D t s):s.heap.FunFrames C.G (t.frs.map (·.1)):=by
 have o:∀f∈t.frs,s.heap.get? f.2.1=some f.2.2/\C.G.get? f.2.1=none:=fun f hf=>h.news f.2 (sx _ (e7 hf));have hq:=h.fok
 revert o hq;generalize t.frs=l;intro o hq;induction l with|nil=>trivial|cons f r u=>
  refine(hq f (.head _)).elim fun v w=>w.elim fun x y=>y.elim fun F z=>z.elim fun n B=>?_;have q:=o f (.head _);exact⟨by rw[v];decide,⟨f.2.1,f.2.2,x,q.2,q.1,fun H e=>by rw[B]at e;cases e⟩,u (fun g p=>o g (.tail _ p)) fun g p=>hq g (.tail _ p)⟩
theorem eQ.noted(h:eQ C k A ms t s)(n:cY C j (t.frs.map (·.2.1)) s.heap y)(hk:∀a∈t.keys,a∈j):t.le (t.after y)/\eQ C k A ms (t.after y) {s with heap:=y}:=by
 have I:∀f∈t.frs,∃N,y.get? f.2.1=some {f.2.2 with slots:=N}:=fun f hf=>by
  have m:f.2∈t.news:=sx _ (e7 hf);exact n.slots _ (hk _ (e7 m)) _ (h.news _ m).1
 have J:∀f∈t.frs,((y.get? f.2.1).getD f.2.2).data=f.2.2.data:=fun f hf=>by obtain⟨N,e⟩:=I f hf;rw[e];rfl
 have H:t.le (t.after y):=by
  refine⟨?_,fun _ _ e=>e,fun _ e=>e,rfl⟩;show t.frs.map oa=(t.frs.map _).map oa;rw[fQ];refine uL fun f hf=>?_;show(f.1,f.2.1,f.2.2.data)=(f.1,f.2.1,_);rw[<- J f hf]
 have D:=h.nd;unfold Sg.news at D;rw[bZ,qB]at D;refine⟨H,⟨fun b o e=>n.base b o e (h.keep b o e),bR h.sz n.size,fun p K=>?_,by have:=j3 t y;unfold Sg.keys at this;rw[this];exact h.nd,?_,fun f hf=>?_,h.room,h.gens,h.os,h.len,fun l o r e1 e2=>(h.reps l o r e1 e2).le H.sub,h.tabs.of rfl fun _ q=>q⟩⟩
 ·rcases zG K with K|K
  ·obtain⟨g,M,rfl⟩:=zF K;obtain⟨f,hf,rfl⟩:=zF M;obtain⟨N,e⟩:=I f hf;refine⟨?_,(h.news f.2 (sx _ (e7 hf))).2⟩;show y.get? f.2.1=some ((y.get? f.2.1).getD f.2.2);rw[e]
   rfl
  ·have L:p∈t.rest:=K;have m:p∈t.news:=iD _ L;refine⟨(n.same p.1 (hk _ (e7 m)) fun hm=>?_).trans (h.news p m).1,(h.news p m).2⟩;obtain⟨f,hf,e⟩:=zF hm;exact D.2.2 p.1 (e▸e7 (e7 hf)) p.1 (e7 L) rfl
 ·rw[h.st];show _=some ((t.frs.map _).map _);rw[fQ]
  rfl
 ·obtain⟨g,M,rfl⟩:=zF hf;obtain⟨q1,q2,es,m,q3⟩:=h.fok g M;exact⟨q1,q2,es,m,(J g M).trans q3⟩
theorem Ok.st' (b:Ok C k a x d e t m s)(hc:a.cp=false):x.A.frames=some (x.env a::t.frs.map (·.1)):=by rw[b.st,hc];rfl
theorem Ok.noL (a:Ok C k c x d f t m s):x.L ∉ t.keys:=fun q=>by
 obtain⟨p,b,e⟩:=zF q;exact(a.N p b).2.1 e
theorem Ok.ctx (n:Ok C k p x z B t m s)(hc:p.cp=false):jM C x.A s.heap (x.L::t.keys) (x.env p) (t.frs.map (·.1)) x.L:=by obtain⟨o,D,r⟩:=n.toC;rw[Sg.up_f hc]at r;have v:bP (x.env p::t.frs.map (·.1))=x.L::t.frs.map (·.2.1):=r.addrs;refine⟨n.st' hc,r.funFrames,n.hfr hc,fun a m=>r.mem (show a∈ (t.push (x.env p) x.L o).keys from m),n.F.keep,fun a q=>?_⟩;rw[v]at q;exact(zC q).elim (fun e=>e▸ .head _) fun q=>(zF q).elim fun f hf=>.tail _ (hf.2▸e7 (sx _ (e7 hf.1)))
theorem Ok.addrs (c:Ok C k a x e f t m s)(hc:a.cp=false):bP (x.env a::t.frs.map (·.1))=x.L::t.frs.map (·.2.1):=by obtain⟨o,g,b⟩:=c.toC;rw[Sg.up_f hc]at b;exact b.addrs
theorem TN.more{T:Addr}(o:TN C h c e T d f g)(q:∀a∈b,a∈c):TN C h b e T d f g:=⟨o.hT,o.dT,o.t3,o.ne,fun i=>o.nk (q _ i),o.nG⟩
theorem AF.more(o:AF C h c e d f g)(q:∀a∈b,a∈c):AF C h b e d f g:=⟨o.he,fun i=>o.nk (q _ i),o.nG,o.sz⟩
theorem ot{E:Value->Shared->Prop}(h:Ap C k D x mf U t m z e s)(hA:x.A=A.deeper (x.env D))(G:A.frames=some (t.frs.map (·.1)))(hr:iN (k+1) A) (hQ:∀d H,t.le d->eQ C (k+1) A U d H->(∀L,pN C d d.keys L z e H false)->Q () H):wpAny M x.A (leaving (x.env D) (.ref e)) Q E s:=by
 obtain⟨c,⟨b,dx,x1,x2⟩,hc⟩:=h;obtain⟨o,ho,oc⟩:=c.toC;unfold leaving;refine aM (ql (c.ctx hc) x1 fun h' vs sl T oT ts nt xb X tn=>?_);refine mJ (C:=C) (s:={s with heap:=h'}) (f:=none) xb X tn (bP (x.env D::t.frs.map (·.1))) fun i oT' ts' I J K=>?_;have v:=nt.trans I;rw[c.addrs hc]at v
 ;have P:eQ C (k+1) A U t s:=⟨c.F.keep,oc.sz,fun p hp=>⟨(c.N p hp).1,(c.N p hp).2.2⟩,c.nd,G,c.fok,hr,c.gens,c.os,c.len,c.reps,c.tabs⟩;have n2:cY C t.keys (t.frs.map (·.2.1)) s.heap i:=⟨v.base,fun a B na=>v.same a (.tail _ B) fun q=>(zC q).elim (fun q=>c.noL (q▸B)) na,fun a B o q=>v.slots a (.tail _ B) o q,v.size⟩;obtain⟨y,r⟩:=P.noted n2 fun _ q=>q;have tl:∀a∈ (t.after i).keys,a∈x.L::t.keys:=fun a q=>.tail _ (j3 t i▸q);exact hQ _ _ y r fun L=>⟨dx,⟨vs,sl,J.more tl,.old X (K.more tl) (.inl rfl)⟩,x2.le y.sub⟩
noncomputable abbrev Cx.fi (C:Cx)(i j:Nat):FI:=⟨ae i j,dN i j++".<locals>.",some (C.fa i j),C.cdv i j,false⟩
noncomputable abbrev dL (i j:Nat):List Str:=(eK i j).args.map (·.arg)
noncomputable def Sg.none:Sg:=⟨[],[],[],[],[]⟩
theorem Sg.none_sub (s:Sg):Sg.none.sub s:=⟨fun l a e=>by simp[Sg.none,Sg.adr]at e,fun q h=>by simp[Sg.none]at h⟩
theorem VRs.append(h:VRs C s b c)(f:VRs C s d e):VRs C s (b++d) (c++e):=VRs.ind (P:=fun b c=>VRs C s (b++d) (c++e)) f (fun v u b c a _ g=>.cons a g) _ _ h
theorem VRs.length(h:VRs C s a b):a.length=b.length:=VRs.ind (P:=fun a b=>a.length=b.length) rfl (fun v u a b _ _ c=>congrArg (· +1) c) _ _ h
theorem VR.tup(h:C.has s a {cls:=.type "tuple",data:=.seq e.toArray n})(r:VRs C s f e)(hl:f.length<=1000000):VR C s (.tup f) (.ref a):=⟨e,⟨r.length▸hl,a,n,rfl,h⟩,r⟩
theorem VRs.zip_lookup(h:VRs C s g i):∀d:List Str,(d.zip g).lookup y=some v->∃u,(d.zip i).lookup y=some u/\VR C s v u:=VRs.ind (P:=fun g i=>∀d:List Str,(d.zip g).lookup y=some v->∃u,(d.zip i).lookup y=some u/\VR C s v u) (fun d e=>by simp at e) (fun w u g i a _ j d=>by
  cases d with|nil=>exact fun e=>by cases e|cons n d=>
   rw[uC,uC,gZ,gZ];cases y==n with|true=>exact fun e=>⟨u,rfl,e9 e▸a⟩|false=>exact j d) _ _ h
theorem pC{s t:Type} [BEq s](y:s)(a b:List (s×t)):(a++b).lookup y=(a.lookup y).or (b.lookup y):=by induction a with
 |nil=>rfl|cons p a e=>
  rw[sA,gZ,gZ,e];cases y==p.1<;>rfl
theorem fL{s t:Type} [BEq s] [LawfulBEq s]{y:s}(l:List (s×t)):y ∉ l.map (·.1)->l.lookup y=none:=by induction l with|nil=>exact fun _=>rfl|cons p r b=>
  intro h;rw[gZ,jt fun e=>h (show y∈p.1::r.map (·.1)from List.mem_cons.mpr (.inl e))];exact b fun q=>h (.tail _ q)
theorem oy{s t:Type} [BEq s] [LawfulBEq s](y:s)(l:List (s×t)):(l.map (·.1)).Nodup->l.reverse.lookup y=l.lookup y:=by induction l with
 |nil=>exact fun _=>rfl|cons p r c=>
  intro h;have h:=List.nodup_cons.mp h;rw[uK,pC,c h.2,gZ,gZ];cases q:y==p.1 with|true=>rw[bh q,fL r h.1];rfl|false=>exact Option.or_none
theorem uN{s t:Type}(a:List s):∀b:List t,a.length=b.length->(a.zip b).map (·.1)=a:=fun b h=>List.map_fst_zip (iG h)
noncomputable def Fl.out (f:Fl):V:=f.casesOn .none .none .none id
noncomputable def bF (o:Except Int Fl):Except Int V:=o.casesOn .error fun f=>.ok f.out
noncomputable def az{s:Type}(n:Nat)(v:s):List (Nat×s)->List (Nat×s)| []=>[(n,v)]|(a,b)::r=>if(a==n)=true then(a,v)::r else(a,b)::az n v r
theorem jg(n:Nat)(v:s)(y:Nat)(l:List (Nat×s)):(az n v l).lookup y=if y=n then some v else l.lookup y:=by induction l with
 |nil=>
  show List.lookup y [(n,v)]=_;rw[gZ];by_cases h:y=n
  ·rw[au h,h,jK]
  ·rw[aH h,jt h]|cons p r a=>
  show(if(p.1==n)=true then(p.1,v)::r else p::az n v r).lookup y=_;by_cases h:(p.1==n)=true
  ·rw[au h,gZ,gZ,bh h];by_cases q:y=n
   ·rw[au q,q,jK]
   ·rw[aH q,jt q]
  ·rw[aH h,gZ,gZ,a];by_cases q:y=p.1
   ·rw[q,jK];exact(aH fun e=>h (beq_iff_eq.mpr e)).symm
   ·rw[jt q]
noncomputable abbrev MF.set (b:MF)(n:Nat)(v:V):MF:=⟨az n v b.vars,b.cells⟩
theorem Ok.setVar(h:Ok C k o x p A d m s)(g:aO n=true)(F:Fr C.G x.L a (fun y=>if y=n then some u else m y))(N:News C.G x.L a d.news)(r:VR C d v u):Ok C k o x (p.set (aL n) v) A d (fun y=>if y=n then some u else m y) {s with heap:=a,toks:=t}:=⟨F,N,h.nd,h.st,h.hfr,h.kd,h.fok,h.room,h.gens,h.os,fun y w i e=>by
  rw[jg]at e;by_cases q:y=n
  ·subst q;rw[au rfl]at e;cases e;exact⟨u,au rfl,r⟩
  ·rw[aH (fun z=>q (fV i g z))]at e;obtain⟨z,I,J⟩:=h.vars y w i e;exact⟨z,by rw[aH q];exact I,J⟩,h.cells,h.len,h.reps,h.tabs⟩
theorem g8{E:Value->Shared->Prop}(h:Ok C k a x d e t m s)(g:aO n=true)(hk:a.scope.names.lookup n=some .local)(r:VR C t v u) (q:∀f b,Ok C k a x (d.set (aL n) v) e t f b->Q () b):wpAny M x.A (storeName (x.env a) n u) Q E s:=wpAny_storeName_local (env:=x.env a) hk h.F.ns (fun j i c=>q _ _ (h.setVar g (h.F.set i c) (h.N.set c) r)) (by
  show(a.scope.kind== .class||(a.scope.kind== .module&&x.L !=mainGlobals))=false;rw[h.kd];rfl)
theorem yN:dZ C k d a b [] (.ok .next) a b:=bO.ok fun x t m s h Q E q=>wpAny_execs_nil (q t m s _ (.refl _) h rfl)
theorem ve{i:Stmt}(n:d3 C k j p t i (.ok .next) c d)(u:dZ C k j c d b o f g):dZ C k j p t (i::b) o f g:=fun x y m s h Q E q e=>wJ (n.go h fun v z A a w l r=>by
  cases (show a= .next from r);exact u.thru w l q e)
theorem j2{g:Stmt}(j:d3 C k l n o g (.ok f) c d)(hf:f≠ .next):dZ C k l n o (g::i) (.ok f) c d:=bO.ok fun x z m s h Q E q=>wJ (j.go h fun e p t a w b r=>by
  have:=q e p t a w b r;cases a with|next=>exact(hf (by cases f with|next=>rfl|ret v=>exact r.elim fun u h=>nomatch h.1|brk=>exact nomatch r|cont=>exact nomatch r)).elim|_=>exact this)
theorem yM{d:Stmt}(f:d3 C k g i j d (.error z) b c):dZ C k g i j (d::e) (.error z) b c:=bO.err fun x t m s h Q E q=>wJ (f.goE h q)
theorem s7(i:ax C k j g l e (.ok v) d):d3 C k j g l (.Return (some e) n) (.ok (.ret v)) g d:=bO.ok fun x w m s h Q E q=>wpAny_Return_some (i.go h fun f p t a u b r=>q f p t _ u b ⟨_,rfl,r⟩)
theorem mR(f:ax C k g d i e (.error z) c):d3 C k g d i (.Return (some e) j) (.error z) d c:=bO.err fun x t m s h Q E q=>wpAny_Return_some (f.goE h q)
theorem lj:d3 C k g b c (.Return none d) (.ok (.ret .none)) b c:=bO.ok fun x t m s h Q E q=>wpAny_Return_none (q t m s _ (.refl _) h ⟨_,rfl,.none⟩)
theorem pq:d3 C k g c d (.Continue e) (.ok .cont) c d:=bO.ok fun x t m s h Q E q=>wpAny_Continue (q t m s _ (.refl _) h rfl)
theorem eX{x:Fx}(hk:c.scope.kind= .function):interactive (x.env c)=false:=by unfold interactive;show(c.scope.kind== .module&&_)=false;rw[hk];rfl
theorem yL(n:ax C k g i o e (.ok v) c)(p:∀x:Fx,swapsWith e none d.line (x.env g)=pure false):d3 C k g i o (.Expr e d) (.ok .next) i c:=bO.ok fun x t m s h Q E q=>wpAny_Expr_any (n.go h fun f u w a y b r=>q f u w _ y b rfl) (eX h.kd) (p _)
theorem pt(i:ax C k c d j e (.error z) a)(l:∀x:Fx,swapsWith e none b.line (x.env c)=pure false):d3 C k c d j (.Expr e b) (.error z) d a:=bO.err fun x t m s h Q E q=>wpAny_Expr_any (i.goE h q) (eX h.kd) (l _)
theorem wS(p:cy C k j l t d (.ok b) f)(u:dZ C k j l f (if b then e else c) o g i):d3 C k j l t (.If d e c v) o g i:=fun x G m s h Q E q w=>wpAny_If (p.go h fun y D F a z n r=>by
  rw[show a=b from r];have:=u.thru z n q w;cases b with|true=>exact this|false=>exact this)
theorem Ok.noted(l:Ok C k g x u v σ m s)(hc:g.cp=false)(n:cY C (x.L::σ.keys) (x.L::σ.frs.map (·.2.1)) s.heap w):∃d,σ.le d/\d.keys=σ.keys/\Ok C k g x u v d m {s with heap:=w}:=by
 obtain⟨o,y,z⟩:=l.toC;have h:=Sg.up_f (σ:=σ) (x:=x) (o:=o) hc;have i:(σ.up g x o).frs.map (·.2.1)=x.L::σ.frs.map (·.2.1):=by rw[h];rfl
 obtain⟨p,r⟩:=eQ.noted z (i▸n) fun a q=>by rw[h]at q;exact q
 obtain⟨j,D,e,a,b⟩:=eQ.back l y p r;refine⟨j,a,?_,b⟩;have t:=congrArg Sg.keys e;rw[j3,h,Sg.up_f hc]at t;exact(kr t).2.symm
structure nH (C:Cx)(k:Nat)(fi:FI)(x:Fx)(mf:MF)(ms:MS)(σ:Sg)(m:Str->Option Value)(z:Int)(e:Addr)(s:Shared):Prop where
 ok:Ok C k fi x mf ms σ m s
 ex:pN C σ (x.L::σ.keys) x.L z e s false
 hc:fi.cp=false
theorem nH.exc (h:nH C k a x b c t m z e s):Ap C k a x b c t m z e s:=⟨h.1,⟨_,h.2⟩,h.3⟩
theorem xu(g:Ok C k c x o p q m s)(hc:c.cp=false){T:Addr}(h:cY C (x.L::q.keys) (bP (x.env c::q.frs.map (·.1))) s.heap d)(r:AF C d (x.L::q.keys) e i j t)(u:j[1]?=some (.ref T)) (w:TN C d (x.L::q.keys) e T D F l) (hf:l= .none\/l=rawInt x.L) (y:AG C q z i):∃a,q.le a/\nH C k c x o p a m z e {s with heap:=d}:=by rw[g.addrs hc]at h;obtain⟨a,b,n,f⟩:=g.noted hc h;exact⟨a,b,f,⟨i,⟨j,t,n▸r,.old u (n▸w) hf⟩,y.le b.sub⟩,hc⟩
theorem xK{E:Value->Shared->Prop}(h:Ap C k c x g i w m z e s)(hQ:∀a d,w.le a->nH C k c x g i a m z e d->Q () d):wpAny M x.A (noteFrame (.ref e) (x.env c)) Q E s:=h.exc.elim fun b n=>n.elim fun y f=>ql (h.ok.ctx h.hc) f.1 fun B D F T G H r t u v=>(xu h.ok h.hc r t u v (.inr rfl) f.2).elim fun j q=>hQ j _ q.1 q.2
theorem lQ{E:Value->Shared->Prop}(h:nH C k d x j l n m z e s)(f:Option Addr)(hf:f=none\/f=some x.L)(hQ:∀b g,n.le b->nH C k d x j l b m z e g->Q () g):wpAny M A (setFlight (.ref e) f) Q E s:=by refine h.ex.elim fun H p=>p.elim fun r t=>r.elim fun I u=>u.elim fun J v=>v.elim fun w tb=>?_;cases tb with|old i o K=>
  have y:(f.elim .none fun a=>rawInt a)=Value.none\/(f.elim .none fun a=>rawInt a)=rawInt x.L:=hf.imp (fun q:f=none=>by rw[q];rfl) fun q:f=some x.L=>by rw[q];rfl
  exact mJ w i o (bP (x.env d::n.frs.map (·.1))) fun N P R D c F=>(xu h.ok h.hc D c i F y t).elim fun G q=>hQ G _ q.1 q.2
theorem EN{E:Value->Shared->Prop}(h:nH C k c x f g t m z e s)(hQ:∀a d,t.le a->nH C k c x f g a m z e d->E (.ref e) d):cameBackBy M x.A (x.env c) E (.ref e) s:=by unfold cameBackBy;refine h.ex.elim fun v j=>j.elim fun l w=>l.elim fun y n=>n.elim fun B p=>p.elim fun q tb=>?_;cases tb with|old r o D=>
  refine aM (wpAny_field q.he rfl r ?_);rw[aH (by simp)];exact lQ h _ (.inr (h.ok.hfr h.hc)) hQ
def Nk (C:Cx)(k:Nat)(j:FI)(p:MF)(q:MS)(c:Fx->Code)(o:Except Int Fl)(g:MF)(h:MS):Prop:=∀x t m s,Ok C k j x p q t m s->∀R:Result->Shared->Prop,(∀f,o= .ok f->∀b l i a,t.le b->Ok C k j x g h b l i->IB C b f a->R (.ok a) i)->(∀z,o= .error z->∀b l i e,t.le b->nH C k j x g h b l z e i->R (.error (.ref e)) i)->codeAny (model C.prog C.w) x.A (c x) R s
abbrev vk (C:Cx)(k:Nat)(e:FI)(f:MF)(g:MS)(a:Expr)(b:List Stmt)(o:Except Int Fl)(c:MF)(d:MS):Prop:=Nk C k e f g (fun x=>.whileLoop a b [] (x.env e)) o c d
theorem o7 (h:wpAny (model a w) A (isTrue d c (eval d c)) (fun b k=>if b then wpAny (model a w) A (execs l c) (fun f g=>match f with| .next| .cont=>codeAny (model a w) A (.whileLoop d l [] c) R g| .brk=>R (.ok .next) g| .ret v=>R (.ok (.ret v)) g) (notedBy (model a w) A c fun e m=>R (.error e) m) k else R (.ok .next) k) (notedBy (model a w) A c fun e m=>R (.error e) m) s):codeAny (model a w) A (.whileLoop d l [] c) R s:=by
 refine qG ?_;show wpAny _ A ((whileTurn d l [] c).onRaise (fun x=>do noteFrame x c;theTreesLotGoes x)) _ _ s;refine wpAny_noted ?_;simp only[whileTurn];refine aM (e8 h (fun b k i=>?_) fun _ _ n=>n);cases b with
 |false=>
  simp only[Bool.false_eq_true,if_false]at i ⊢;exact aM (wpAny_execs_nil (aX i))|true=>
  simp only[if_true]at i ⊢;refine aM (e8 i (fun f g j=>?_) fun _ _ n=>n);cases f with|next=>exact aX ⟨rfl,j⟩|cont=>exact aX ⟨rfl,j⟩|brk=>exact aX j|ret v=>exact aX j
theorem vl(j:cy C k l g n b (.ok false) d):vk C k l g n b i (.ok .next) g d:=fun x u m s h R q e=>o7 (j.go h fun f o p a t c r=>by
  rw[show a=false from r,aH (by decide)];exact q _ rfl f o p _ t c rfl)
theorem lw(M:cy C k j J N d (.ok true) y)(P:dZ C k j B y g o n p)(Q:B=J)(h:Ok C k j x J N t m s) (q:∀f,o= .ok f->∀b u i a,t.le b->Ok C k j x n p b u i->IB C b f a->match a with
   | .next| .cont=>codeAny (model C.prog C.w) x.A (.whileLoop d g [] (x.env j)) R i| .brk=>R (.ok .next) i| .ret v=>R (.ok (.ret v)) i) (qe:∀z,o= .error z->∀b u i e,t.le b->nH C k j x n p b u z e i->R (.error (.ref e)) i):codeAny (model C.prog C.w) x.A (.whileLoop d g [] (x.env j)) R s:=o7 (M.go h fun b u i a D l r=>by
  rw[show a=true from r,au rfl];exact P.thru D (Q▸l) q fun z ez σ2 m2 s2 a2 l2 ex=>xK ex fun H s3 I hh=>qe z ez H m2 s3 a2 (l2.trans I) hh)
theorem pX(L:cy C k i H M b (.ok true) n)(N:dZ C k i H n c (.ok f) p t)(hf:f= .next\/f= .cont)(P:vk C k i p t b c o u v):vk C k i H M b c o u v:=fun x d m s h R q e=>lw L N rfl h (fun X y B Q I a J j r=>by
  have next:codeAny (model C.prog C.w) x.A (.whileLoop b c [] (x.env i)) R I:=P x B Q I j R (fun f y g D F a l=>q f y g D F a (J.trans l)) (fun z G g D F a l=>e z G g D F a (J.trans l));rw[<- sF y]at r;rcases hf with hf|hf<;>rw[hf]at r<;>(rw[show a=_ from r];exact next)) (fun z G=>nomatch G)
theorem A8(t:cy C k o p w b (.ok true) g)(y:dZ C k o p g d (.ok (.ret v)) j l):vk C k o p w b d (.ok (.ret v)) j l:=fun x i m s h R q e=>lw t y rfl h (fun f A n B D a F c r=>by
  rw[<- sF A]at r;have:=q _ rfl n B D a F c r;obtain⟨u,G,I⟩:=r;rw[G]at this ⊢;exact this) (fun z H=>nomatch H)
theorem A7(n:cy C k j l o b (.ok true) d)(p:dZ C k j l d c (.error z) g i):vk C k j l o b c (.error z) g i:=fun x u m s h R q e=>lw n p rfl h (fun f r=>nomatch r) fun v t=>Except.error.inj t▸e z rfl
theorem vd(h:vk C k p r t b c o f g):d3 C k p r t (.While b c [] u) o f g:=fun x G m s i Q E q e=>wpAny_While (h x G m s i _ q (fun z v w y D a A B=>EN B fun d j l n=>e z v d y j a (A.trans l) n.exc))
noncomputable def rp (d:Addr)(a:Obj)(p:Addr×Obj):Addr×Obj:=if p.1=d then(d,a)else p
theorem x4 (d:Addr)(a:Obj)(l:List (Addr×Obj)):(l.map (rp d a)).map (·.1)=l.map (·.1):=by
 rw[fQ];refine uL fun p _=>?_;show(if p.1=d then(d,a)else p).1=p.1
 split
 ·exact Eq.symm ‹_›
 ·rfl
theorem oP(l:List (Addr×Obj))(h:d ∉ l.map (·.1)):l.map (rp d b)=l:=(uL fun p a=>aH fun e:p.1=d=>h (List.mem_map.mpr ⟨p,a,e⟩)).trans (List.map_id _)
theorem wF(l:List (Addr×Obj)):(l.map (·.1)).Nodup->(d,o)∈l->Upd d o o' l (l.map (rp d o')):=by induction l with|nil=>exact fun _ h=>nomatch h|cons p r k=>
  intro c f;have c:=List.nodup_cons.mp c;rcases zC f with e|f
  ·have i:d=p.1:=congrArg Prod.fst e;rw[<- e,iE,oP r (by rw[i];exact c.1),show rp d o' (d,o)=(d,o')from au rfl];exact .head fun q hq m=>c.1 (List.mem_map.mpr ⟨q,hq,m.trans i⟩)
  ·have j:p.1≠d:=fun e=>c.1 (List.mem_map.mpr ⟨_,f,e.symm⟩);rw[iE,show rp d o' p=p from aH j];exact .tail j (k c.2 f)
theorem tT{l:List iM}{i:Nat}(e:l[i]?=some r)(hd:d∈r.objs.map (·.1)):d∈ (l.flatMap iM.objs).map (·.1):=(zF hd).elim fun p h=>List.mem_map.mpr ⟨p,List.mem_flatMap.mpr ⟨r,uz e,h.1⟩,h.2⟩
theorem Ch(hr:n.objs=r.objs.map (rp d o))(hd:d∈r.objs.map (·.1))(l:List iM):∀i:Nat,l[i]?=some r->((l.flatMap iM.objs).map (·.1)).Nodup->(l.set i n).flatMap iM.objs=(l.flatMap iM.objs).map (rp d o):=by induction l with
 |nil=>exact fun i h=>nomatch h|cons a l q=>
  intro i h k;rw[List.flatMap_cons,bZ,qB]at k;rw[List.flatMap_cons,bZ];cases i with|zero=>rw[List.set_cons_zero,List.flatMap_cons,hr,e9 h,oP (l.flatMap iM.objs) fun e=>k.2.2 d (e9 h▸hd) d e rfl]|succ i=>rw[List.set_cons_succ,List.flatMap_cons,q i h k.2.1,oP a.objs fun e=>k.2.2 d e d (tT (l:=l) h hd) rfl]
theorem Ok.lt (h:Ok C k d x e f t m s)(q:a∈t.keys):a<s.heap.objs.size:=(zF q).elim fun p c=>c.2▸jL (h.N p c.1).1
theorem Ok.fresh (h:Ok C k c x d f t m s){a:Addr}(q:s.heap.objs.size<=a):a ∉ t.keys:=fun e=>o8 _ (k9 (h.lt e) q)
theorem Ok.stepT (h:Ok C k H x I R z m s)(l:z.sub c)(q:c.frs=z.frs)(tb:pY C c)(F:Fr C.G x.L w m)(N:News C.G x.L w c.news)(J:(c.news.map (·.1)).Nodup)(i:c.reps.length=d.length) (b:∀(l:Nat) (o:ah) (r:iM),d[l]?=some o->c.reps[l]?=some r->iV C c o r):Ok C k H x I d c m {s with heap:=w,toks:=t}:=⟨F,N,J,by rw[q];exact h.st,h.hfr,h.kd,by rw[q];exact h.fok,h.room,h.gens,h.os,fun n v g e=>(h.vars n v g e).imp fun u=>fo (VR.sub l),fun n j g e=>(h.cells n j g e).imp fun a=>fo (l.adr _ _),i,b,tb⟩
theorem Ok.step (h:Ok C k j x n y w m s)(l:w.sub z)(p:z.frs=w.frs)(q:z.tabs=w.tabs)(F:Fr C.G x.L f m)(N:News C.G x.L f z.news)(u:(z.news.map (·.1)).Nodup)(e:z.reps.length=d.length) (a:∀(l:Nat) (o:ah) (r:iM),d[l]?=some o->z.reps[l]?=some r->iV C z o r):Ok C k j x n d z m {s with heap:=f,toks:=t}:=h.stepT l p (h.tabs.of q l.imm) F N u e a
theorem we{s:Sg}(j:(l.map (·.1)).Nodup)(k:(s.news.map (·.1)).Nodup)(m:∀p∈l,p.1 ∉ s.keys):((l++s.news).map (·.1)).Nodup:=by rw[bZ,qB];exact⟨j,k,fun a n b hb e=>(zF n).elim fun p i=>m p i.1 (i.2.trans e▸hb)⟩
theorem Ok.put_imm (h:Ok C k A x B D u m s)(F:Fr C.G x.L v m)(N:News C.G x.L v ((a,o)::u.news))(H:a ∉ u.keys):u.le {u with imm:=(a,o)::u.imm}/\Ok C k A x B D {u with imm:=(a,o)::u.imm} m {s with heap:=v,toks:=t}:=by have j:u.le {u with imm:=(a,o)::u.imm}:=⟨rfl,fun _ _ e=>e,fun _ e=>.tail _ e,rfl⟩;have g:(Sg.news {u with imm:=(a,o)::u.imm}).Perm ((a,o)::u.news):=(uH _ (sC)).trans sC;exact⟨j,h.step j.sub rfl rfl F (fun p I=>N p (g.mem_iff.mp I)) ((g.map (·.1)).nodup_iff.mpr (List.nodup_cons.mpr ⟨H,h.nd⟩)) h.len fun l o r K M=>(h.reps l o r K M).le j.sub⟩
theorem Ba{s:Sg}(e:s.adr l=some a):Sg.adr {s with reps:=s.reps++[r]} l=some a:=by
 obtain⟨q,d,f⟩:=Option.map_eq_some_iff.mp e;show((s.reps++[r])[l]?).map _=_;rw[Hw (List.getElem?_eq_some_iff.mp d).1,d,<- f]
 rfl
theorem r8{s:Type}{l:List s}{a b:s}(e:(l++[a])[i]?=some b):l[i]?=some b\/(i=l.length/\a=b):=by
 by_cases q:i<l.length
 ·rw[Hw q]at e;exact .inl e
 ·rw[my (Nat.le_of_not_lt q)]at e;have:=(List.getElem?_eq_some_iff.mp e).1;have z:i=l.length:=Nat.le_antisymm (Nat.le_of_sub_eq_zero (Nat.lt_one_iff.mp this)) (Nat.le_of_not_lt q);rw[z,pL]at e;exact .inr ⟨z,e9 e⟩
theorem Ok.put_rep (h:Ok C k Z x mf P u m s)(F:Fr C.G x.L Q m)(N:News C.G x.L Q (r.objs++u.news))(fr:∀p∈r.objs,p.1 ∉ u.keys)(hn:(r.objs.map (·.1)).Nodup)(rr:iV C u o r):u.le {u with reps:=u.reps++[r]}/\Ok C k Z x mf (P++[o]) {u with reps:=u.reps++[r]} m {s with heap:=Q,toks:=t}/\Sg.adr {u with reps:=u.reps++[r]} P.length=some r.adr:=by
 have w:u.le {u with reps:=u.reps++[r]}:=⟨rfl,fun l a e=>Ba e,fun _ e=>e,rfl⟩;have y:(Sg.news {u with reps:=u.reps++[r]}).Perm (r.objs++u.news):=by
  have e0:(u.reps++[r]).flatMap iM.objs=u.reps.flatMap iM.objs++r.objs:=by rw[List.flatMap_append,List.flatMap_singleton]
  unfold Sg.news Sg.rest;rw[e0,dU];exact(uH _ (Hu ..)).trans (Hu ..)
 refine⟨w,h.step w.sub rfl rfl F (fun p hp=>N p (y.mem_iff.mp hp)) ((y.map (·.1)).nodup_iff.mpr (we hn h.nd fr)) (by rw[aK,aK,h.len];rfl) fun l o' r' B z=>?_,?_⟩
 ·rcases r8 B with B|⟨l1,B⟩
  ·rcases r8 z with z|⟨l2,-⟩
   ·exact(h.reps l o' r' B z).le w.sub
   ·exact absurd (List.getElem?_eq_some_iff.mp B).1 (by rw[l2,h.len];exact o8 _)
  ·rcases r8 z with z|⟨-,z⟩
   ·exact absurd (List.getElem?_eq_some_iff.mp z).1 (by rw[l1,h.len];exact o8 _)
   ·exact B▸z▸rr.le w.sub
 ·show((u.reps++[r])[P.length]?).map _=_;rw[<- h.len,my (cc _),pL]
  rfl
theorem Ok.mem_rep (h:Ok C k f x g i t m s){l:Nat}(e:t.reps[l]?=some r)(d:p∈r.objs):p∈t.news:=iD _ (sx _ (List.mem_flatMap.mpr ⟨r,uz e,d⟩))
theorem Ok.set_news (h:Ok C k t x u v w m s)(e:w.reps[l]?=some r)(hr:n.objs=r.objs.map (rp d o))(hd:d∈r.objs.map (·.1)):Sg.news {w with reps:=w.reps.set l n}=w.news.map (rp d o):=by have g:=h.nd;unfold Sg.news Sg.rest at g ⊢;have j:=tT e hd;rw[bZ,qB]at g;have n2:=g.2.1;rw[bZ,qB]at n2;rw[bZ,bZ,<- Ch hr hd w.reps l e n2.1,oP (w.frs.map (·.2)) fun q=>g.2.2 d q d (by rw[bZ];exact sx _ j) rfl,oP _ fun q=>n2.2.2 d j d q rfl]
theorem wp{s:Type}{l:List s}{a b:s}(e:(l.set i a)[j]?=some b):(i=j/\a=b)\/(i≠j/\l[j]?=some b):=by
 rw[List.getElem?_set]at e;by_cases q:i=j
 ·rw[au q]at e
  split at e
  ·exact .inl ⟨q,e9 e⟩
  ·cases e
 ·rw[aH q]at e;exact .inr ⟨q,e⟩
theorem iz{s:Sg}(e:s.reps[l]?=some r)(g:b.adr=r.adr):s.sub {s with reps:=s.reps.set l b}:=⟨fun c j d=>by
 obtain⟨q,f,h⟩:=Option.map_eq_some_iff.mp d;show((s.reps.set l b)[c]?).map _=_;rw[List.getElem?_set];by_cases z:l=c
 ·rw[au z,au (List.getElem?_eq_some_iff.mp e).1,<- h];rw[<- z,e]at f;rw[<- e9 f,<- g]
  rfl
 ·rw[aH z];exact d,fun _ q=>q⟩
theorem Ok.put_set (h:Ok C k D x H I z m s)(e:z.reps[l]?=some r)(hr:r'.objs=r.objs.map (rp d J))(hd:d∈r.objs.map (·.1)) (K:r'.adr=r.adr) (F:Fr C.G x.L w m) (N:News C.G x.L w (z.news.map (rp d J))) (M:iV C {z with reps:=z.reps.set l r'} om r'):z.le {z with reps:=z.reps.set l r'}/\Ok C k D x H (I.set l om) {z with reps:=z.reps.set l r'} m {s with heap:=w,toks:=t}:=by
 have p:=iz e K;have B:=h.set_news e hr hd;refine⟨⟨rfl,p.adr,p.imm,rfl⟩,h.step p rfl rfl F (B▸N) (by rw[B,x4];exact h.nd) (by rw[sD,sD];exact h.len) fun j o u n f=>?_⟩;rcases wp n with ⟨q,n⟩|⟨q,n⟩
 ·rcases wp f with ⟨-,f⟩|⟨v,-⟩
  ·exact n▸f▸M
  ·exact absurd q v
 ·rcases wp f with ⟨v,-⟩|⟨-,f⟩
  ·exact absurd v q
  ·exact(h.reps j o u n f).le p
section
open PySem PySem.W PySem.Calls PyProof.Rows PySem.Spec Builtin Builtin.ObjectAttr
theorem ER:builtinKind "BaseException.__getattribute__" =some .slot:=by decide+kernel
theorem Bi:splitId "BaseException.__getattribute__" =some ("BaseException","__getattribute__"):=by decide+kernel
theorem Bh:plainId "BaseException.__getattribute__" =true:=by decide+kernel
theorem xr{E:Value->Shared->Prop}{K:Frag}(X:K.In s.heap)(I:InstAt s.heap x ox C od)(hga:findIn K (.ref C) "__getattribute__" =some (some (.builtin "BaseException.__getattribute__")))(hgt:findIn K (.ref C) "__getattr__" =some none) (hm:mroIn K C (.type "BaseException")=some true) (hf:findObj K C od b=some (.value v)) (hv:handedIn v=true) (h:Q v {s with toks:=s.toks+1}):wpAny (model c w) A (getAttr (.ref x) b e) Q E s:=by
 obtain⟨hh',g,d,t,os⟩:=s;have L0:=I.type (M:=model c w);have L1:=looks_findIn (M:=model c w) X hga;have L2:=looks_findIn (M:=model c w) X hgt;have L3:=looks_find (M:=model c w) X I hf;have L4:Looks (model c w) hh' (isInstance (.ref x) (.type "BaseException")) true:=L0.andThen (looks_mroIn X hm);have hx0:(e&&onTheHeap (Value.builtin "BaseException.__getattribute__"))=false:=by cases e<;>rfl
 unfold getAttr getAttrBy;refine aM (wpAny_mkText (iQ (aM (L0.at (aM (L1.at ?_))))));show wpAny _ _ (getAttrByItsOwn (.ref x) (.str b t) (.ref C) (.builtin "BaseException.__getattribute__") true e) _ _ _;unfold getAttrByItsOwn hookBefore callGetattribute boundAndCalled;rw[hx0];refine aM (L2.at (aM (wpAny_attempt (iQ ?_))));refine aM (iR (F.attrBase_ValueError.ga.bind _) ?_);refine wpAny_call (codeAny_call_builtin Bh F.entry_bexc_ga (@check_slot (model c w) _ _ ⟨hh',g,d,t+1,os⟩ "BaseException.__getattribute__" "BaseException" "__getattribute__" (.ref x) [.str b t] [] _ ER Bi L4 (F.args_bexc_ga (.ref x) (.str b t)) ?_));unfold Builtin.«object.__getattribute__»;refine aM (iR (a:=(.ref x,[.str b t])) (by kernel_rfl) ?_);refine aM (iR (a:=b) (by kernel_rfl) ?_);refine aM (L0.at (aM (L3.at ?_)));refine aX ?_;show wpAny _ _ (handedOut v) _ _ _;rw[handedOut_of hv];exact aX h
noncomputable def MG (c:Value):Bool:=match c with| .ref _=>true|_=>false
noncomputable def xR:List Value->Bool| []=>false|c::r=>MG c&&xR r||c::r==[.type "Exception",.type "BaseException",.type "object"]
theorem FR:xR l=true->(∀b,refuseLoop b "__setattr__" l=pure ())/\l.contains (.type "object")=true:=by induction l with
 |nil=>exact fun h=>KT h|cons c r f=>
  refine fun h=>(Bool.or_eq_true_iff.mp (show(MG c&&xR r||c::r==[.type "Exception",.type "BaseException",.type "object"])=true from h)).elim (fun h=>?_) fun h=>?_
  ·have h:=zB h;cases c with
   |ref a=>exact⟨fun b=>(refuseLoop_ref ..).trans ((f h.2).1 b),by rw[wG,(f h.2).2,Bool.or_true]⟩|_=>exact KT h.1
  ·rw[bh h];exact⟨F.store_Exception.passes,by decide+kernel⟩
noncomputable def kS (K:Frag)(C:Addr):Bool:=(clsIn K C).any fun a=>xR a.mro
theorem Ij{s:Shared}{K:Frag}(X:K.In s.heap)(I:InstAt s.heap x ox C od)(hp:kS K C=true)(ht:takerIn K C d=some r) (h:∀b,wpAny (model c w) A.in1 (match r with|some a=>setByDescriptor a (.ref x) v|none=>storeInOwnDict (.ref x) (.ref C) (.str d tk) d v b) (fun fin s'=>match fin with| .done f=>R (.ok f) s'| .again c'=>c'.quiet=true/\codeAny (model c w) A c' R s') (fun e s'=>R (.error e) s') s):codeAny (model c w) A (.call (.builtin "object.__setattr__") ⟨[.ref x,.str d tk,v],[]⟩) R s:=by
 have SF:=PySem.F.store_object;refine(any_some hp).elim fun cd z1=>z1.elim fun hc ho=>?_;obtain⟨p1,p2⟩:=FR ho;have ne:cd.mro.isEmpty=false:=by cases q:cd.mro with
  |nil=>rw[q]at ho;cases ho|cons _ _=>rfl
 have sub:Looks (model c w) s.heap (isInstance (.ref x) (.type "object")) true:=I.type.andThen (looks_mroIn X (by unfold mroIn;rw[hc,Option.bind_some,aH (by rw[ne];decide),p2]));refine codeAny_call_builtin SF.slot.plain SF.entry (@check_slot (model c w) _ _ s "object.__setattr__" "object" "__setattr__" (.ref x) [.str d tk,v] [] _ SF.kind SF.split sub (SF.args (.ref x) (.str d tk) v) ?_);obtain⟨k,ha,hr⟩:=Option.bind_eq_some_iff.mp ht;have hm:Looks (model c w) s.heap (mroOf (.ref C)) cd.mro:=(looks_clsIn X hc).andThen .now;have L3:Looks (model c w) s.heap (storeTaker? k) r:=by cases k with|none=>cases hr;exact .now|some a=>
   obtain⟨b,hb,rfl⟩:=Option.map_eq_some_iff.mp hr;refine(looks_takesIn X hb).andThen ?_;cases b<;>exact .now
 rw[osa_eq,refuse_eq];refine aM (aM (I.type.here (aM (hm.here ?_))));rw[p1];exact aX (aM (I.type.here (aM ((looks_findIn X ha).here (aM (L3.here (h _)))))))
theorem zQ{E:Value->Shared->Prop}{s:Shared}{K:Frag}(F:Fr j L s.heap m)(X₀:K.In j)(N:News j L s.heap news)(I:InstAt s.heap x ox C (some (dictOf es n)))(hd:ox.dict=some dx) (hs:findIn K (.ref C) "__setattr__" =some (some (.builtin "object.__setattr__"))) (hp:kS K C=true) (ht:takerIn K C d=some none) (hh:hasDictIn K C=true) (hl:(getL d es).isSome=true) (e:(putL d (PyData.keyHash w.params d) (.str d (s.toks+1)) v es,putN d es n)=(es',n')) (U:Upd dx (dictOf es n) (dictOf es' n') news news') (hz:es'.length<=1000) (h:∀h',Fr j L h' m->News j L h' news'->Q () {s with heap:=h',toks:=s.toks+2}):wpAny (model prog w) A (setAttr (.ref x) d v) Q E s:=by
 obtain⟨pre,post,rfl,rfl,h1,h2⟩:=U.split;obtain⟨e1,e2⟩:=dE e;refine set_plain (X₀.keeps F.keep) I hs (Ij (s:={s with toks:=s.toks+1}) (X₀.keeps F.keep) I hp ht fun b=>?_);have ef:Obj.putName d (PyData.keyHash w.params d) (.str d (s.toks+1)) v (dictOf es n)=dictOf es' n':=by rw[putName_dict,e1,e2]
 obtain⟨U1,U2⟩:=news_upd (f:=Obj.putName d (PyData.keyHash w.params d) (.str d (s.toks+1)) v) F N h1 h2 ef rfl;have D:=(N (dx,dictOf es n) (iD _ (.head _))).1;have D':=(U2 (dx,dictOf es' n') (iD _ (.head _))).1;refine(any_some hh).elim fun cd z7=>z7.elim fun hc hd'=>?_;obtain⟨hx,hcl,hn,-⟩:=I;obtain⟨oc,odi,oda,osl⟩:=ox
 dsimp only at hcl hd;subst hcl hd;refine aM (aX (aM (aM (wpAny_loadPart hx (aM ((looks_clsIn (h:=s.heap) (X₀.keeps F.keep) hc) _ _ _ _ (fun _ _ e=>e) ?_))))));rw[hd'];refine aX (a:=some dx) (aM (aX (aM ?_)));unfold nsSet;refine aM (aM (wpAny_askSetting (aX (aM (wpAny_mkText (aM (wpAny_loadPart D ?_)))))));have c:(!es.toArray.any (·.key.isStr d)&&es.toArray.any (·.refKey))=false:=by
  rw[<- Array.any_toList,<- Array.any_toList];unfold getL at hl
  split at hl
  ·rename_i en he;rw[List.any_eq_true.mpr ⟨en,List.mem_of_find?_eq_some he,List.find?_some he⟩];rfl
  ·split at hl
   ·cases hl
   ·rename_i z;rw[show es.toArray.toList.any (·.refKey)=false from Bool.not_eq_true _▸z,Bool.and_false]
 dsimp only;rw[aRefKeyMayBeTheName_at,c];refine wpAny_updatePart D ?_;refine aM (wpAny_lookBehind D' (pastItsLine_dict (by rw[wH,sizeLine_eq];exact bR (by assumption) (aP rfl))) ?_);exact aX (h _ U1 U2)
end
inductive T where
 |loc (n:Nat)|cell (n:Nat)|attr (e:E) (f:Nat)|sub (e i:E)|tup (ts:List T)
inductive S where
 |assign (t:T) (e:E)|asgc (n:Nat) (e:E)|swap (ns:List Nat) (e:E)|expr (e:E)|ret (e:List E)|ite (t:E) (a b:List S)|while (t:E) (b:List S)
 |for (t:T) (it:E) (b:List S)|cont|raise (e:E)|try (b:List S) (x:Nat) (h:List Nat)|stuck
structure Fn where
 params:List Nat
 dfl:List V
 cells:List Nat
 body:List S
def av{α:Type}(x:Option α)(P:α->Prop):Prop:=∀r,x=some r->P r
theorem ac{a:s}(h:P a):av (some a) P:=fun r e=>e9 e▸h
theorem af:av (none:Option s) P:=fun r e=>nomatch e
theorem al{s:Type}{x:Option s}{f:s->Option t}(k:∀a,x=some a->av (f a) P):av (x.bind f) P:=fun r e=>(Option.bind_eq_some_iff.mp e).elim fun a h=>k a h.1 r h.2
theorem aB{P:s->Prop}{c:Prop} [Decidable c]{x:Option s}(k:c->av x P):av (if c then x else none) P:=by
 by_cases h:c
 ·rw[au h];exact k h
 ·rw[aH h];exact af
theorem ak{f:s->Option t}(h:av x R)(k:∀a,R a->av (f a) P):av (x.bind f) P:=al fun a e=>k a (h a e)
theorem ya{H:Prop}{R:s->Prop}(k:H->av x R):av x (fun b=>H->R b):=fun r e h=>k h r e
theorem oW{y:Option s}(a:c=true->av x P)(b:c=false->av y P):av (bif c then x else y) P:=by cases c with|true=>exact a rfl|false=>exact b rfl
theorem av.mono{x:Option s}(h:av x P)(k:∀b,P b->Q b):av x Q:=fun r e=>k r (h r e)
noncomputable def jj:Nat:=110425311047777
noncomputable def Mn:Nat:=7368560
noncomputable def oA:Nat:=1852403562
noncomputable def C2:Nat:=111482039922277
noncomputable def C1:Nat:=111482039919972
noncomputable def Od:Nat:=29793
noncomputable def ta:List Nat:=[97,115,99,105,105]
noncomputable def V.on{s:Type}(v:V)(d:s)(i:Int->s)(b:List UInt8->s)(t:List V->s)(l:Nat->s):s:=v.casesOn d (fun _=>d) i (fun _=>d) b t l (fun _=>d) (fun _=>d) (fun _=>d) (fun _=>d) (fun _=>d) (fun _ _ _=>d) (fun _ _=>d) (fun _=>d)
noncomputable def V.of{u:Type}(v:V)(d n:u)(b:Bool->u)(s:List Nat->u)(c:Nat->u)(t:Ty->u)(x:Int->u)(r:Int->Int->Int->u):u:=v.casesOn n b (fun _=>d) s (fun _=>d) (fun _=>d) (fun _=>d) (fun _=>d) c t (fun _=>d) x r (fun _ _=>d) (fun _=>d)
noncomputable def no{s t:Type}(_:s):Option t:=none
noncomputable def bl (v:V):Option Int:=v.on none some no no no
noncomputable def lz (v:V):Option (List UInt8):=v.on none no some no no
noncomputable def mV (v:V):Option (List V):=v.on none no no some no
noncomputable def Fv (v:V):Option Nat:=v.on none no no no some
noncomputable def H9{s t γ δ:Type}(_:s)(_:t)(_:γ):Option δ:=none
noncomputable def w3 (v:V):Option Bool:=v.of none none some no no no no H9
noncomputable def mn (v:V):Option (List Nat):=v.of none none no some no no no H9
noncomputable def ni (v:V):Bool:=v.of false true (fun _=>false) (fun _=>false) (fun _=>false) (fun _=>false) (fun _=>false) (fun _ _ _=>false)
noncomputable def Mi(v:V)(c:Nat->s)(t:Ty->s):Option s:=v.of none none no no (fun x=>some (c x)) (fun x=>some (t x)) no H9
noncomputable def H6 (m:ah):Option (List V):=m.casesOn some no no (fun _=>no) no
noncomputable def rk (m:ah):Option (List (List Nat×V)):=m.casesOn no some no (fun _=>no) no
noncomputable def rj (m:ah):Option (List (List UInt8×V)):=m.casesOn no no some (fun _=>no) no
noncomputable def Cv (m:ah):Option (Nat×List (Nat×V)):=m.casesOn no no no (fun c a=>some (c,a)) no
noncomputable def aC (a:MS)(v:V):Option (List V):=(Fv v).bind fun l=>(a[l]?).bind H6
noncomputable def jJ (f:V->V->Option Bool)(d:List V):List V->Option Bool:=d.rec (fun c=>some c.isEmpty) fun v _ e c=>c.casesOn (some false) fun u c=>(f v u).bind fun a=>(e c).bind fun b=>some (a&&b)
noncomputable def mW (n:Nat)(e:MS):V->V->Option Bool:=n.rec (fun _ _=>none) fun _ f a b=>a.on (a.of none (if ni b=true then some true else none) (fun i=>(w3 b).bind fun j=>some (decide (i=j))) (fun i=>(mn b).bind fun j=>some (decide (i=j))) no no no H9) (fun i=>(bl b).bind fun j=>some (decide (i=j))) (fun i=>(lz b).bind fun j=>some (decide (i=j))) (fun c=>(mV b).bind fun d=>jJ f c d) (fun l=>(aC e (.loc l)).bind fun c=>(aC e b).bind fun d=>bif c.length==d.length then jJ f c d else some false)
noncomputable def Ei (c:MS)(a:V)(l:List V):Option Bool:=l.rec (some false) fun b _ d=>(mW 40 c b a).bind fun x=>d.bind fun y=>some (x||y)
noncomputable def cD (a:MS)(v:V):Option Bool:=v.on (w3 v) no no no fun l=>(aC a (.loc l)).bind fun c=>some !c.isEmpty
noncomputable def Lb (d:MS)(a b:V):Option (V×MS):=a.on none (fun i=>(bl b).bind fun j=>some (.int (i+j),d)) (fun x=>(lz b).bind fun y=>if(x++y).length<=1000000 then some (.bytes (x++y),d)else none) (fun x=>(mV b).bind fun y=>if(x++y).length<=1000000 then some (.tup (x++y),d)else none) fun l=>(aC d (.loc l)).bind fun x=>(aC d b).bind fun y=>if(x++y).length<=1000000 then some (.loc d.length,d++[.list (x++y)])else none
noncomputable def c8 (d:MS)(o:Op)(a b:V):Option (V×MS):=o.casesOn (Lb d a b) ((bl a).bind fun i=>(bl b).bind fun j=>some (.int (i-j),d)) ((bl a).bind fun i=>(bl b).bind fun j=>if i.natAbs<1000000000\/j.natAbs<1000000000 then some (.int (i*j),d)else none) ((bl a).bind fun i=>(bl b).bind fun j=>if 0<j then some (.int (i % j),d)else none) ((bl a).bind fun i=>(bl b).bind fun j=>if 0<j/\j<1000000000 then some (.int (i / j),d)else none)
noncomputable def KS (v:V):Option V:=(bl v).bind fun i=>some (.int (-i))
noncomputable def Cy (f:Int->Int->Bool)(a b:V):Option Bool:=(bl a).bind fun i=>(bl b).bind fun j=>some (f i j)
noncomputable def H0 (e:MS)(a b:V):Option Bool:=b.on none no no (Ei e a) fun l=>(lz a).bind fun x=>(e[l]?).bind fun o=>(rj o).bind fun d=>some (d.lookup x).isSome
noncomputable def bc (c:MS)(o:Cm)(a b:V):Option Bool:=o.casesOn (mW 40 c a b) ((mW 40 c a b).bind fun x=>some !x) (Cy (fun i j=>decide (i<j)) a b) (Cy (fun i j=>decide (i<=j)) a b) (Cy (fun i j=>decide (i>j)) a b) (Cy (fun i j=>decide (i>=j)) a b) (if ni b=true then some (ni a)else none) (if ni b=true then some !ni a else none) (H0 c a b) ((mV b).bind fun d=>(Ei c a d).bind fun x=>some !x)
noncomputable def wU:List (Nat×Nat):=[(11,1635017060),(11,29793),(11,6581861),(21,7368564),(21,126879296220272),(45,1954047348),(46,126943755527023),(46,132376938115945),(48,125779768604014),(48,521515500513457970505063),(56,1802658157),(56,495756604521)]
noncomputable def jQ (c f:Nat):Bool:=wU.any fun q=>q.1==c&&q.2==f
noncomputable def aY (a:MS)(v:V)(f:Nat):Option V:=v.on (v.of none none no no no no (fun x=>if f=Od then some (.int x)else none) H9) no no no fun l=>(a[l]?).bind fun o=>(Cv o).bind fun q=>if jQ q.1 f=true then q.2.lookup f else none
noncomputable def C9{s:Type}(l:List s)(i:Int):Option s:=if 0<=i then l[i.toNat]? else none
noncomputable def Cl (m:ah)(i:V):Option V:=m.casesOn (fun b=>(bl i).bind fun j=>if j=-1 then b.getLast? else C9 b j) (fun a=>(mn i).bind fun s=>a.lookup s) (fun a=>(lz i).bind fun s=>a.lookup s) (fun _ _=>none) (fun _=>none)
noncomputable def br (d:MS)(o i:V):Option V:=o.on none no (fun b=>(bl i).bind fun j=>(C9 b j).bind fun c=>some (.int c.toNat)) (fun f=>(bl i).bind fun j=>C9 f j) fun l=>(d[l]?).bind fun m=>Cl m i
noncomputable def b4 (d:Nat)(o:Option V):Option Nat:=o.casesOn (some d) fun v=>(bl v).bind fun i=>if 0<=i then some i.toNat else none
noncomputable def Qi (v:V):Option (List Int):=v.casesOn none no no no no no no no no no no no H9 (fun _ _=>none) some
noncomputable def bV (d:MS)(o:V)(g h:Option V):Option (V×MS):=(Qi o).casesOn (o.on none no (fun b=>(b4 0 g).bind fun i=>(b4 b.length h).bind fun j=>some (.bytes ((b.take j).drop i),d)) no fun l=>(aC d (.loc l)).bind fun m=>(b4 0 g).bind fun i=>(b4 m.length h).bind fun j=>some (.loc d.length,d++[.list ((m.take j).drop i)])) fun n=>(b4 0 g).bind fun i=>(b4 n.length h).bind fun j=>some (.loc d.length,d++[.list (((n.map V.int).take j).drop i)])
noncomputable def ee{K:Type} [DecidableEq K](k:K)(v:V)(l:List (K×V)):List (K×V):=l.rec [(k,v)] fun p r a=>if p.1=k then(p.1,v)::r else p::a
noncomputable def DL (m:ah)(i v:V):Option ah:=m.casesOn (fun e=>(bl i).bind fun j=>if 0<=j/\j.toNat<e.length then some (.list (e.set j.toNat v))else none) (fun a=>(mn i).bind fun s=>if a.length<1000000 then some (.dictS (ee s v a))else none) (fun a=>(lz i).bind fun s=>if a.length<1000000 then some (.dictB (ee s v a))else none) (fun _ _=>none) (fun _=>none)
noncomputable def fY (a:MS)(o i v:V):Option MS:=(Fv o).bind fun l=>(a[l]?).bind fun m=>(DL m i v).bind fun b=>some (a.set l b)
noncomputable def fX (a:MS)(o:V)(f:Nat)(v:V):Option MS:=(Fv o).bind fun l=>(a[l]?).bind fun m=>(Cv m).bind fun q=>if jQ q.1 f=true/\q.1≠14/\q.2.length<20 then some (a.set l (.inst q.1 (ee f v q.2)))else none
inductive Kd where|none|ty (t:Ty)|cls (c:Nat)
noncomputable def Kd.code (k:Kd):Nat:=k.casesOn 0 (fun t=>t.casesOn 1 2 3 4 5 6 7) fun c=>c+8
noncomputable def xB (m:ah):Option Kd:=m.casesOn (fun _=>some (.ty .list)) (fun _=>some (.ty .dict)) (fun _=>some (.ty .dict)) (fun c _=>some (.cls c)) (fun _=>none)
noncomputable def H3 (b:MS)(v:V):Option Kd:=v.on (v.of none (some .none) (fun _=>some (.ty .bool)) no no no no H9) (fun _=>some (.ty .int)) no no fun l=>(b[l]?).bind xB
noncomputable def Js (v:V):Option Kd:=Mi v .cls .ty
noncomputable def Et:List Nat:=[0,1,2,3,4,29,53,54,56]
noncomputable def Mj:List Nat:=[1,2,3,4,29,53,54,55,56]
noncomputable def CE (c:MS)(a t:V):Option Bool:=(H3 c a).bind fun k=>(Js t).bind fun t=>if Et.contains k.code=true/\Mj.contains t.code=true then some (k.code==t.code||(k.code==2&&t.code==1))else none
noncomputable def fW (l:List V):Option (List UInt8):=l.rec (some []) fun v _ c=>(bl v).bind fun i=>if 0<=i/\i<256 then c.bind fun r=>some (UInt8.ofNat i.toNat::r)else none
noncomputable def jk (l:List V):Option (List (List Nat)):=l.rec (some []) fun v _ a=>(mn v).bind fun s=>a.bind fun r=>some (s::r)
noncomputable def bk (l:List (List Nat)):List (List Nat):=l.mergeSort fun a b=>!decide (b<a)
noncomputable def ip{s:Type}(l:List s):Option s:=l.casesOn none fun a r=>bif r.isEmpty then some a else none
noncomputable def Ee(l:List s):Option (s×s):=l.casesOn none fun a r=>(ip r).bind fun b=>some (a,b)
noncomputable def Lh (e:MS)(a:V):Option V:=a.on none no (fun b=>some (.int b.length)) no fun l=>(aC e (.loc l)).bind fun g=>some (.int g.length)
noncomputable def CJ (m:ah):Option (List (List Nat)):=m.casesOn (fun b=>if b.length<64 then jk b else none) (fun a=>if a.length<64 then some (a.map (·.1))else none) (fun _=>none) (fun _ _=>none) (fun _=>none)
noncomputable def HK (c:MS)(a:V):Option (V×MS):=(Fv a).bind fun l=>(c[l]?).bind fun o=>(CJ o).bind fun e=>some (.loc c.length,c++[.list ((bk e).map .str)])
noncomputable def Kr (a:List V)(f:Int->Int->Int):Option V:=(Ee a).bind fun q=>(bl q.1).bind fun i=>(bl q.2).bind fun j=>some (.int (f i j))
noncomputable def iH (d:MS)(b:BI)(c:List V):Option (V×MS):=b.casesOn ((ip c).bind fun a=>(Lh d a).bind fun v=>some (v,d)) ((Kr c min).bind fun v=>some (v,d)) ((Kr c max).bind fun v=>some (v,d)) ((ip c).bind fun a=>(bl a).bind fun i=>some (.int i.natAbs,d)) ((ip c).bind fun a=>(bl a).bind fun i=>if 0<=i/\i<256 then some (.str [i.toNat],d)else none) ((Ee c).bind fun q=>(CE d q.1 q.2).bind fun b=>some (.bool b,d)) ((ip c).bind (HK d))
noncomputable def MV (a:V):Option V:=a.on ((w3 a).bind fun b=>some (.int (bif b then 1 else 0))) (fun i=>some (.int i)) (fun x=>(ip x).bind fun c=>if c=48\/c=49\/c=55 then some (.int (c.toNat-48))else none) no no
noncomputable def D1 (d:MS)(a:V):Option V:=a.on none no (fun b=>some (.bytes b)) no fun l=>(aC d (.loc l)).bind fun f=>(fW f).bind fun b=>some (.bytes b)
noncomputable def Jr (m:ah):Option (List V):=m.casesOn some (fun a=>some (a.map fun p=>.str p.1)) (fun _=>none) (fun _ _=>none) (fun _=>none)
noncomputable def Iu (c:MS)(a:V):Option (V×MS):=a.on none no no (fun e=>some (.loc c.length,c++[.list e])) fun l=>(c[l]?).bind fun o=>(Jr o).bind fun e=>some (.loc c.length,c++[.list e])
noncomputable def Ea (d:List V):Option V:=d.casesOn none fun a r=>(bl a).bind fun a=>bif r.isEmpty then some (.rng 0 a 1)else(Ee r).bind fun q=>(bl q.1).bind fun b=>(bl q.2).bind fun c=>if 0<c/\c<1000000 then some (.rng a b c)else none
noncomputable def fZ (c:MS)(t:Ty)(b:List V):Option (V×MS):=t.casesOn ((ip b).bind fun a=>(MV a).bind fun v=>some (v,c)) none ((ip b).bind (Iu c)) none ((ip b).bind fun a=>(D1 c a).bind fun v=>some (v,c)) ((Ea b).bind fun v=>some (v,c)) ((ip b).bind fun a=>(aC c a).bind fun d=>some (.tup d,c))
noncomputable def qY (b:MS)(l:Nat)(a:List V):Option (V×MS):=(ip a).bind fun v=>(aC b (.loc l)).bind fun c=>if c.length<1000000 then some (.none,b.set l (.list (c++[v])))else none
noncomputable def Li (c:MS)(l:Nat)(b:List V):Option (V×MS):=bif b.isEmpty then(aC c (.loc l)).bind fun d=>d.getLast?.bind fun v=>some (v,c.set l (.list d.dropLast))else none
noncomputable def HJ (d:MS)(s:List Nat)(c:List V):Option (V×MS):=(ip c).bind fun a=>bif s.isEmpty then(aC d a).bind fun f=>(jk f).bind fun e=>if e.flatten.length<=1000000 then some (.str e.flatten,d)else none else none
noncomputable def IM (s:List Nat)(b:List V):Option V:=(ip b).bind fun a=>(mn a).bind fun y=>(ip s).bind fun c=>if y=ta/\(c=65\/c=66\/c=67)then some (.bytes [UInt8.ofNat c])else none
noncomputable def Lg (b:List UInt8)(d:List V):Option V:=(ip d).bind fun a=>(mn a).bind fun y=>(ip b).bind fun c=>if y=ta/\(c=65\/c=66\/c=67)then some (.str [c.toNat])else none
noncomputable def iZ (c:MS)(o:V)(f:Nat)(a:List V):Option (V×MS):=o.on ((mn o).bind fun s=>bif f==oA then HJ c s a else(IM s a).bind fun v=>some (v,c)) no (fun b=>(Lg b a).bind fun v=>some (v,c)) no fun l=>bif f==jj then qY c l a else Li c l a
inductive It where
 |list (l i:Nat)|keys (l i n:Nat)|seq (vs:List V)|rng (x:Int) (left:Nat) (c:Int)
noncomputable def e6 (a b c:Int):Nat:=if a<b then((b-a+c-1) / c).toNat else 0
noncomputable def H1 (l:Nat)(m:ah):Option It:=m.casesOn (fun _=>some (.list l 0)) (fun b=>some (.keys l 0 b.length)) (fun _=>none) (fun _ _=>none) (fun _=>none)
noncomputable def aA (e:MS)(v:V):Option It:=v.on (v.of none none no no no no no fun a b c=>if 0<=a/\a<1000000/\0<=b/\b<1000000/\0<c/\c<1000000 then some (.rng a (e6 a b c) c)else none) no (fun b=>some (.seq (b.map fun c=>.int c.toNat))) (fun h=>some (.seq h)) fun l=>(e[l]?).bind (H1 l)
noncomputable def next (e:MS)(h:It):Option (Option (V×It)):=h.casesOn (fun l i=>(aC e (.loc l)).bind fun d=>some (d[i]?.bind fun v=>some (v,.list l (i+1)))) (fun l i n=>(e[l]?).bind fun o=>(rk o).bind fun b=>if b.length=n then some (b[i]?.bind fun p=>some (.str p.1,.keys l (i+1) n))else none) (fun d=>some (d.casesOn none fun v r=>some (v,.seq r))) (fun x n c=>some (n.casesOn none fun n=>some (.int x,.rng (x+c) n c)))
noncomputable def shape (e:Expr):Nat:=e.casesOn (fun _ _ _=>0) (fun _ _ _=>0) (fun _ _ _ _=>0) (fun _ _ _=>0) (fun _ _ _ _=>0) (fun _ _ _ _=>0) (fun _ _ _=>0) (fun _ _ _=>4) (fun _ _ _ _=>6) (fun _ _ _ _=>6) (fun _ _ _ _ _=>6) (fun _ _ _ _=>0) (fun _ _=>0) (fun _ _=>0) (fun _ _=>0) (fun _ _ _ _=>0) (fun _ _ _ _=>1) (fun _ _ _ _=>0) (fun _ _=>0) (fun _ _ _=>0) (fun _ _ _=>2) (fun _ _ _=>0) (fun _ _=>3) (fun _ _=>0) (fun _ _=>0) (fun _ _ _=>0) (fun _ _ _ _=>5)
section
variable {M:Expr->Type} (d:∀e,M e)
noncomputable def B8 (e:Expr)(h:∀o j p,M (.BoolOp o j p))(c8:∀a o b p,M (.BinOp a o b p))(w:∀o a p,M (.UnaryOp o a p))(J:∀a b s p,M (.Lambda a b s p))(K:∀t a b p,M (.IfExp t a b p))(z:∀N Z p,M (.Dict N Z p)) (lc:∀e g s p,M (.ListComp e g s p)) (dc:∀k v g s p,M (.DictComp k v g s p)) (P:∀a o b p,M (.Compare a o b p)) (B:∀f j N p,M (.Call f j N p)) (l:∀c k p,M (.Constant c k p)) (C:∀o f p,M (.Attribute o f p)) (Q:∀a i p,M (.Subscript a i p)) (D:∀x p,M (.Name x p)) (F:∀j p,M (.List j p)) (R:∀j k p,M (.Tuple j k p)):M e:=e.casesOn h (fun _ _ _=>d _) c8 w J K z (fun _ _ _=>d _) lc (fun _ _ _ _=>d _) dc (fun _ _ _ _=>d _) (fun _ _=>d _) (fun _ _=>d _) (fun _ _=>d _) P B (fun _ _ _ _=>d _) (fun _ _=>d _) l C Q (fun _ _=>d _) D F R (fun _ _ _ _=>d _)
noncomputable def jC (e:Expr)(i:∀f m t p,M (.Call f m t p))(a:∀c k p,M (.Constant c k p))(j:∀o f p,M (.Attribute o f p))(l:∀x p,M (.Name x p))(n:∀m k p,M (.Tuple m k p))(g:∀u v w p,M (.Slice u v w p)):M e:=e.casesOn (fun _ _ _=>d _) (fun _ _ _=>d _) (fun _ _ _ _=>d _) (fun _ _ _=>d _) (fun _ _ _ _=>d _) (fun _ _ _ _=>d _) (fun _ _ _=>d _) (fun _ _ _=>d _) (fun _ _ _ _=>d _) (fun _ _ _ _=>d _) (fun _ _ _ _ _=>d _) (fun _ _ _ _=>d _) (fun _ _=>d _) (fun _ _=>d _) (fun _ _=>d _) (fun _ _ _ _=>d _) i (fun _ _ _ _=>d _) (fun _ _=>d _) a j (fun _ _ _=>d _) (fun _ _=>d _) l (fun _ _=>d _) n g
end
noncomputable def onName{M:Expr->Type}(d:∀e,M e)(e:Expr)(a:∀x p,M (.Name x p)):M e:=jC d e (fun _ _ _ _=>d _) (fun _ _ _=>d _) (fun _ _ _=>d _) a (fun _ _ _=>d _) (fun _ _ _ _=>d _)
noncomputable def rN{M:Expr->Type}(d:∀e,M e)(e:Expr)(a:∀c k p,M (.Constant c k p)):M e:=jC d e (fun _ _ _ _=>d _) a (fun _ _ _=>d _) (fun _ _=>d _) (fun _ _ _=>d _) (fun _ _ _ _=>d _)
noncomputable def Dg{M:Expr->Type}(d:∀e,M e)(e:Expr)(a:∀c k p,M (.Tuple c k p)):M e:=jC d e (fun _ _ _ _=>d _) (fun _ _ _=>d _) (fun _ _ _=>d _) (fun _ _=>d _) a (fun _ _ _ _=>d _)
noncomputable def Df{M:Expr->Type}(d:∀e,M e)(e:Expr)(b:∀o f p,M (.Attribute o f p)):M e:=jC d e (fun _ _ _ _=>d _) (fun _ _ _=>d _) b (fun _ _=>d _) (fun _ _ _=>d _) (fun _ _ _ _=>d _)
noncomputable def JJ{M:Expr->Type}(d:∀e,M e)(e:Expr)(a:∀f b c p,M (.Call f b c p)):M e:=jC d e a (fun _ _ _=>d _) (fun _ _ _=>d _) (fun _ _=>d _) (fun _ _ _=>d _) (fun _ _ _ _=>d _)
noncomputable def My{s:Type}(o:Option s):Option {a // o=some a}:=Option.rec (motive:=fun o=>Option {a // o=some a}) none (fun a=>some ⟨a,rfl⟩) o
noncomputable def whenT{γ:Type}(b:Bool)(f:b=true->Option γ):Option γ:=Bool.rec (motive:=fun b=>(b=true->Option γ)->Option γ) (fun _=>none) (fun f=>f rfl) b f
noncomputable def tb{s γ:Type}{P:s->Prop}(x:Option {b // P b})(f:∀b,P b->Option γ):Option γ:=x.bind fun b=>f b.1 b.2
inductive bj{α β:Type}(R:α->β->Prop):List α->List β->Prop
 |nil:bj R [] []
 |cons {a b as bs} (h:R a b) (r:bj R as bs):bj R (a::as) (b::bs)
noncomputable def jh{R:s->t->Prop}(f:∀a,Option {b // R a b})(l:List s):Option {c // bj R l c}:=List.rec (motive:=fun l=>Option {c // bj R l c}) (some ⟨[],.nil⟩) (fun a _ d=>tb (f a) fun b h=>tb d fun c e=>some ⟨b::c,.cons h e⟩) l
noncomputable def bo (a:Scope)(e:Scope):Scope:=relabel a {scope:=e,locals:=0,globals:=0,cells:=[]}
noncomputable def a8 (x:Str):Bool:=aO x&&!(x==("__debug__":Str))&&!(x==("__classdict__":Str))
inductive pU (gl:List (Nat×V))(sc:Scope)(x:Str):E->Prop
 |loc (g:a8 x=true) (hk:sc.names.lookup x=some .local):pU gl sc x (.loc (aL x))
 |cell (g:a8 x=true) (hk:sc.names.lookup x=some .cell\/sc.names.lookup x=some .free):pU gl sc x (.cell (aL x))
 |val {v} (g:a8 x=true) (hk:sc.names.lookup x=some .globalImplicit) (t:gl.lookup (aL x)=some v):pU gl sc x (.val v)
noncomputable def Qg (i:List (Nat×V))(c:Scope)(x:Str):Option {e // pU i c x e}:=whenT (a8 x) fun g=>if h:c.names.lookup x=some .local then some ⟨.loc (aL x),.loc g h⟩else if h:c.names.lookup x=some .cell then some ⟨.cell (aL x),.cell g (.inl h)⟩else if h:c.names.lookup x=some .free then some ⟨.cell (aL x),.cell g (.inr h)⟩else if h:c.names.lookup x=some .globalImplicit then tb (My (i.lookup (aL x))) fun v t=>some ⟨.val v,.val g h t⟩else none
inductive mC:Const->V->Prop
 |none:mC .none .none
 |bool {b}:mC (.bool b) (.bool b)
 |int {i}:mC (.int i) (.int i)
 |str {s:Str} (h:s.cps.toList.length<=1000000):mC (.str s) (.str s.cps.toList)
 |bytes {b:List UInt8} (h:b.length<=1000000):mC (.bytes b) (.bytes b)
noncomputable def Qe:(c:Const)->Option {v // mC c v}| .none=>some ⟨.none,.none⟩| .bool b=>some ⟨.bool b,.bool⟩| .int i=>some ⟨.int i,.int⟩| .str s=>if h:s.cps.toList.length<=1000000 then some ⟨.str s.cps.toList,.str h⟩else none| .bytes b=>if h:b.length<=1000000 then some ⟨.bytes b,.bytes h⟩else none|_=>none
noncomputable def Ng:Operator->Option Op| .Add=>some .add| .Sub=>some .sub| .Mult=>some .mul| .Mod=>some .mod| .FloorDiv=>some .fdiv|_=>none
noncomputable def sJ (o:CmpOp):Cm:=o.casesOn .eq .ne .lt .le .gt .ge .is .isnot .isin .notin
noncomputable def gL (c:Scope):List Nat:=(c.names.filter fun q=>q.2== .free).map fun q=>aL q.1
noncomputable def bQ (c:Scope):Bool:=c.names.all (fun q=>a8 q.1&&!(q.2== .cell)&&c.names.lookup q.1==some q.2)&&c.kind== .function&&!c.isGenerator&&!c.isCoroutine
noncomputable def rK (a:Arguments):Bool:=a.posonlyargs.isEmpty&&a.args.isEmpty&&a.vararg.isNone&&a.kwonlyargs.isEmpty&&a.kw_defaults.isEmpty&&a.kwarg.isNone&&a.defaults.isEmpty
noncomputable abbrev ay (e:Expr):Bool:=!(shape e==3||shape e==4||shape e==5)
inductive sO{α β:Type}(R:α->β->Prop):Option α->List β->Prop
 |none:sO R none []
 |some {a b} (h:R a b):sO R (some a) [b]
def qM (k:Option Expr)(b:List UInt8):Prop:=∃n p,k=some (.Constant (.bytes b) n p)
inductive aR (gl:List (Nat×V))(R:Bool->Scope->Expr->E->Prop)(la:Bool)(sc:Scope):Expr->E->Prop
 |const {c k p v} (t:mC c v):aR gl R la sc (.Constant c k p) (.val v)
 |name {x p e} (t:pU gl sc x e):aR gl R la sc (.Name x p) e
 |tup {es k p xs} (t:bj (R la sc) es xs):aR gl R la sc (.Tuple es k p) (.tup xs)
 |list {es p xs} (t:bj (R la sc) es xs):aR gl R la sc (.List es p) (.list xs)
 |bin {a o b p a' o' b'} (t1:R la sc a a') (t2:Ng o=some o') (t3:R la sc b b'):aR gl R la sc (.BinOp a o b p) (.bin o' a' b')
 |neg {a p a'} (t:R la sc a a'):aR gl R la sc (.UnaryOp .USub a p) (.neg a')
 |not {a p a'} (t:R la sc a a'):aR gl R la sc (.UnaryOp .Not a p) (.not a')
 |and {es p xs} (t:bj (R la sc) es xs):aR gl R la sc (.BoolOp .And es p) (.and xs)
 |or {es p xs} (t:bj (R la sc) es xs):aR gl R la sc (.BoolOp .Or es p) (.or xs)
 |ite {t a b p t' a' b'} (t1:R la sc t t') (t2:R la sc a a') (t3:R la sc b b'):aR gl R la sc (.IfExp t a b p) (.ite t' a' b')
 |cmp {a o b p a' b'} (t1:R la sc a a') (t2:R la sc b b'):aR gl R la sc (.Compare a [o] [b] p) (.cmp a' (sJ o) b')
 |cmp2 {a o b o' c p a' b' c'} (t1:R la sc a a') (t2:R la sc b b') (t3:R la sc c c'):aR gl R la sc (.Compare a [o,o'] [b,c] p) (.cmp2 a' (sJ o) b' (sJ o') c')
 |attr {a f p a'} (g:aO f=true) (nc:(shape a !=1)=true) (t:R la sc a a'):aR gl R la sc (.Attribute a f p) (.attr a' (aL f))
 |slice {a lo hi sp p a' lo' hi'} (t1:R la sc a a') (t2:sO (R la sc) lo lo') (t3:sO (R la sc) hi hi'):aR gl R la sc (.Subscript a (.Slice lo hi none sp) p) (.slice a' lo' hi')
 |sub {a i p a' i'} (t1:R la sc a a') (t2:R la sc i i'):aR gl R la sc (.Subscript a i p) (.sub a' i')
 |meth {o f apos es p o' es'} (g:(aO f&&shape o !=1&&apos.endLine==p.line&&decide (es.length<30))=true) (t1:R la sc o o') (t2:bj (R la sc) es es'):aR gl R la sc (.Call (.Attribute o f apos) es [] p) (.meth o' (aL f) es')
 |call {f es p f' es'} (hna:(shape f !=2)=true) (t1:R la sc f f') (t2:bj (R la sc) es es'):aR gl R la sc (.Call f es [] p) (.call f' es')
 |comp {e x xp it ifs scope p it' c' e'} (g:(bQ scope&&a8 x&&scope.names.lookup x==some .local&&decide (ifs.length<2))=true) (t1:R la sc it it') (t2:bj (R false (bo scope sc)) ifs c') (t3:R false (bo scope sc) e e'):
   aR gl R la sc (.ListComp e [⟨.Name x xp,it,ifs,0⟩] scope p) (.comp (gL scope) (aL x) it' c' e')
 |dcomp {a b x xp it ifs scope p it' c' a' b'} (g:(bQ scope&&a8 x&&scope.names.lookup x==some .local&&decide (ifs.length<2))=true) (t1:R la sc it it') (t2:bj (R false (bo scope sc)) ifs c') (t3:R false (bo scope sc) a a') (t4:R false (bo scope sc) b b'):
   aR gl R la sc (.DictComp a b [⟨.Name x xp,it,ifs,0⟩] scope p) (.dcomp (gL scope) (aL x) it' c' a' b')
 |sdict {p}:aR gl R la sc (.Dict [] [] p) .sdict
 |dict {k ks vs p bs xs} (t1:bj qM (k::ks) bs) (t2:bj (R la sc) vs xs):aR gl R la sc (.Dict (k::ks) vs p) (.dict bs xs)
 |lam {as b scope p b'} (g:(la&&rK as&&bQ scope)=true) (t:R false scope b b'):aR gl R la sc (.Lambda as b scope p) (.lam (gL scope) b')
def fc (b:List (Nat×V))(n:Nat):Bool->Scope->Expr->E->Prop:=n.rec (fun _ _ _ _=>False) fun _ R c d a e=>ay a=true/\aR b R c d a e
noncomputable def JM{R:s->t->Prop}(f:∀a,Option {b // R a b})(o:Option s):Option {c // sO R o c}:=Option.rec (motive:=fun o=>Option {c // sO R o c}) (some ⟨[],.none⟩) (fun a=>tb (f a) fun b h=>some ⟨[b],.some h⟩) o
noncomputable def Oa (k:Option Expr):Option {b // qM k b}:=Option.rec (motive:=fun k=>Option {b // qM k b}) none (fun e=>rN (M:=fun e=>Option {b // qM (some e) b}) (fun _=>none) e fun c n p=>Const.casesOn (motive:=fun c=>Option {b // qM (some (.Constant c n p)) b}) c none (fun _=>none) (fun _=>none) (fun _=>none) (fun _ _=>none) (fun _=>none) (fun b=>some ⟨b,n,p,rfl⟩) none) k
noncomputable def FK{M:Expr->Type}(d:∀e,M e)(e:Expr)(a:∀c f g p,M (.Slice c f g p)):M e:=jC d e (fun _ _ _ _=>d _) (fun _ _ _=>d _) (fun _ _ _=>d _) (fun _ _=>d _) (fun _ _ _=>d _) a
noncomputable def Ih{M:List Comprehension->Type}(d:∀l,M l)(l:List Comprehension)(k:∀x h e b,M [⟨.Name x h,e,b,0⟩]):M l:=List.casesOn (motive:=M) l (d _) fun c r=>List.casesOn (motive:=fun r=>M (c::r)) r (Comprehension.casesOn (motive_3:=fun c=>M [c]) c fun g e b a=>Int.casesOn (motive:=fun a=>M [⟨g,e,b,a⟩]) a (fun n=>Nat.casesOn (motive:=fun n=>M [⟨g,e,b,.ofNat n⟩]) n (onName (M:=fun g=>M [⟨g,e,b,0⟩]) (fun _=>d _) g fun x h=>k x h e b) fun _=>d _) fun _=>d _) fun _ _=>d _
section
variable (gl:List (Nat×V)) {R:Bool->Scope->Expr->E->Prop} (f:∀la sc a,Option {e // R la sc a e}) (la:Bool) (sc:Scope)
noncomputable def Oy (a:Expr):Option {e // aR gl R la sc a e}:=B8 (M:=fun a=>Option {e // aR gl R la sc a e}) (fun _=>none) a (fun o y p=>BoolOp.casesOn (motive:=fun o=>Option {e // aR gl R la sc (.BoolOp o y p) e}) o (tb (jh (f la sc) y) fun C h=>some ⟨.and C,.and h⟩) (tb (jh (f la sc) y) fun C h=>some ⟨.or C,.or h⟩)) (fun a o b p=>tb (f la sc a) fun r l=>tb (My (Ng o)) fun D j=>tb (f la sc b) fun B z=>some ⟨.bin D r B,.bin l j z⟩) (fun o a p=>UnaryOp.casesOn (motive:=fun o=>Option {e // aR gl R la sc (.UnaryOp o a p) e}) o none (tb (f la sc a) fun r h=>some ⟨.not r,.not h⟩) none (tb (f la sc a) fun r h=>some ⟨.neg r,.neg h⟩)) (fun as b s p=>whenT (la&&rK as&&bQ s) fun g=>tb (f false s b) fun B h=>some ⟨.lam (gL s) B,.lam g h⟩) (fun t a b p=>tb (f la sc t) fun t' l=>tb (f la sc a) fun r j=>tb (f la sc b) fun B z=>some ⟨.ite t' r B,.ite l j z⟩) (fun F X p=>List.casesOn (motive:=fun F=>Option {e // aR gl R la sc (.Dict F X p) e}) F (List.casesOn (motive:=fun X=>Option {e // aR gl R la sc (.Dict [] X p) e}) X (some ⟨.sdict,.sdict⟩) fun _ _=>none) fun k F=>tb (jh Oa (k::F)) fun m l=>tb (jh (f la sc) X) fun C j=>some ⟨.dict m C,.dict l j⟩) (fun e g s p=>Ih (M:=fun g=>Option {c // aR gl R la sc (.ListComp e g s p) c}) (fun _=>none) g fun x xp it A=>whenT (bQ s&&a8 x&&s.names.lookup x==some .local&&decide (A.length<2)) fun g=>tb (f la sc it) fun J l=>tb (jh (f false (bo s sc)) A) fun c' j=>tb (f false (bo s sc) e) fun e' z=>some ⟨.comp (gL s) (aL x) J c' e',.comp g l j z⟩) (fun a b g s p=>Ih (M:=fun g=>Option {c // aR gl R la sc (.DictComp a b g s p) c}) (fun _=>none) g fun x xp it A=>whenT (bQ s&&a8 x&&s.names.lookup x==some .local&&decide (A.length<2)) fun g=>tb (f la sc it) fun J l=>tb (jh (f false (bo s sc)) A) fun c' j=>tb (f false (bo s sc) a) fun r z=>tb (f false (bo s sc) b) fun B h4=>some ⟨.dcomp (gL s) (aL x) J c' r B,.dcomp g l j z h4⟩) (fun a q m p=>tb (f la sc a) fun r l=>List.casesOn (motive:=fun m=>Option {e // aR gl R la sc (.Compare a q m p) e}) m none fun b m=>tb (f la sc b) fun B j=>List.casesOn (motive:=fun q=>Option {e // aR gl R la sc (.Compare a q (b::m) p) e}) q none fun o q=>List.casesOn (motive:=fun m=>Option {e // aR gl R la sc (.Compare a (o::q) (b::m) p) e}) m (List.casesOn (motive:=fun q=>Option {e // aR gl R la sc (.Compare a (o::q) [b] p) e}) q (some ⟨.cmp r (sJ o) B,.cmp l j⟩) fun _ _=>none) fun c m=>tb (f la sc c) fun c' z=>List.casesOn (motive:=fun q=>Option {e // aR gl R la sc (.Compare a (o::q) (b::c::m) p) e}) q none fun D q=>List.casesOn (motive:=fun q=>Option {e // aR gl R la sc (.Compare a (o::D::q) (b::c::m) p) e}) q (List.casesOn (motive:=fun m=>Option {e // aR gl R la sc (.Compare a [o,D] (b::c::m) p) e}) m (some ⟨.cmp2 r (sJ o) B (sJ D) c',.cmp2 l j z⟩) fun _ _=>none) fun _ _=>none) (fun L y F p=>List.casesOn (motive:=fun F=>Option {e // aR gl R la sc (.Call L y F p) e}) F (Df (M:=fun L=>Option {e // aR gl R la sc (.Call L y [] p) e}) (fun L=>whenT (shape L !=2) fun g=>tb (f la sc L) fun f' l=>tb (jh (f la sc) y) fun N j=>some ⟨.call f' N,.call g l j⟩) L fun o n ap=>whenT (aO n&&shape o !=1&&ap.endLine==p.line&&decide (y.length<30)) fun g=>tb (f la sc o) fun D l=>tb (jh (f la sc) y) fun N j=>some ⟨.meth D (aL n) N,.meth g l j⟩) fun _ _=>none) (fun c k p=>tb (Qe c) fun v h=>some ⟨.val v,.const h⟩) (fun o n p=>whenT (aO n) fun g=>whenT (shape o !=1) fun nc=>tb (f la sc o) fun D h=>some ⟨.attr D (aL n),.attr g nc h⟩) (fun a i p=>tb (f la sc a) fun r l=>FK (M:=fun i=>Option {e // aR gl R la sc (.Subscript a i p) e}) (fun i=>tb (f la sc i) fun i' j=>some ⟨.sub r i',.sub l j⟩) i fun lo hi st sp=>Option.casesOn (motive:=fun st=>Option {e // aR gl R la sc (.Subscript a (.Slice lo hi st sp) p) e}) st (tb (JM (f la sc) lo) fun lo' j=>tb (JM (f la sc) hi) fun hi' z=>some ⟨.slice r lo' hi',.slice l j z⟩) fun _=>none) (fun x p=>tb (Qg gl sc x) fun e h=>some ⟨e,.name h⟩) (fun y p=>tb (jh (f la sc) y) fun C h=>some ⟨.list C,.list h⟩) (fun y k p=>tb (jh (f la sc) y) fun C h=>some ⟨.tup C,.tup h⟩)
end
noncomputable def Qf (d:List (Nat×V))(n:Nat):∀(b:Bool) (c:Scope) (a:Expr),Option {e // fc d n b c a e}:=Nat.rec (motive:=fun n=>∀b c a,Option {e // fc d n b c a e}) (fun _ _ _=>none) (fun n f b c a=>whenT (ay a) fun g=>tb (Oy d f b c a) fun e h=>some ⟨e,g,h⟩) n
def eR (b:List (Nat×V))(c:Bool)(d:Scope)(a:Expr)(e:E):Prop:=∃n,fc b n c d a e
inductive Ep (R:Expr->E->Prop)(sc:Scope):Expr->T->Prop
 |loc {x p} (g:(a8 x&&sc.names.lookup x==some .local)=true):Ep R sc (.Name x p) (.loc (aL x))
 |cell {x p} (g:(a8 x&&sc.names.lookup x==some .cell)=true):Ep R sc (.Name x p) (.cell (aL x))
 |attr {o f p o'} (g:aO f=true) (t:R o o'):Ep R sc (.Attribute o f p) (.attr o' (aL f))
 |sub {a i p a' i'} (t1:R a a') (t2:R i i'):Ep R sc (.Subscript a i p) (.sub a' i')
inductive iW (R:Expr->E->Prop)(sc:Scope):Expr->T->Prop
 |one {a t} (hp:ay a=true) (h:Ep R sc a t):iW R sc a t
 |tup {ts k p xs} (hs:ts.all ay=true) (h:bj (Ep R sc) ts xs):iW R sc (.Tuple ts k p) (.tup xs)
noncomputable def FJ{M:Expr->Type}(d:∀e,M e)(e:Expr)(g:∀x p,M (.Name x p))(h:∀o f p,M (.Attribute o f p))(j:∀a i p,M (.Subscript a i p))(l:∀q k p,M (.Tuple q k p)):M e:=B8 d e (fun _ _ _=>d _) (fun _ _ _ _=>d _) (fun _ _ _=>d _) (fun _ _ _ _=>d _) (fun _ _ _ _=>d _) (fun _ _ _=>d _) (fun _ _ _ _=>d _) (fun _ _ _ _ _=>d _) (fun _ _ _ _=>d _) (fun _ _ _ _=>d _) (fun _ _ _=>d _) h j g (fun _ _=>d _) l
section
variable {R:Expr->E->Prop} (f:∀a,Option {e // R a e}) (sc:Scope)
noncomputable def MX (a:Expr):Option {t // Ep R sc a t}:=FJ (M:=fun a=>Option {t // Ep R sc a t}) (fun _=>none) a (fun x p=>if h:(a8 x&&sc.names.lookup x==some .local)=true then some ⟨.loc (aL x),.loc h⟩else whenT (a8 x&&sc.names.lookup x==some .cell) fun h=>some ⟨.cell (aL x),.cell h⟩) (fun o n p=>whenT (aO n) fun g=>tb (f o) fun m h=>some ⟨.attr m (aL n),.attr g h⟩) (fun a i p=>tb (f a) fun q r=>tb (f i) fun s u=>some ⟨.sub q s,.sub r u⟩) (fun _ _ _=>none)
noncomputable def O1 (a:Expr):Option {t // iW R sc a t}:=Dg (M:=fun a=>Option {t // iW R sc a t}) (fun a=>whenT (ay a) fun b=>tb (MX f sc a) fun t h=>some ⟨t,.one b h⟩) a fun d k p=>whenT (d.all ay) fun b=>tb (jh (MX f sc) d) fun j h=>some ⟨.tup j,.tup b h⟩
end
noncomputable def vF (e:Scope):Env:={scope:=e,locals:=0,globals:=0,cells:=[]}
noncomputable def vW(x:Sem s):Option {a // x= .pure a}:=x.casesOn (fun a=>some ⟨a,rfl⟩) (fun _=>none) (fun _=>none) (fun _=>none) (fun _ _=>none) (fun _ _=>none) (fun _ _ _=>none) (fun _ _ _ _=>none) (fun _ _=>none) (fun _ _=>none) (fun _ _=>none) (fun _ _=>none) (fun _=>none) (fun _=>none) (fun _ _ _=>none) (fun _ _ _=>none) (fun _ _ _ _ _=>none) (fun _ _=>none) (fun _ _=>none) (fun _ _=>none) (fun _ _ _ _=>none) (fun _ _ _ _=>none) (fun _=>none) (fun _ _=>none) (fun _=>none) (fun _ _ _ _ _=>none)
noncomputable def aU:Str:=Str.ofString "SyntaxFault"
def wT (a:Scope)(e:Expr)(t:Option Expr)(p:Pos)(b:Bool):Prop:=swapsWith e t p.line (vF a)= .pure b
def Eo (a:Scope)(t e:Expr)(r:Option (List Str)):Prop:=swappedStores [t] e (vF a)= .pure r
noncomputable abbrev yh (b c d e f rp g:Pos)(h i:Nat)(y w:Str):ExceptHandler:=.ExceptHandler (some (.Name aU b)) (some y) [.Return (some (.Tuple [.Constant (.str w) h c,.Attribute (.Name y d) (Str.ofString "at") e] i f)) rp] g
inductive aF (gl:List (Nat×V))(R:Stmt->S->Prop)(la:Bool)(sc:Scope):Stmt->S->Prop
 |assign {t e p t' e'} (h1:wT sc e (some t) p false) (h2:Eo sc t e none) (t1:iW (eR gl la sc) sc t t') (t2:eR gl la sc e e'):aF gl R la sc (.Assign [t] e p) (.assign t' e')
 |asgc {y py e p e'} (h1:wT sc e (some (.Name y py)) p true) (g:(a8 y&&sc.names.lookup y==some .local&&shape e==6)=true) (t2:eR gl la sc e e'):aF gl R la sc (.Assign [.Name y py] e p) (.asgc (aL y) e')
 |swap {ts k tp e p ns e'} (h2:Eo sc (.Tuple ts k tp) e (some ns)) (g:(ns.all (fun n=>aO n&&sc.names.lookup n==some .local)&&decide ns.Nodup)=true) (t2:eR gl la sc e e'):aF gl R la sc (.Assign [.Tuple ts k tp] e p) (.swap (ns.map aL) e')
 |expr {e p e'} (h1:wT sc e none p false) (t1:eR gl la sc e e'):aF gl R la sc (.Expr e p) (.expr e')
 |ret {o p e'} (t1:sO (eR gl la sc) o e'):aF gl R la sc (.Return o p) (.ret e')
 |ite {t a b p t' a' b'} (t1:eR gl la sc t t') (t2:bj R a a') (t3:bj R b b'):aF gl R la sc (.If t a b p) (.ite t' a' b')
 |while {t a p t' a'} (t1:eR gl la sc t t') (t2:bj R a a'):aF gl R la sc (.While t a [] p) (.while t' a')
 |for {t it a p t' it' a'} (t1:iW (eR gl la sc) sc t t') (t2:eR gl la sc it it') (t3:bj R a a'):aF gl R la sc (.For t it a [] p) (.for t' it' a')
 |cont {p}:aF gl R la sc (.Continue p) .cont
 |raise {np w kw p0 a cp rp a'} (hg:(sc.names.lookup aU==some .globalImplicit)=true) (t1:eR gl la sc a a'):aF gl R la sc (.Raise (some (.Call (.Name aU np) [.Constant (.str w) kw p0,a] [] cp)) none rp) (.raise a')
 |stuck {s}:aF gl R la sc s .stuck
 |try {b np p0 yp ap tp rp hp kw kk y w p b'} (g:(sc.names.lookup aU==some .globalImplicit&&a8 y&&sc.names.lookup y==some .local&&decide (w.cps.toList.length<=1000000))=true) (t1:bj R b b'):aF gl R la sc (.Try b [yh np p0 yp ap tp rp hp kw kk y w] [] [] p) (.try b' (aL y) w.cps.toList)
def HE (a:List (Nat×V))(b:Bool)(c:Scope)(n:Nat):Stmt->S->Prop:=n.rec (fun _ _=>False) fun _ R=>aF a R b c
section
variable {M:Stmt->Type} (d:∀e,M e)
noncomputable def DV (s:Stmt)(r:∀o p,M (.Return o p))(u:∀z e p,M (.Assign z e p))(j:∀t A a o p,M (.For t A a o p))(g:∀t a o p,M (.While t a o p))(v:∀t a b p,M (.If t a b p))(h:∀x c p,M (.Raise x c p))(k:∀b B o f p,M (.Try b B o f p)) (l:∀e p,M (.Expr e p)) (m:∀p,M (.Continue p)):M s:=s.casesOn (fun _ _ _ _ _ _ _ _ _ _=>d _) (fun _ _ _ _ _ _ _ _ _ _=>d _) (fun _ _ _ _ _ _ _ _ _ _ _=>d _) r (fun _ _=>d _) u (fun _ _ _ _ _ _ _=>d _) (fun _ _ _ _=>d _) (fun _ _ _ _ _=>d _) j (fun _ _ _ _ _=>d _) g v (fun _ _ _=>d _) (fun _ _ _=>d _) (fun _ _ _=>d _) h k (fun _ _ _ _ _=>d _) (fun _ _ _=>d _) (fun _ _=>d _) (fun _ _ _ _=>d _) (fun _ _=>d _) (fun _ _=>d _) l (fun _=>d _) (fun _=>d _) m
end
noncomputable def xO{s:Type}{M:List s->Type}(d:∀l,M l)(l:List s)(k:∀a,M [a]):M l:=List.casesOn (motive:=M) l (d _) fun a r=>List.casesOn (motive:=fun r=>M (a::r)) r (k a) fun _ _=>d _
noncomputable def onTwo{M:List s->Type}(d:∀l,M l)(l:List s)(k:∀a b,M [a,b]):M l:=List.casesOn (motive:=M) l (d _) fun a r=>xO (M:=fun r=>M (a::r)) (fun _=>d _) r fun b=>k a b
noncomputable def onSome{s:Type}{M:Option s->Type}(d:∀l,M l)(o:Option s)(k:∀a,M (some a)):M o:=Option.casesOn (motive:=M) o (d _) k
noncomputable def Ii{M:Const->Type}(d:∀c,M c)(c:Const)(k:∀s,M (.str s)):M c:=Const.casesOn (motive:=M) c (d _) (fun _=>d _) (fun _=>d _) (fun _=>d _) (fun _ _=>d _) k (fun _=>d _) (d _)
noncomputable def Mv{M:Stmt->Type}(d:∀e,M e)(s:Stmt)(k:∀o p,M (.Return o p)):M s:=DV d s k (fun _ _ _=>d _) (fun _ _ _ _ _=>d _) (fun _ _ _ _=>d _) (fun _ _ _ _=>d _) (fun _ _ _=>d _) (fun _ _ _ _ _=>d _) (fun _ _=>d _) (fun _=>d _)
noncomputable def Mw{M:Str->Type}(d:∀e,M e)(x:Str)(k:M aU):M x:=if h:aU=x then cast (congrArg M h) k else d x
noncomputable def Og{M:Str->Type}(d:∀e,M e)(x:Str)(k:M (Str.ofString "at")):M x:=if h:Str.ofString "at" =x then cast (congrArg M h) k else d x
noncomputable def JK{M:Str->Type}(y:Str)(d:∀e,M e)(x:Str)(k:M y):M x:=if h:y=x then cast (congrArg M h) k else d x
section
variable (gl:List (Nat×V)) (la:Bool) (sc:Scope) {R:Stmt->S->Prop} (f:∀a,Option {e // R a e})
noncomputable def Gq (a:Expr):Option {e // eR gl la sc a e}:=tb (Qf gl 60 la sc a) fun e h=>some ⟨e,60,h⟩
noncomputable def MW (t e:Expr)(p:Pos):Option {s // aF gl R la sc (.Assign [t] e p) s}:=tb (vW (swapsWith e (some t) p.line (vF sc))) fun b c=>tb (vW (swappedStores [t] e (vF sc))) fun r h=>tb (Gq gl la sc e) fun m o=>Bool.casesOn (motive:=fun b=>wT sc e (some t) p b->Option {s // aF gl R la sc (.Assign [t] e p) s}) b (fun c=>Option.casesOn (motive:=fun r=>Eo sc t e r->Option {s // aF gl R la sc (.Assign [t] e p) s}) r (fun h=>tb (O1 (Gq gl la sc) sc t) fun q u=>some ⟨.assign q m,.assign c h u o⟩) (fun l=>Dg (M:=fun t=>Eo sc t e (some l)->Option {s // aF gl R la sc (.Assign [t] e p) s}) (fun _ _=>none) t fun x k z h=>whenT (l.all (fun n=>aO n&&sc.names.lookup n==some .local)&&decide l.Nodup) fun g=>some ⟨.swap (l.map aL) m,.swap h g o⟩) h) (fun c=>onName (M:=fun t=>wT sc e (some t) p true->Option {s // aF gl R la sc (.Assign [t] e p) s}) (fun _ _=>none) t (fun y A c=>whenT (a8 y&&sc.names.lookup y==some .local&&shape e==6) fun g=>some ⟨.asgc (aL y) m,.asgc c g o⟩) c) c
noncomputable def Gp (x c:Option Expr)(p:Pos):Option {s // aF gl R la sc (.Raise x c p) s}:=onSome (M:=fun x=>Option {s // aF gl R la sc (.Raise x c p) s}) (fun _=>some ⟨.stuck,.stuck⟩) x fun x=>JJ (M:=fun x=>Option {s // aF gl R la sc (.Raise (some x) c p) s}) (fun _=>some ⟨.stuck,.stuck⟩) x fun q n j cp=>onName (M:=fun q=>Option {s // aF gl R la sc (.Raise (some (.Call q n j cp)) c p) s}) (fun _=>some ⟨.stuck,.stuck⟩) q fun r m=>Mw (M:=fun r=>Option {s // aF gl R la sc (.Raise (some (.Call (.Name r m) n j cp)) c p) s}) (fun _=>some ⟨.stuck,.stuck⟩) r<|onTwo (M:=fun n=>Option {s // aF gl R la sc (.Raise (some (.Call (.Name aU m) n j cp)) c p) s}) (fun _=>some ⟨.stuck,.stuck⟩) n fun e a=>rN (M:=fun e=>Option {s // aF gl R la sc (.Raise (some (.Call (.Name aU m) [e,a] j cp)) c p) s}) (fun _=>some ⟨.stuck,.stuck⟩) e fun k t u=>Ii (M:=fun k=>Option {s // aF gl R la sc (.Raise (some (.Call (.Name aU m) [.Constant k t u,a] j cp)) c p) s}) (fun _=>some ⟨.stuck,.stuck⟩) k fun w=>List.casesOn (motive:=fun j=>Option {s // aF gl R la sc (.Raise (some (.Call (.Name aU m) [.Constant (.str w) t u,a] j cp)) c p) s}) j (Option.casesOn (motive:=fun c=>Option {s // aF gl R la sc (.Raise (some (.Call (.Name aU m) [.Constant (.str w) t u,a] [] cp)) c p) s}) c (whenT (sc.names.lookup aU==some .globalImplicit) fun g=>tb (Gq gl la sc a) fun z h=>some ⟨.raise z,.raise g h⟩) fun _=>some ⟨.stuck,.stuck⟩) fun _ _=>some ⟨.stuck,.stuck⟩
noncomputable def Oz (b:List Stmt)(H:List ExceptHandler)(p:Pos):Option {s // aF gl R la sc (.Try b H [] [] p) s}:=tb (jh f b) fun b' h1=>xO (M:=fun H=>Option {s // aF gl R la sc (.Try b H [] [] p) s}) (fun _=>none) H fun h=>ExceptHandler.casesOn (motive_4:=fun h=>Option {s // aF gl R la sc (.Try b [h] [] [] p) s}) h fun r C bd k=>onSome (M:=fun r=>Option {s // aF gl R la sc (.Try b [.ExceptHandler r C bd k] [] [] p) s}) (fun _=>none) r fun r=>onName (M:=fun r=>Option {s // aF gl R la sc (.Try b [.ExceptHandler (some r) C bd k] [] [] p) s}) (fun _=>none) r fun x l=>Mw (M:=fun x=>Option {s // aF gl R la sc (.Try b [.ExceptHandler (some (.Name x l)) C bd k] [] [] p) s}) (fun _=>none) x<|onSome (M:=fun C=>Option {s // aF gl R la sc (.Try b [.ExceptHandler (some (.Name aU l)) C bd k] [] [] p) s}) (fun _=>none) C fun y=>xO (M:=fun bd=>Option {s // aF gl R la sc (.Try b [.ExceptHandler (some (.Name aU l)) (some y) bd k] [] [] p) s}) (fun _=>none) bd fun J=>Mv (M:=fun J=>Option {s // aF gl R la sc (.Try b [.ExceptHandler (some (.Name aU l)) (some y) [J] k] [] [] p) s}) (fun _=>none) J fun o rp=>onSome (M:=fun o=>Option {s // aF gl R la sc (.Try b [.ExceptHandler (some (.Name aU l)) (some y) [.Return o rp] k] [] [] p) s}) (fun _=>none) o fun e=>Dg (M:=fun e=>Option {s // aF gl R la sc (.Try b [.ExceptHandler (some (.Name aU l)) (some y) [.Return (some e) rp] k] [] [] p) s}) (fun _=>none) e fun K t u=>onTwo (M:=fun K=>Option {s // aF gl R la sc (.Try b [.ExceptHandler (some (.Name aU l)) (some y) [.Return (some (.Tuple K t u)) rp] k] [] [] p) s}) (fun _=>none) K fun L D=>rN (M:=fun L=>Option {s // aF gl R la sc (.Try b [.ExceptHandler (some (.Name aU l)) (some y) [.Return (some (.Tuple [L,D] t u)) rp] k] [] [] p) s}) (fun _=>none) L fun c F G=>Ii (M:=fun c=>Option {s // aF gl R la sc (.Try b [.ExceptHandler (some (.Name aU l)) (some y) [.Return (some (.Tuple [.Constant c F G,D] t u)) rp] k] [] [] p) s}) (fun _=>none) c fun w=>Df (M:=fun D=>Option {s // aF gl R la sc (.Try b [.ExceptHandler (some (.Name aU l)) (some y) [.Return (some (.Tuple [.Constant (.str w) F G,D] t u)) rp] k] [] [] p) s}) (fun _=>none) D fun o z N=>Og (M:=fun z=>Option {s // aF gl R la sc (.Try b [.ExceptHandler (some (.Name aU l)) (some y) [.Return (some (.Tuple [.Constant (.str w) F G,.Attribute o z N] t u)) rp] k] [] [] p) s}) (fun _=>none) z<|onName (M:=fun o=>Option {s // aF gl R la sc (.Try b [.ExceptHandler (some (.Name aU l)) (some y) [.Return (some (.Tuple [.Constant (.str w) F G,.Attribute o (Str.ofString "at") N] t u)) rp] k] [] [] p) s}) (fun _=>none) o fun P yp=>JK (M:=fun P=>Option {s // aF gl R la sc (.Try b [.ExceptHandler (some (.Name aU l)) (some y) [.Return (some (.Tuple [.Constant (.str w) F G,.Attribute (.Name P yp) (Str.ofString "at") N] t u)) rp] k] [] [] p) s}) y (fun _=>none) P<|whenT (sc.names.lookup aU==some .globalImplicit&&a8 y&&sc.names.lookup y==some .local&&decide (w.cps.toList.length<=1000000)) fun g=>some ⟨.try b' (aL y) w.cps.toList,.try g h1⟩
noncomputable def OA (s:Stmt):Option {e // aF gl R la sc s e}:=DV (M:=fun s=>Option {e // aF gl R la sc s e}) (fun _=>none) s (fun o p=>tb (JM (Gq gl la sc) o) fun n h=>some ⟨.ret n,.ret h⟩) (fun r e p=>xO (M:=fun r=>Option {s // aF gl R la sc (.Assign r e p) s}) (fun _=>none) r fun t=>MW gl la sc t e p) (fun t A a o p=>List.casesOn (motive:=fun o=>Option {s // aF gl R la sc (.For t A a o p) s}) o (tb (O1 (Gq gl la sc) sc t) fun i c=>tb (Gq gl la sc A) fun u g=>tb (jh f a) fun j v=>some ⟨.for i u j,.for c g v⟩) fun _ _=>none) (fun t a o p=>List.casesOn (motive:=fun o=>Option {s // aF gl R la sc (.While t a o p) s}) o (tb (Gq gl la sc t) fun i c=>tb (jh f a) fun j g=>some ⟨.while i j,.while c g⟩) fun _ _=>none) (fun t a b p=>tb (Gq gl la sc t) fun i c=>tb (jh f a) fun j g=>tb (jh f b) fun D v=>some ⟨.ite i j D,.ite c g v⟩) (Gp gl la sc) (fun b y o d p=>List.casesOn (motive:=fun o=>Option {s // aF gl R la sc (.Try b y o d p) s}) o (List.casesOn (motive:=fun d=>Option {s // aF gl R la sc (.Try b y [] d p) s}) d (Oz gl la sc f b y p) fun _ _=>none) fun _ _=>none) (fun e p=>tb (vW (swapsWith e none p.line (vF sc))) fun b c=>Bool.casesOn (motive:=fun b=>wT sc e none p b->Option {s // aF gl R la sc (.Expr e p) s}) b (fun c=>tb (Gq gl la sc e) fun n g=>some ⟨.expr n,.expr c g⟩) (fun _=>none) c) (fun p=>some ⟨.cont,.cont⟩)
noncomputable def Qh (n:Nat):∀s:Stmt,Option {e // HE gl la sc n s e}:=Nat.rec (motive:=fun n=>∀s,Option {e // HE gl la sc n s e}) (fun _=>none) (fun n b=>OA gl la sc b) n
noncomputable def dC (b:List Stmt):Option (List S):=(jh (Qh gl la sc 60) b).map (·.1)
end
noncomputable def aZ:List (Nat×V):=[(297766832215,.tup [.int 0,.int 9,.int 10,.int 12,.int 13,.int 32]),(393474046790707687736644,.tup [.int 40,.int 41,.int 60,.int 62,.int 91,.int 93,.int 123,.int 125,.int 47,.int 37]),(1259370070149258168652,.int 10),(86115525870930,.int 13),(23729957600317251,.int 37),(168691431999688002850409912965040555157938987290445,.int 40),(1398099024,.int 43),(357913479501,.int 45),(362090680144,.int 46),(1330791770,.int 48),(336170467664,.int 40),(94623574556639487287315523,.int 41),(1397966156,.int 60),(23157176264905287,.int 62),(310634433619,.int 47),(1334164733406350623042,.int 92),(1213415752,.int 35),(357795580243,.tup [.int 91,.int 93,.int 123,.int 125]),(341565697373278712319821,.int 40),(7234924,.bi .len),(7235949,.bi .min),(7889261,.bi .max),(7561825,.bi .abs),(7497827,.bi .chr),(478793196199587447665513,.bi .isinstance),(110386908131187,.bi .sorted),(7630441,.ty .int),(1819242338,.ty .bool),(1953720684,.ty .list),(1952672100,.ty .dict),(495623371106,.ty .bytes),(435526984050,.ty .range),(435611006324,.ty .tuple),(465674794847,.fn 0),(7310583992529417065,.fn 8),(540146928488703160447849,.fn 9),(1871368763439650403177,.fn 10),(125823003817283,.cls 11),(540405614369546613842256,.cls 13),(140747575933925759975848275,.cls 14),(30506420032202052,.cls 21),(2148497780760730102131,.fn 22),(33542163547224888126325482866,.fn 23),(1926852275280031540584,.fn 33),(31393845587844349276429839472,.fn 34),(2148497780760579498350,.fn 35),(465491485551,.fn 36),(9142618093730097130408710992741,.fn 37),(30506441441044844,.fn 38),(488440487847241706923368,.fn 39),(2036449905473997403506,.fn 40),(573209689715710846180759391534081380,.fn 41),(521331175801343436154222,.fn 42),(31075950043034473,.fn 43),(1701667150,.cls 45),(113723913172051,.cls 46),(120265081254995,.cls 47),(1870285927043859637586,.cls 48),(28832903122020715,.fn 49),(521404241352874649218932,.fn 50),(1684828020,.fn 51),(7381223263763063152,.fn 52),(7381223216518292836,.fn 53),(435626799686,.cls 56),(7308338789785498473,.fn 57),(2056401124050539289903442386706804,.fn 58),(479125093479839100465015,.fn 59),(122656023930838852516801648,.fn 60),(28832903389735268,.fn 61),(122618043305266545081412707,.fn 62),(132299207323160198458794607,.fn 63),(140704780144064495041471858,.fn 64),(479125093479839099348338,.fn 65),(139505594349162194190558578,.fn 66),(7954887872146926687,.fn 68),(2202184329901648211039,.fn 69),(1980964996124558584927,.fn 70),(139547873497035230058474591,.fn 71),(31702112245058292667455204447,.fn 72),(140704780144064495360240735,.fn 73),(2147777185029292125279,.fn 74),(1852267876974959094879,.fn 75),(1851692548719632280671,.fn 76),(573203925363307218824287,.fn 77),(2146985679593805016159,.fn 78),(474346595241720971095135,.fn 79),(2360474187568190581770479126801503,.fn 80),(7812726516233628767,.fn 81),(604423999323753020695265368799800415,.fn 82),(170130231133014954970283571031338488632456794696799,.fn 83),(7823724,.fn 84)]
noncomputable def j6:Fn:=⟨[1701080931],[],[],[.ret [.cmp (.loc 1701080931) .isin (.val (.tup [.int 0,.int 9,.int 10,.int 12,.int 13,.int 32]))]]⟩
noncomputable def hU:Fn:=⟨[1701080931],[],[],[.ret [.and [.cmp (.loc 1701080931) .ge (.val (.int 0)),.cmp (.loc 1701080931) .notin (.val (.tup [.int 0,.int 9,.int 10,.int 12,.int 13,.int 32])),.cmp (.loc 1701080931) .notin (.val (.tup [.int 40,.int 41,.int 60,.int 62,.int 91,.int 93,.int 123,.int 125,.int 47,.int 37]))]]]⟩
noncomputable def eA:Fn:=⟨[1718379891,1635017060,29793,6581861],[.int 0,.int (-1)],[],[.assign (.attr (.loc 1718379891) 1635017060) (.loc 1635017060),.assign (.attr (.loc 1718379891) 29793) (.loc 29793),.assign (.attr (.loc 1718379891) 6581861) (.ite (.cmp (.loc 6581861) .lt (.val (.int 0))) (.call (.val (.bi .len)) [.loc 1635017060]) (.call (.val (.bi .min)) [.loc 6581861,.call (.val (.bi .len)) [.loc 1635017060]]))]⟩
noncomputable def d4:Fn:=⟨[1718379891],[],[],[.ret [.cmp (.attr (.loc 1718379891) 29793) .ge (.attr (.loc 1718379891) 6581861)]]⟩
noncomputable def f9:Fn:=⟨[1718379891,431130765409],[.int 0],[],[.assign (.loc 1953460339) (.bin .add (.attr (.loc 1718379891) 29793) (.loc 431130765409)),.ret [.ite (.cmp (.loc 1953460339) .lt (.attr (.loc 1718379891) 6581861)) (.sub (.attr (.loc 1718379891) 1635017060) (.loc 1953460339)) (.neg (.val (.int 1)))]]⟩
noncomputable def gh:Fn:=⟨[1718379891],[],[],[.ite (.cmp (.attr (.loc 1718379891) 29793) .ge (.attr (.loc 1718379891) 6581861)) [.ret [.neg (.val (.int 1))]] [],.assign (.loc 1701080931) (.sub (.attr (.loc 1718379891) 1635017060) (.attr (.loc 1718379891) 29793)),.assign (.attr (.loc 1718379891) 29793) (.bin .add (.attr (.loc 1718379891) 29793) (.val (.int 1))),.ret [.loc 1701080931]]⟩
noncomputable def eT:Fn:=⟨[1718379891,1685221239],[],[],[.ret [.and [.cmp (.bin .add (.attr (.loc 1718379891) 29793) (.call (.val (.bi .len)) [.loc 1685221239])) .le (.attr (.loc 1718379891) 6581861),.cmp (.slice (.attr (.loc 1718379891) 1635017060) [.attr (.loc 1718379891) 29793] [.bin .add (.attr (.loc 1718379891) 29793) (.call (.val (.bi .len)) [.loc 1685221239])]) .eq (.loc 1685221239)]]]⟩
noncomputable def gb:Fn:=⟨[1718379891,1685221239],[],[],[.ite (.not (.meth (.loc 1718379891) 126943972390003 [.loc 1685221239])) [.ret [.val (.bool false)]] [],.assign (.attr (.loc 1718379891) 29793) (.bin .add (.attr (.loc 1718379891) 29793) (.call (.val (.bi .len)) [.loc 1685221239])),.ret [.val (.bool true)]]⟩
noncomputable def dA:E:=.and [.cmp (.attr (.loc 1718379891) 29793) .lt (.attr (.loc 1718379891) 6581861),.cmp (.sub (.attr (.loc 1718379891) 1635017060) (.attr (.loc 1718379891) 29793)) .notin (.tup [.val (.int 10),.val (.int 13)])]
noncomputable def dz:List S:=[.assign (.attr (.loc 1718379891) 29793) (.bin .add (.attr (.loc 1718379891) 29793) (.val (.int 1)))]
noncomputable def dy:E:=.cmp (.attr (.loc 1718379891) 29793) .lt (.attr (.loc 1718379891) 6581861)
noncomputable def dw:List S:=[.assign (.loc 1701080931) (.sub (.attr (.loc 1718379891) 1635017060) (.attr (.loc 1718379891) 29793)),.ite (.cmp (.loc 1701080931) .eq (.val (.int 37))) [.while dA dz] [.ite (.cmp (.loc 1701080931) .isin (.val (.tup [.int 0,.int 9,.int 10,.int 12,.int 13,.int 32]))) [.assign (.attr (.loc 1718379891) 29793) (.bin .add (.attr (.loc 1718379891) 29793) (.val (.int 1)))] [.ret []]]]
noncomputable def cW:Fn:=⟨[1718379891],[],[],[.while dy dw]⟩
noncomputable def cQ:E:=.and [.cmp (.attr (.loc 1718379891) 29793) .lt (.attr (.loc 1718379891) 6581861),.call (.val (.fn 9)) [.sub (.attr (.loc 1718379891) 1635017060) (.attr (.loc 1718379891) 29793)]]
noncomputable def cP:List S:=[.assign (.attr (.loc 1718379891) 29793) (.bin .add (.attr (.loc 1718379891) 29793) (.val (.int 1)))]
noncomputable def cj:Fn:=⟨[1718379891],[],[],[.assign (.loc 500153084262) (.attr (.loc 1718379891) 29793),.while cQ cP,.ret [.slice (.attr (.loc 1718379891) 1635017060) [.loc 500153084262] [.attr (.loc 1718379891) 29793]]]⟩
noncomputable def b6:Fn:=⟨[1718379891],[],[],[.ite (.cmp (.meth (.loc 1718379891) 1801807216 []) .eq (.val (.int 13))) [.assign (.attr (.loc 1718379891) 29793) (.bin .add (.attr (.loc 1718379891) 29793) (.val (.int 1))),.ite (.cmp (.meth (.loc 1718379891) 1801807216 []) .eq (.val (.int 10))) [.assign (.attr (.loc 1718379891) 29793) (.bin .add (.attr (.loc 1718379891) 29793) (.val (.int 1)))] [],.ret [.val (.bool true)]] [],.ite (.cmp (.meth (.loc 1718379891) 1801807216 []) .eq (.val (.int 10))) [.assign (.attr (.loc 1718379891) 29793) (.bin .add (.attr (.loc 1718379891) 29793) (.val (.int 1))),.ret [.val (.bool true)]] [],.ret [.val (.bool false)]]⟩
noncomputable def fA:E:=.and [.cmp (.loc 126879296220272) .gt (.val (.int 0)),.cmp (.bin .mod (.loc 7368564) (.val (.int 10))) .eq (.val (.int 0))]
noncomputable def fz:List S:=[.assign (.loc 7368564) (.bin .fdiv (.loc 7368564) (.val (.int 10))),.assign (.loc 126879296220272) (.bin .sub (.loc 126879296220272) (.val (.int 1)))]
noncomputable def fy:Fn:=⟨[1718379891,7368564,126879296220272],[],[],[.while fA fz,.assign (.attr (.loc 1718379891) 7368564) (.loc 7368564),.assign (.attr (.loc 1718379891) 126879296220272) (.loc 126879296220272)]⟩
noncomputable def dj:T:=.loc 1701080931
noncomputable def b7:List S:=[.ite (.and [.cmp (.loc 1701080931) .eq (.val (.int 46)),.cmp (.loc 126879296220272) .lt (.val (.int 0))]) [.assign (.loc 126879296220272) (.val (.int 0))] [.ite (.cmp2 (.val (.int 48)) .le (.loc 1701080931) .le (.bin .add (.val (.int 48)) (.val (.int 9)))) [.assign (.loc 7368564) (.bin .sub (.bin .add (.bin .mul (.val (.int 10)) (.loc 7368564)) (.loc 1701080931)) (.val (.int 48))),.assign (.loc 8317129755802301806) (.bin .add (.loc 8317129755802301806) (.val (.int 1))),.ite (.cmp (.loc 126879296220272) .ge (.val (.int 0))) [.assign (.loc 126879296220272) (.bin .add (.loc 126879296220272) (.val (.int 1)))] []] [.ret [.val .none]]]]
noncomputable def fG:Fn:=⟨[126943755527023],[],[],[.assign (.loc 474416112994) (.val (.int 0)),.ite (.and [.cmp (.call (.val (.bi .len)) [.loc 126943755527023]) .gt (.val (.int 0)),.or [.cmp (.sub (.loc 126943755527023) (.val (.int 0))) .eq (.val (.int 43)),.cmp (.sub (.loc 126943755527023) (.val (.int 0))) .eq (.val (.int 45))]]) [.assign (.loc 474416112994) (.val (.int 1))] [],.assign (.loc 7368564) (.val (.int 0)),.assign (.loc 8317129755802301806) (.val (.int 0)),.assign (.loc 126879296220272) (.neg (.val (.int 1))),.for dj (.slice (.loc 126943755527023) [.loc 474416112994] []) b7,.ite (.or [.cmp (.loc 8317129755802301806) .eq (.val (.int 0)),.cmp (.loc 8317129755802301806) .gt (.val (.int 40))]) [.ret [.val .none]] [],.ite (.cmp (.sub (.loc 126943755527023) (.val (.int 0))) .eq (.val (.int 45))) [.assign (.loc 7368564) (.neg (.loc 7368564))] [],.ret [.ite (.cmp (.loc 126879296220272) .lt (.val (.int 0))) (.loc 7368564) (.call (.val (.cls 21)) [.loc 7368564,.loc 126879296220272])]]⟩
noncomputable def i5:Fn:=⟨[1701080931],[],[],[.ite (.cmp2 (.val (.int 48)) .le (.loc 1701080931) .le (.val (.int 57))) [.ret [.bin .sub (.loc 1701080931) (.val (.int 48))]] [],.ite (.cmp2 (.val (.int 65)) .le (.loc 1701080931) .le (.val (.int 70))) [.ret [.bin .sub (.loc 1701080931) (.val (.int 55))]] [],.ite (.cmp2 (.val (.int 97)) .le (.loc 1701080931) .le (.val (.int 102))) [.ret [.bin .sub (.loc 1701080931) (.val (.int 87))]] [],.ret [.neg (.val (.int 1))]]⟩
noncomputable def iK:E:=.cmp (.loc 435459026032) .lt (.call (.val (.bi .len)) [.loc 126943755527023])
noncomputable def iJ:List S:=[.assign (.loc 1701080931) (.sub (.loc 126943755527023) (.loc 435459026032)),.assign (.loc 435459026032) (.bin .add (.loc 435459026032) (.val (.int 1))),.ite (.and [.cmp (.loc 1701080931) .eq (.val (.int 35)),.cmp (.bin .add (.loc 435459026032) (.val (.int 1))) .lt (.call (.val (.bi .len)) [.loc 126943755527023])]) [.assign (.loc 1751607656) (.call (.val (.fn 33)) [.sub (.loc 126943755527023) (.loc 435459026032)]),.assign (.loc 7827308) (.call (.val (.fn 33)) [.sub (.loc 126943755527023) (.bin .add (.loc 435459026032) (.val (.int 1)))]),.ite (.and [.cmp (.loc 1751607656) .ge (.val (.int 0)),.cmp (.loc 7827308) .ge (.val (.int 0))]) [.assign (.loc 1701080931) (.bin .add (.bin .mul (.val (.int 16)) (.loc 1751607656)) (.loc 7827308)),.assign (.loc 435459026032) (.bin .add (.loc 435459026032) (.val (.int 2)))] []] [],.ite (.cmp (.loc 1701080931) .eq (.val (.int 0))) [.raise (.loc 29793)] [],.expr (.meth (.loc 495773510003) 110425311047777 [.call (.val (.bi .chr)) [.loc 1701080931]])]
noncomputable def ja:Fn:=⟨[126943755527023,29793],[.int (-1)],[],[.assign (.loc 495773510003) (.list []),.assign (.loc 435459026032) (.val (.int 0)),.while iK iJ,.ret [.meth (.val (.str [])) 1852403562 [.loc 495773510003]]]⟩
noncomputable def gk:E:=.not (.meth (.loc 125823003817315) 28550397352178537 [])
noncomputable def gj:List S:=[.ite (.meth (.loc 125823003817315) 7956982154510455827895616629619 []) [.expr (.meth (.loc 495622319971) 110425311047777 [.val (.int 10)]),.cont] [],.assign (.loc 1701080931) (.meth (.loc 125823003817315) 1701536116 []),.ite (.cmp (.loc 1701080931) .eq (.val (.int 92))) [.expr (.meth (.loc 495622319971) 110425311311973 [.call (.val (.fn 37)) [.loc 125823003817315]]),.cont] [],.ite (.cmp (.loc 1701080931) .eq (.val (.int 40))) [.assign (.loc 448630121828) (.bin .add (.loc 448630121828) (.val (.int 1)))] [],.ite (.cmp (.loc 1701080931) .eq (.val (.int 41))) [.assign (.loc 448630121828) (.bin .sub (.loc 448630121828) (.val (.int 1))),.ite (.cmp (.loc 448630121828) .eq (.val (.int 0))) [.ret [.call (.val (.ty .bytes)) [.loc 495622319971]]] []] [],.expr (.meth (.loc 495622319971) 110425311047777 [.loc 1701080931])]
noncomputable def lP:Fn:=⟨[125823003817315],[],[],[.assign (.loc 29113321703960687) (.bin .sub (.attr (.loc 125823003817315) 29793) (.val (.int 1))),.assign (.loc 495622319971) (.list []),.assign (.loc 448630121828) (.val (.int 1)),.while gk gj,.raise (.loc 29113321703960687)]⟩
noncomputable def gG:E:=.not (.meth (.loc 125823003817315) 28550397352178537 [])
noncomputable def gF:List S:=[.assign (.loc 1701080931) (.meth (.loc 125823003817315) 1701536116 []),.ite (.cmp (.loc 1701080931) .eq (.val (.int 62))) [.ite (.cmp (.bin .mod (.call (.val (.bi .len)) [.cell 126879615705448]) (.val (.int 2))) .eq (.val (.int 1))) [.expr (.meth (.cell 126879615705448) 110425311047777 [.val (.int 0)])] [],.ret [.call (.val (.ty .bytes)) [.comp [126879615705448] 435459026032 (.call (.val (.ty .range)) [.val (.int 0),.call (.val (.bi .len)) [.cell 126879615705448],.val (.int 2)]) [] (.bin .add (.bin .mul (.val (.int 16)) (.sub (.cell 126879615705448) (.loc 435459026032))) (.sub (.cell 126879615705448) (.bin .add (.loc 435459026032) (.val (.int 1)))))]]] [],.assign (.loc 448630255479) (.call (.val (.fn 33)) [.loc 1701080931]),.ite (.cmp (.loc 448630255479) .ge (.val (.int 0))) [.expr (.meth (.cell 126879615705448) 110425311047777 [.loc 448630255479])] [.ite (.not (.call (.val (.fn 8)) [.loc 1701080931])) [.raise (.bin .sub (.attr (.loc 125823003817315) 29793) (.val (.int 1)))] []]]
noncomputable def hO:Fn:=⟨[125823003817315],[],[126879615705448],[.assign (.loc 29113321703960687) (.bin .sub (.attr (.loc 125823003817315) 29793) (.val (.int 1))),.assign (.cell 126879615705448) (.list []),.while gG gF,.raise (.loc 29113321703960687)]⟩
noncomputable def jb:Fn:=⟨[125823003817315,29793],[],[],[.assign (.loc 7239026) (.meth (.loc 125823003817315) 35399069105435650322875507060 []),.assign (.loc 125779768604014) (.call (.val (.fn 23)) [.loc 7239026]),.ite (.cmp (.loc 125779768604014) .is (.val .none)) [.ret [.tup [.val (.str [119,111,114,100]),.loc 7239026,.loc 29793]]] [],.ite (.call (.val (.bi .isinstance)) [.loc 125779768604014,.val (.ty .int)]) [.ret [.tup [.val (.str [105,110,116]),.loc 125779768604014,.loc 29793]]] [],.ret [.tup [.val (.str [114,101,97,108]),.loc 125779768604014,.loc 29793]]]⟩
noncomputable def dH:Fn:=⟨[125823003817315,1701080931,29793],[],[],[.ite (.cmp (.loc 1701080931) .eq (.val (.int 47))) [.expr (.meth (.loc 125823003817315) 1701536116 []),.ret [.tup [.val (.str [110,97,109,101]),.call (.val (.fn 35)) [.meth (.loc 125823003817315) 35399069105435650322875507060 [],.loc 29793],.loc 29793]]] [],.ite (.cmp (.loc 1701080931) .eq (.val (.int 40))) [.expr (.meth (.loc 125823003817315) 1701536116 []),.ret [.tup [.val (.str [115,116,114,105,110,103]),.call (.val (.fn 38)) [.loc 125823003817315],.loc 29793]]] [],.ite (.meth (.loc 125823003817315) 1885956979 [.val (.bytes [60,60])]) [.ret [.tup [.val (.str [115,105,103,110]),.val (.bytes [60,60]),.loc 29793]]] [],.ite (.meth (.loc 125823003817315) 1885956979 [.val (.bytes [62,62])]) [.ret [.tup [.val (.str [115,105,103,110]),.val (.bytes [62,62]),.loc 29793]]] [],.ite (.cmp (.loc 1701080931) .eq (.val (.int 60))) [.expr (.meth (.loc 125823003817315) 1701536116 []),.ret [.tup [.val (.str [104,101,120]),.call (.val (.fn 39)) [.loc 125823003817315],.loc 29793]]] [],.ite (.cmp (.loc 1701080931) .isin (.val (.tup [.int 91,.int 93,.int 123,.int 125]))) [.expr (.meth (.loc 125823003817315) 1701536116 []),.ret [.tup [.val (.str [115,105,103,110]),.call (.val (.ty .bytes)) [.list [.loc 1701080931]],.loc 29793]]] [],.raise (.loc 29793)]⟩
noncomputable def hY:Fn:=⟨[125823003817315],[],[],[.expr (.meth (.loc 125823003817315) 479106432534407826467699 []),.assign (.loc 29793) (.attr (.loc 125823003817315) 29793),.assign (.loc 1701080931) (.meth (.loc 125823003817315) 1801807216 []),.ite (.cmp (.loc 1701080931) .eq (.neg (.val (.int 1)))) [.ret [.tup [.val (.str [101,110,100]),.val (.bytes []),.loc 29793]]] [],.ite (.or [.cmp (.loc 1701080931) .eq (.val (.int 47)),.cmp (.loc 1701080931) .eq (.val (.int 40)),.cmp (.loc 1701080931) .eq (.val (.int 41)),.cmp (.loc 1701080931) .eq (.val (.int 60)),.cmp (.loc 1701080931) .eq (.val (.int 62)),.cmp (.loc 1701080931) .isin (.val (.tup [.int 91,.int 93,.int 123,.int 125]))]) [.ret [.call (.val (.fn 41)) [.loc 125823003817315,.loc 1701080931,.loc 29793]]] [],.ret [.call (.val (.fn 40)) [.loc 125823003817315,.loc 29793]]]⟩
noncomputable def lM:Fn:=⟨[474147942260,1852270963],[],[],[.ret [.and [.cmp (.sub (.loc 474147942260) (.val (.int 0))) .eq (.val (.str [115,105,103,110])),.cmp (.sub (.loc 474147942260) (.val (.int 1))) .eq (.loc 1852270963)]]]⟩
noncomputable def i4:Fn:=⟨[1718379891,1954047348],[],[],[.assign (.attr (.loc 1718379891) 1954047348) (.loc 1954047348)]⟩
noncomputable def eB:Fn:=⟨[1718379891,126943755527023,132376938115945],[.bool false],[],[.assign (.attr (.loc 1718379891) 126943755527023) (.loc 126943755527023),.assign (.attr (.loc 1718379891) 132376938115945) (.loc 132376938115945)]⟩
noncomputable def d5:Fn:=⟨[1718379891,125779768604014,521515500513457970505063],[],[],[.assign (.attr (.loc 1718379891) 125779768604014) (.loc 125779768604014),.assign (.attr (.loc 1718379891) 521515500513457970505063) (.loc 521515500513457970505063)]⟩
noncomputable def bU:Fn:=⟨[435761734006],[],[],[.ite (.cmp (.loc 435761734006) .is (.val .none)) [.ret [.val (.str [110,117,108,108])]] [],.ite (.call (.val (.bi .isinstance)) [.loc 435761734006,.val (.ty .bool)]) [.ret [.val (.str [116,114,117,116,104])]] [],.ite (.call (.val (.bi .isinstance)) [.loc 435761734006,.val (.ty .int)]) [.ret [.val (.str [105,110,116])]] [],.ite (.call (.val (.bi .isinstance)) [.loc 435761734006,.val (.cls 21)]) [.ret [.val (.str [114,101,97,108])]] [],.ite (.call (.val (.bi .isinstance)) [.loc 435761734006,.val (.cls 45)]) [.ret [.val (.str [110,97,109,101])]] [],.ite (.call (.val (.bi .isinstance)) [.loc 435761734006,.val (.cls 46)]) [.ret [.val (.str [115,116,114,105,110,103])]] [],.ite (.call (.val (.bi .isinstance)) [.loc 435761734006,.val (.ty .list)]) [.ret [.val (.str [97,114,114,97,121])]] [],.ite (.call (.val (.bi .isinstance)) [.loc 435761734006,.val (.ty .dict)]) [.ret [.val (.str [100,105,99,116])]] [],.ite (.call (.val (.bi .isinstance)) [.loc 435761734006,.val (.cls 47)]) [.ret [.val (.str [115,116,114,101,97,109])]] [],.ite (.call (.val (.bi .isinstance)) [.loc 435761734006,.val (.cls 48)]) [.ret [.val (.str [114,101,102])]] [],.stuck]⟩
noncomputable def h6:Fn:=⟨[1684957547,435761734006],[],[],[.ite (.cmp (.loc 1684957547) .eq (.val (.str [110,117,108,108]))) [.ret [.tup [.val (.str [110,117,108,108])]]] [],.ite (.cmp (.loc 1684957547) .eq (.val (.str [116,114,117,116,104]))) [.ret [.tup [.val (.str [116,114,117,116,104]),.ite (.loc 435761734006) (.val (.int 1)) (.val (.int 0))]]] [],.ite (.cmp (.loc 1684957547) .eq (.val (.str [105,110,116]))) [.ret [.tup [.val (.str [105,110,116]),.loc 435761734006]]] [],.ite (.cmp (.loc 1684957547) .eq (.val (.str [114,101,97,108]))) [.ret [.tup [.val (.str [114,101,97,108]),.attr (.loc 435761734006) 7368564,.attr (.loc 435761734006) 126879296220272]]] [],.ite (.cmp (.loc 1684957547) .eq (.val (.str [110,97,109,101]))) [.ret [.tup [.val (.str [110,97,109,101]),.attr (.loc 435761734006) 1954047348]]] [],.ite (.cmp (.loc 1684957547) .eq (.val (.str [115,116,114,105,110,103]))) [.ret [.tup [.val (.str [115,116,114,105,110,103]),.call (.val (.ty .bytes)) [.attr (.loc 435761734006) 126943755527023]]]] [],.ret [.tup [.val (.str [114,101,102]),.attr (.loc 435761734006) 125779768604014,.attr (.loc 435761734006) 521515500513457970505063]]]⟩
noncomputable def jc:Fn:=⟨[435761734006],[],[435761734006],[.assign (.loc 1684957547) (.call (.val (.fn 49)) [.cell 435761734006]),.ite (.cmp (.loc 1684957547) .eq (.val (.str [97,114,114,97,121]))) [.ret [.bin .add (.tup [.val (.str [97,114,114,97,121])]) (.call (.val (.ty .tuple)) [.comp [] 1953653104 (.cell 435761734006) [] (.call (.val (.fn 51)) [.loc 1953653104])])]] [],.ite (.cmp (.loc 1684957547) .eq (.val (.str [100,105,99,116]))) [.ret [.bin .add (.tup [.val (.str [100,105,99,116])]) (.call (.val (.ty .tuple)) [.comp [435761734006] 7955819 (.call (.val (.bi .sorted)) [.cell 435761734006]) [.cmp (.sub (.cell 435761734006) (.loc 7955819)) .isnot (.val .none)] (.tup [.loc 7955819,.call (.val (.fn 51)) [.sub (.cell 435761734006) (.loc 7955819)]])])]] [],.ite (.cmp (.loc 1684957547) .eq (.val (.str [115,116,114,101,97,109]))) [.ret [.tup [.val (.str [115,116,114,101,97,109]),.call (.val (.fn 51)) [.attr (.cell 435761734006) 1684104552],.call (.val (.ty .bytes)) [.attr (.cell 435761734006) 126943755527023]]]] [],.ret [.call (.val (.fn 50)) [.loc 1684957547,.cell 435761734006]]]⟩
noncomputable def d6:Fn:=⟨[435761734006],[],[435761734006],[.assign (.loc 1684957547) (.call (.val (.fn 49)) [.cell 435761734006]),.ite (.cmp (.loc 1684957547) .eq (.val (.str [97,114,114,97,121]))) [.ret [.call (.val (.ty .list)) [.cell 435761734006]]] [],.ite (.cmp (.loc 1684957547) .eq (.val (.str [100,105,99,116]))) [.ret [.comp [435761734006] 7955819 (.call (.val (.bi .sorted)) [.cell 435761734006]) [] (.sub (.cell 435761734006) (.loc 7955819))]] [],.ite (.cmp (.loc 1684957547) .eq (.val (.str [115,116,114,101,97,109]))) [.ret [.call (.val (.fn 52)) [.attr (.cell 435761734006) 1684104552]]] [],.ret [.list []]]⟩
noncomputable def fC:T:=.loc 1953653104
noncomputable def fB:List S:=[.expr (.meth (.loc 1701734764) 110425311047777 [.tup [.loc 1953653104,.bin .add (.loc 435778708065) (.val (.int 1))]])]
noncomputable def bf:E:=.loc 1701734764
noncomputable def be:List S:=[.assign (.tup [.loc 1701995880,.loc 435778708065]) (.meth (.loc 1701734764) 7368560 []),.ite (.cmp (.call (.val (.fn 49)) [.loc 1701995880]) .isin (.tup [.val (.str [97,114,114,97,121]),.val (.str [100,105,99,116]),.val (.str [115,116,114,101,97,109])])) [.assign (.loc 32777976813020516) (.call (.val (.bi .max)) [.loc 32777976813020516,.bin .add (.loc 435778708065) (.val (.int 1))]),.for fC (.call (.val (.fn 52)) [.loc 1701995880]) fB] []]
noncomputable def j5:Fn:=⟨[435761734006],[],[],[.assign (.loc 32777976813020516) (.val (.int 0)),.assign (.loc 1701734764) (.list [.tup [.loc 435761734006,.val (.int 0)]]),.while bf be,.ret [.loc 32777976813020516]]⟩
noncomputable def hJ:Fn:=⟨[1718379891,1802658157],[],[],[.assign (.attr (.loc 1718379891) 1802658157) (.loc 1802658157),.assign (.attr (.loc 1718379891) 495756604521) (.list [])]⟩
noncomputable def dG:Fn:=⟨[1718379891],[],[],[.ret [.and [.cmp (.attr (.loc 1718379891) 1802658157) .eq (.val (.bytes [60,60])),.cmp (.bin .mod (.call (.val (.bi .len)) [.attr (.loc 1718379891) 495756604521]) (.val (.int 2))) .eq (.val (.int 0))]]]⟩
noncomputable def fD:Fn:=⟨[435761734006],[],[],[.ret [.and [.call (.val (.bi .isinstance)) [.loc 435761734006,.val (.ty .int)],.not (.call (.val (.bi .isinstance)) [.loc 435761734006,.val (.ty .bool)]),.cmp (.loc 435761734006) .ge (.val (.int 0))]]]⟩
noncomputable def d7:Fn:=⟨[125823003817315,125779768604014],[],[],[.assign (.loc 435443167856) (.call (.val (.cls 11)) [.attr (.loc 125823003817315) 1635017060,.attr (.loc 125823003817315) 29793,.attr (.loc 125823003817315) 6581861]),.expr (.meth (.loc 435443167856) 479106432534407826467699 []),.assign (.loc 521515500513457970505063) (.call (.val (.fn 23)) [.meth (.loc 435443167856) 35399069105435650322875507060 []]),.expr (.meth (.loc 435443167856) 479106432534407826467699 []),.ite (.or [.not (.call (.val (.fn 57)) [.loc 521515500513457970505063]),.cmp (.meth (.loc 435443167856) 35399069105435650322875507060 []) .ne (.val (.bytes [82]))]) [.ret [.loc 125779768604014]] [],.assign (.attr (.loc 125823003817315) 29793) (.attr (.loc 435443167856) 29793),.ret [.call (.val (.cls 48)) [.loc 125779768604014,.loc 521515500513457970505063]]]⟩
noncomputable def h7:Fn:=⟨[448630255479,29793],[],[],[.ite (.cmp (.loc 448630255479) .eq (.val (.bytes [116,114,117,101]))) [.ret [.val (.bool true)]] [],.ite (.cmp (.loc 448630255479) .eq (.val (.bytes [102,97,108,115,101]))) [.ret [.val (.bool false)]] [],.ite (.cmp (.loc 448630255479) .eq (.val (.bytes [110,117,108,108]))) [.ret [.val .none]] [],.raise (.loc 29793)]⟩
noncomputable def gq:Fn:=⟨[125823003817315,474147942260,599170539855555716570910520482489708],[],[],[.assign (.tup [.loc 1684957547,.loc 448630255479,.loc 29793]) (.loc 474147942260),.ite (.and [.cmp (.loc 1684957547) .eq (.val (.str [105,110,116])),.cmp (.loc 448630255479) .ge (.val (.int 0)),.loc 599170539855555716570910520482489708]) [.ret [.call (.val (.fn 58)) [.loc 125823003817315,.loc 448630255479]]] [],.ite (.or [.cmp (.loc 1684957547) .eq (.val (.str [105,110,116])),.cmp (.loc 1684957547) .eq (.val (.str [114,101,97,108]))]) [.ret [.loc 448630255479]] [],.ite (.cmp (.loc 1684957547) .eq (.val (.str [110,97,109,101]))) [.ret [.call (.val (.cls 45)) [.loc 448630255479]]] [],.ite (.cmp (.loc 1684957547) .eq (.val (.str [115,116,114,105,110,103]))) [.ret [.call (.val (.cls 46)) [.loc 448630255479]]] [],.ite (.cmp (.loc 1684957547) .eq (.val (.str [104,101,120]))) [.ret [.call (.val (.cls 46)) [.loc 448630255479,.val (.bool true)]]] [],.ite (.cmp (.loc 1684957547) .eq (.val (.str [119,111,114,100]))) [.ret [.call (.val (.fn 59)) [.loc 448630255479,.loc 29793]]] [],.ite (.cmp (.loc 1684957547) .eq (.val (.str [101,110,100]))) [.raise (.loc 29793)] [],.raise (.loc 29793)]⟩
noncomputable def jS:T:=.loc 1953460339
noncomputable def jR:List S:=[.assign (.sub (.cell 431349919590) (.attr (.sub (.loc 495756604521) (.loc 1953460339)) 1954047348)) (.sub (.loc 495756604521) (.bin .add (.loc 1953460339) (.val (.int 1))))]
noncomputable def jD:Fn:=⟨[495756604521],[],[431349919590],[.assign (.cell 431349919590) .sdict,.for jS (.call (.val (.ty .range)) [.val (.int 0),.call (.val (.bi .len)) [.loc 495756604521],.val (.int 2)]) jR,.ret [.dcomp [431349919590] 7955819 (.cell 431349919590) [.cmp (.sub (.cell 431349919590) (.loc 7955819)) .isnot (.val .none)] (.loc 7955819) (.sub (.cell 431349919590) (.loc 7955819))]]⟩
noncomputable def eC:Fn:=⟨[126879463993958,448630255479,29793],[],[],[.assign (.loc 29113321703960687) (.ite (.cmp (.loc 448630255479) .eq (.val (.bytes [93]))) (.val (.bytes [91])) (.val (.bytes [60,60]))),.ite (.or [.cmp (.loc 126879463993958) .eq (.list []),.cmp (.attr (.sub (.loc 126879463993958) (.neg (.val (.int 1)))) 1802658157) .ne (.loc 29113321703960687)]) [.raise (.loc 29793)] [],.assign (.loc 435626799718) (.meth (.loc 126879463993958) 7368560 []),.ite (.cmp (.loc 29113321703960687) .eq (.val (.bytes [91]))) [.ret [.attr (.loc 435626799718) 495756604521]] [],.ite (.not (.meth (.loc 435626799718) 2239364072688673775991 [])) [.raise (.loc 29793)] [],.ret [.call (.val (.fn 61)) [.attr (.loc 435626799718) 495756604521]]]⟩
noncomputable def aJ:E:=.val (.bool true)
noncomputable def aI:List S:=[.assign (.tup [.loc 1684957547,.loc 448630255479,.loc 29793]) (.loc 474147942260),.assign (.loc 488440486704836507562857) (.and [.cmp (.loc 1684957547) .eq (.val (.str [115,105,103,110])),.cmp (.loc 448630255479) .isin (.tup [.val (.bytes [91]),.val (.bytes [60,60])])]),.ite (.and [.cmp (.loc 126879463993958) .ne (.list []),.meth (.sub (.loc 126879463993958) (.neg (.val (.int 1)))) 2239364072688673775991 [],.cmp (.loc 1684957547) .ne (.val (.str [110,97,109,101])),.not (.call (.val (.fn 43)) [.loc 474147942260,.val (.bytes [62,62])])]) [.raise (.loc 29793)] [],.ite (.loc 488440486704836507562857) [.ite (.cmp (.call (.val (.bi .len)) [.loc 126879463993958]) .eq (.val (.int 40))) [.raise (.loc 29793)] [],.expr (.meth (.loc 126879463993958) 110425311047777 [.call (.val (.cls 56)) [.loc 448630255479]])] [.ite (.and [.cmp (.loc 1684957547) .eq (.val (.str [115,105,103,110])),.cmp (.loc 448630255479) .isin (.tup [.val (.bytes [93]),.val (.bytes [62,62])])]) [.assign (.loc 435761734006) (.call (.val (.fn 62)) [.loc 126879463993958,.loc 448630255479,.loc 29793])] [.assign (.loc 435761734006) (.call (.val (.fn 60)) [.loc 125823003817315,.loc 474147942260,.loc 599170539855555716570910520482489708])],.ite (.cmp (.loc 126879463993958) .eq (.list [])) [.ret [.loc 435761734006]] [],.expr (.meth (.attr (.sub (.loc 126879463993958) (.neg (.val (.int 1)))) 495756604521) 110425311047777 [.loc 435761734006])],.assign (.loc 474147942260) (.call (.val (.fn 42)) [.loc 125823003817315])]
noncomputable def gm:Fn:=⟨[125823003817315,474147942260,599170539855555716570910520482489708],[.bool true],[],[.assign (.loc 126879463993958) (.list []),.while aJ aI]⟩
noncomputable def gr:Fn:=⟨[125823003817315],[],[],[.ret [.call (.val (.fn 63)) [.loc 125823003817315,.call (.val (.fn 42)) [.loc 125823003817315]]]]⟩
noncomputable def hZ:Fn:=⟨[1635017060],[],[],[.assign (.loc 125823003817315) (.call (.val (.cls 11)) [.loc 1635017060]),.assign (.loc 435761734006) (.call (.val (.fn 64)) [.loc 125823003817315]),.expr (.meth (.loc 125823003817315) 479106432534407826467699 []),.ite (.not (.meth (.loc 125823003817315) 28550397352178537 [])) [.raise (.attr (.loc 125823003817315) 29793)] [],.ret [.loc 435761734006]]⟩
noncomputable def dJ:E:=.not (.meth (.loc 125823003817315) 28550397352178537 [])
noncomputable def dI:List S:=[.expr (.meth (.loc 431349919590) 110425311047777 [.call (.val (.fn 64)) [.loc 125823003817315]]),.expr (.meth (.loc 125823003817315) 479106432534407826467699 [])]
noncomputable def gs:Fn:=⟨[1635017060],[],[],[.assign (.loc 125823003817315) (.call (.val (.cls 11)) [.loc 1635017060]),.assign (.loc 431349919590) (.list []),.expr (.meth (.loc 125823003817315) 479106432534407826467699 []),.while dJ dI,.ret [.loc 431349919590]]⟩
noncomputable def jU:T:=.loc 1819043171
noncomputable def jT:List S:=[.assign (.loc 125779768604014) (.bin .add (.bin .add (.bin .mul (.loc 125779768604014) (.val (.int 1049))) (.bin .mul (.val (.int 2)) (.call (.val (.bi .abs)) [.call (.val (.ty .int)) [.loc 1819043171]]))) (.call (.val (.ty .int)) [.cmp (.loc 1819043171) .lt (.val (.int 0))]))]
noncomputable def lO:Fn:=⟨[128026154263411],[],[],[.assign (.loc 125779768604014) (.val (.int 31)),.for jU (.slice (.loc 128026154263411) [] [.val (.int 63)]) jT,.ret [.list [.loc 125779768604014,.val (.int 0)]]]⟩
noncomputable def j9:Fn:=⟨[7234928,2037277037],[],[],[.ite (.cmp (.sub (.loc 7234928) (.val (.int 0))) .eq (.val (.int 0))) [.assign (.sub (.loc 7234928) (.val (.int 1))) (.bin .add (.sub (.loc 7234928) (.val (.int 1))) (.val (.int 1))),.assign (.sub (.loc 7234928) (.val (.int 0))) (.bin .add (.bin .mul (.val (.int 1049)) (.sub (.loc 7234928) (.val (.int 1)))) (.val (.int 8117)))] [],.assign (.loc 499984591204) (.bin .mod (.sub (.loc 7234928) (.val (.int 0))) (.loc 2037277037)),.assign (.sub (.loc 7234928) (.val (.int 0))) (.bin .fdiv (.sub (.loc 7234928) (.val (.int 0))) (.loc 2037277037)),.ret [.loc 499984591204]]⟩
noncomputable def ke:Fn:=⟨[7234928,1701670771],[],[],[.ret [.sub (.loc 1701670771) (.call (.val (.fn 69)) [.loc 7234928,.call (.val (.bi .len)) [.loc 1701670771]])]]⟩
noncomputable def hV:Fn:=⟨[],[],[],[.assign (.loc 431349919590) (.list [.tup [.val (.bytes [55])],.tup [.val (.bytes [48])],.tup [.val (.bytes [45,50])],.tup [.val (.bytes [51,46,53])],.tup [.val (.bytes [40,120,41])],.tup [.val (.bytes [60,52,49,62])],.tup [.val (.bytes [47,65])],.tup [.val (.bytes [116,114,117,101])],.tup [.val (.bytes [102,97,108,115,101])],.tup [.val (.bytes [110,117,108,108])]]),.ret [.bin .add (.loc 431349919590) (.list [.tup [.val (.bytes [49]),.val (.bytes [48]),.val (.bytes [82])],.tup [.val (.bytes [40,62,62,41])]])]]⟩
noncomputable def cu:T:=.loc 7955819
noncomputable def cm:List S:=[.assign (.sub (.loc 431349919590) (.bin .add (.val (.bytes [47])) (.meth (.loc 7955819) 111482039922277 [.val (.str [97,115,99,105,105])]))) (.tup [.val (.str [110,97,109,101]),.loc 7955819])]
noncomputable def gi:Fn:=⟨[],[],[],[.assign (.loc 431349919590) (.dict [[55],[48],[49],[45,50],[51,46,53]] [.tup [.val (.str [105,110,116]),.val (.int 7)],.tup [.val (.str [105,110,116]),.val (.int 0)],.tup [.val (.str [105,110,116]),.val (.int 1)],.tup [.val (.str [105,110,116]),.neg (.val (.int 2))],.tup [.val (.str [114,101,97,108]),.val (.int 35),.val (.int 1)]]),.assign (.sub (.loc 431349919590) (.val (.bytes [40,120,41]))) (.tup [.val (.str [115,116,114,105,110,103]),.val (.bytes [120])]),.assign (.sub (.loc 431349919590) (.val (.bytes [60,52,49,62]))) (.tup [.val (.str [115,116,114,105,110,103]),.val (.bytes [65])]),.assign (.sub (.loc 431349919590) (.val (.bytes [40,62,62,41]))) (.tup [.val (.str [115,116,114,105,110,103]),.val (.bytes [62,62])]),.for cu (.tup [.val (.str [65]),.val (.str [66]),.val (.str [67])]) cm,.assign (.sub (.loc 431349919590) (.val (.bytes [116,114,117,101]))) (.tup [.val (.str [116,114,117,116,104]),.val (.int 1)]),.assign (.sub (.loc 431349919590) (.val (.bytes [102,97,108,115,101]))) (.tup [.val (.str [116,114,117,116,104]),.val (.int 0)]),.assign (.sub (.loc 431349919590) (.val (.bytes [110,117,108,108]))) (.tup [.val (.str [110,117,108,108])]),.ret [.loc 431349919590]]⟩
noncomputable def gI:T:=.loc 1852994932
noncomputable def gH:List S:=[.assign (.loc 431349919590) (.bin .add (.loc 431349919590) (.call (.val (.fn 73)) [.loc 7234928,.bin .add (.loc 1885693284) (.val (.int 1))]))]
noncomputable def gK:T:=.loc 1852994932
noncomputable def gJ:List S:=[.assign (.loc 431349919590) (.bin .add (.bin .add (.loc 431349919590) (.list [.call (.val (.fn 70)) [.loc 7234928,.list [.val (.bytes [47,65]),.val (.bytes [47,66]),.val (.bytes [47,67])]]])) (.call (.val (.fn 73)) [.loc 7234928,.bin .add (.loc 1885693284) (.val (.int 1))]))]
noncomputable def fe:Fn:=⟨[7234928,1885693284],[],[],[.assign (.loc 7954807) (.ite (.cmp (.loc 1885693284) .lt (.val (.int 3))) (.call (.val (.fn 69)) [.loc 7234928,.val (.int 4)]) (.val (.int 3))),.ite (.cmp (.loc 7954807) .eq (.val (.int 0))) [.assign (.loc 431349919590) (.list [.val (.bytes [91])]),.for gI (.call (.val (.ty .range)) [.call (.val (.fn 69)) [.loc 7234928,.val (.int 3)]]) gH,.ret [.bin .add (.loc 431349919590) (.list [.val (.bytes [93])])]] [],.ite (.cmp (.loc 7954807) .eq (.val (.int 1))) [.assign (.loc 431349919590) (.list [.val (.bytes [60,60])]),.for gK (.call (.val (.ty .range)) [.call (.val (.fn 69)) [.loc 7234928,.val (.int 3)]]) gJ,.ret [.bin .add (.loc 431349919590) (.list [.val (.bytes [62,62])])]] [],.ret [.call (.val (.ty .list)) [.call (.val (.fn 70)) [.loc 7234928,.call (.val (.fn 71)) []]]]]⟩
noncomputable def j7:Fn:=⟨[7234928,7827314],[],[],[.assign (.loc 7954807) (.call (.val (.fn 69)) [.loc 7234928,.val (.int 5)]),.ite (.cmp (.loc 7954807) .eq (.val (.int 0))) [.ret [.loc 7827314]] [],.assign (.loc 491327616111) (.call (.val (.fn 70)) [.loc 7234928,.list [.val (.bytes [91]),.val (.bytes [93]),.val (.bytes [60,60]),.val (.bytes [62,62]),.val (.bytes [82]),.val (.bytes [111,98,106]),.val (.bytes [123]),.val (.bytes [125]),.val (.bytes [48]),.val (.bytes [55]),.val (.bytes [47,66]),.val (.bytes [110,117,108,108]),.val (.bytes [40,62,62,41])]]),.assign (.loc 1953460339) (.call (.val (.fn 69)) [.loc 7234928,.call (.val (.bi .len)) [.loc 7827314]]),.ite (.cmp (.loc 7954807) .eq (.val (.int 1))) [.ret [.bin .add (.slice (.loc 7827314) [] [.loc 1953460339]) (.slice (.loc 7827314) [.bin .add (.loc 1953460339) (.val (.int 1))] [])]] [],.ite (.cmp (.loc 7954807) .eq (.val (.int 2))) [.ret [.bin .add (.bin .add (.slice (.loc 7827314) [] [.loc 1953460339]) (.list [.loc 491327616111])) (.slice (.loc 7827314) [.loc 1953460339] [])]] [],.ite (.cmp (.loc 7954807) .eq (.val (.int 3))) [.ret [.bin .add (.bin .add (.slice (.loc 7827314) [] [.loc 1953460339]) (.list [.loc 491327616111])) (.slice (.loc 7827314) [.bin .add (.loc 1953460339) (.val (.int 1))] [])]] [],.ret [.bin .add (.loc 7827314) (.list [.loc 491327616111])]]⟩
noncomputable def i9:T:=.loc 474147942260
noncomputable def i8:List S:=[.expr (.meth (.loc 126879296220272) 110425311047777 [.call (.val (.bi .len)) [.loc 1635017060]]),.assign (.loc 1635017060) (.bin .add (.bin .add (.loc 1635017060) (.loc 474147942260)) (.call (.val (.fn 70)) [.loc 7234928,.list [.val (.bytes [32]),.val (.bytes [10]),.val (.bytes [37,120,32,62,62,10]),.val (.bytes [13,10,0])]]))]
noncomputable def kc:Fn:=⟨[7234928,7827314],[],[],[.swap [1635017060,126879296220272] (.tup [.call (.val (.fn 70)) [.loc 7234928,.list [.val (.bytes []),.val (.bytes [32]),.val (.bytes [37,121,13])]],.list []]),.for i9 (.loc 7827314) i8,.ret [.tup [.loc 1635017060,.loc 126879296220272]]]⟩
noncomputable def hW:Fn:=⟨[7827314,126879296220272,6581861,29793],[],[],[.ite (.cmp (.loc 29793) .ge (.call (.val (.bi .len)) [.loc 7827314])) [.ret [.tup [.val (.str [102,97,117,108,116]),.loc 6581861]]] [],.ite (.cmp (.sub (.loc 7827314) (.loc 29793)) .eq (.val (.bytes [91]))) [.ret [.call (.val (.fn 77)) [.loc 7827314,.loc 126879296220272,.loc 6581861,.bin .add (.loc 29793) (.val (.int 1))]]] [],.ite (.cmp (.sub (.loc 7827314) (.loc 29793)) .eq (.val (.bytes [60,60]))) [.ret [.call (.val (.fn 78)) [.loc 7827314,.loc 126879296220272,.loc 6581861,.bin .add (.loc 29793) (.val (.int 1))]]] [],.ite (.and [.cmp (.sub (.loc 7827314) (.loc 29793)) .isin (.tup [.val (.bytes [48]),.val (.bytes [49]),.val (.bytes [55])]),.cmp (.slice (.loc 7827314) [.bin .add (.loc 29793) (.val (.int 1))] [.bin .add (.loc 29793) (.val (.int 2))]) .isin (.tup [.list [.val (.bytes [48])],.list [.val (.bytes [49])],.list [.val (.bytes [55])]]),.cmp (.slice (.loc 7827314) [.bin .add (.loc 29793) (.val (.int 2))] [.bin .add (.loc 29793) (.val (.int 3))]) .eq (.list [.val (.bytes [82])])]) [.ret [.tup [.val (.str [111,107]),.tup [.val (.str [114,101,102]),.call (.val (.ty .int)) [.sub (.loc 7827314) (.loc 29793)],.call (.val (.ty .int)) [.sub (.loc 7827314) (.bin .add (.loc 29793) (.val (.int 1)))]],.bin .add (.loc 29793) (.val (.int 3))]]] [],.ite (.cmp (.sub (.loc 7827314) (.loc 29793)) .isin (.call (.val (.fn 72)) [])) [.ret [.tup [.val (.str [111,107]),.sub (.call (.val (.fn 72)) []) (.sub (.loc 7827314) (.loc 29793)),.bin .add (.loc 29793) (.val (.int 1))]]] [],.ret [.tup [.val (.str [102,97,117,108,116]),.sub (.loc 126879296220272) (.loc 29793)]]]⟩
noncomputable def eV:E:=.and [.cmp (.loc 29793) .lt (.call (.val (.bi .len)) [.loc 7827314]),.cmp (.sub (.loc 7827314) (.loc 29793)) .ne (.val (.bytes [93]))]
noncomputable def eU:List S:=[.assign (.loc 431415715176) (.call (.val (.fn 76)) [.loc 7827314,.loc 126879296220272,.loc 6581861,.loc 29793]),.ite (.cmp (.sub (.loc 431415715176) (.val (.int 0))) .eq (.val (.str [102,97,117,108,116]))) [.ret [.loc 431415715176]] [],.swap [431349919590,29793] (.tup [.bin .add (.loc 431349919590) (.tup [.sub (.loc 431415715176) (.val (.int 1))]),.sub (.loc 431415715176) (.val (.int 2))])]
noncomputable def i6:Fn:=⟨[7827314,126879296220272,6581861,29793],[],[],[.assign (.loc 431349919590) (.tup []),.while eV eU,.ret [.ite (.cmp (.loc 29793) .ge (.call (.val (.bi .len)) [.loc 7827314])) (.tup [.val (.str [102,97,117,108,116]),.loc 6581861]) (.tup [.val (.str [111,107]),.bin .add (.tup [.val (.str [97,114,114,97,121])]) (.loc 431349919590),.bin .add (.loc 29793) (.val (.int 1))])]]⟩
noncomputable def fF:E:=.and [.cmp (.loc 29793) .lt (.call (.val (.bi .len)) [.loc 7827314]),.cmp (.sub (.loc 7827314) (.loc 29793)) .ne (.val (.bytes [62,62]))]
noncomputable def fE:List S:=[.ite (.cmp (.slice (.sub (.loc 7827314) (.loc 29793)) [] [.val (.int 1)]) .ne (.val (.bytes [47]))) [.ret [.tup [.val (.str [102,97,117,108,116]),.sub (.loc 126879296220272) (.loc 29793)]]] [],.assign (.loc 431415715176) (.call (.val (.fn 76)) [.loc 7827314,.loc 126879296220272,.loc 6581861,.bin .add (.loc 29793) (.val (.int 1))]),.ite (.cmp (.sub (.loc 431415715176) (.val (.int 0))) .eq (.val (.str [102,97,117,108,116]))) [.ret [.loc 431415715176]] [],.assign (.sub (.cell 431349919590) (.meth (.slice (.sub (.loc 7827314) (.loc 29793)) [.val (.int 1)] []) 111482039919972 [.val (.str [97,115,99,105,105])])) (.sub (.loc 431415715176) (.val (.int 1))),.assign (.loc 29793) (.sub (.loc 431415715176) (.val (.int 2)))]
noncomputable def j8:Fn:=⟨[7827314,126879296220272,6581861,29793],[],[431349919590],[.assign (.cell 431349919590) .sdict,.while fF fE,.ite (.cmp (.loc 29793) .ge (.call (.val (.bi .len)) [.loc 7827314])) [.ret [.tup [.val (.str [102,97,117,108,116]),.loc 6581861]]] [],.asgc 1953523051 (.comp [431349919590] 7955819 (.call (.val (.bi .sorted)) [.call (.val (.ty .list)) [.cell 431349919590]]) [.cmp (.sub (.cell 431349919590) (.loc 7955819)) .ne (.tup [.val (.str [110,117,108,108])])] (.tup [.loc 7955819,.sub (.cell 431349919590) (.loc 7955819)])),.ret [.tup [.val (.str [111,107]),.bin .add (.tup [.val (.str [100,105,99,116])]) (.call (.val (.ty .tuple)) [.loc 1953523051]),.bin .add (.loc 29793) (.val (.int 1))]]]⟩
noncomputable def i7:Fn:=⟨[7041889],[],[],[.try [.ret [.tup [.val (.str [111,107]),.call (.loc 7041889) []]]] 491496043109 [102,97,117,108,116]]⟩
noncomputable def eW:Fn:=⟨[1635017060,6581861],[],[125823003817315],[.assign (.cell 125823003817315) (.call (.val (.cls 11)) [.loc 1635017060,.val (.int 0),.loc 6581861]),.ret [.call (.val (.fn 79)) [.lam [125823003817315] (.tup [.call (.val (.fn 51)) [.call (.val (.fn 64)) [.cell 125823003817315]],.attr (.cell 125823003817315) 29793])]]]⟩
noncomputable def eE:E:=.cmp (.loc 29793) .lt (.call (.val (.bi .len)) [.loc 7827314])
noncomputable def eD:List S:=[.assign (.loc 431415715176) (.call (.val (.fn 76)) [.loc 7827314,.loc 126879296220272,.loc 6581861,.loc 29793]),.ite (.cmp (.sub (.loc 431415715176) (.val (.int 0))) .eq (.val (.str [102,97,117,108,116]))) [.ret [.loc 431415715176]] [],.swap [431349919590,29793] (.tup [.bin .add (.loc 431349919590) (.list [.sub (.loc 431415715176) (.val (.int 1))]),.sub (.loc 431415715176) (.val (.int 2))])]
noncomputable def lN:Fn:=⟨[7827314,126879296220272,6581861],[],[],[.swap [431349919590,29793] (.tup [.list [],.val (.int 0)]),.while eE eD,.ret [.tup [.val (.str [111,107]),.loc 431349919590]]]⟩
noncomputable def eI:T:=.loc 6845550
noncomputable def cz:List S:=[.assign (.loc 8746397786915697513) (.cmp (.call (.val (.fn 69)) [.loc 7234928,.val (.int 2)]) .eq (.val (.int 0))),.expr (.meth (.loc 126879296220272) 110425311047777 [.bin .add (.call (.val (.bi .len)) [.loc 1635017060]) (.ite (.loc 8746397786915697513) (.val (.int 1)) (.val (.int 4)))]),.assign (.loc 1635017060) (.bin .add (.loc 1635017060) (.ite (.loc 8746397786915697513) (.val (.bytes [91,91,93])) (.val (.bytes [60,60,47,66,60,60,62,62,47,65,32])))),.assign (.loc 29113321788501091) (.bin .add (.ite (.loc 8746397786915697513) (.val (.bytes [93])) (.val (.bytes [62,62]))) (.loc 29113321788501091))]
noncomputable def bz:Fn:=⟨[7234928],[],[2203193130746207234167],[.assign (.loc 2037277037) (.bin .add (.val (.int 38)) (.call (.val (.fn 69)) [.loc 7234928,.val (.int 6)])),.swap [1635017060,29113321788501091,126879296220272] (.tup [.val (.bytes []),.val (.bytes []),.list []]),.for eI (.call (.val (.ty .range)) [.loc 2037277037]) cz,.assign (.cell 2203193130746207234167) (.bin .add (.bin .add (.loc 1635017060) (.val (.bytes [55]))) (.loc 29113321788501091)),.assign (.loc 6649188) (.ite (.cmp (.loc 2037277037) .lt (.val (.int 40))) (.tup [.val (.str [111,107]),.bin .add (.loc 2037277037) (.val (.int 1))]) (.tup [.val (.str [102,97,117,108,116]),.sub (.loc 126879296220272) (.val (.int 39))])),.ret [.cmp (.call (.val (.fn 79)) [.lam [2203193130746207234167] (.call (.val (.fn 53)) [.call (.val (.fn 65)) [.cell 2203193130746207234167]])]) .eq (.loc 6649188)]]⟩
noncomputable def bC:T:=.tup [.cell 6647407,.cell 491327616111]
noncomputable def bB:List S:=[.ite (.cmp (.call (.val (.fn 79)) [.lam [6647407,491327616111] (.call (.val (.fn 65)) [.bin .add (.bin .add (.bin .add (.bin .add (.val (.bytes [91])) (.cell 6647407)) (.val (.bytes [32]))) (.cell 491327616111)) (.val (.bytes [32,82,93]))])]) .ne (.tup [.val (.str [102,97,117,108,116]),.bin .add (.bin .add (.call (.val (.bi .len)) [.cell 6647407]) (.call (.val (.bi .len)) [.cell 491327616111])) (.val (.int 3))])) [.ret [.val (.bool false)]] []]
noncomputable def bE:T:=.tup [.cell 6647407,.cell 491327616111,.loc 1919508848]
noncomputable def bD:List S:=[.ite (.cmp (.call (.val (.fn 79)) [.lam [6647407,491327616111] (.call (.val (.fn 51)) [.call (.val (.fn 65)) [.bin .add (.bin .add (.bin .add (.bin .add (.val (.bytes [91])) (.cell 6647407)) (.val (.bytes [32]))) (.cell 491327616111)) (.val (.bytes [32,82,93]))]])]) .ne (.tup [.val (.str [111,107]),.tup [.val (.str [97,114,114,97,121]),.bin .add (.tup [.val (.str [114,101,102])]) (.loc 1919508848)]])) [.ret [.val (.bool false)]] []]
noncomputable def bw:Fn:=⟨[],[],[6647407,491327616111],[.for bC (.tup [.tup [.val (.bytes [55]),.val (.bytes [45,50])],.tup [.val (.bytes [55]),.val (.bytes [50,46,48])],.tup [.val (.bytes [45,55]),.val (.bytes [48])],.tup [.val (.bytes [55]),.val (.bytes [47,65])],.tup [.val (.bytes [55,46,48]),.val (.bytes [48])]]) bB,.for bE (.tup [.tup [.val (.bytes [55]),.val (.bytes [43,48]),.tup [.val (.int 7),.val (.int 0)]],.tup [.val (.bytes [43,55]),.val (.bytes [49,50]),.tup [.val (.int 7),.val (.int 12)]],.tup [.val (.bytes [48,55]),.val (.bytes [48,48]),.tup [.val (.int 7),.val (.int 0)]]]) bD,.ret [.val (.bool true)]]⟩
noncomputable def qd:T:=.loc 1852994932
noncomputable def bJ:List S:=[.assign (.loc 7827314) (.call (.val (.fn 74)) [.loc 7234928,.call (.val (.fn 73)) [.loc 7234928,.val (.int 0)]]),.assign (.tup [.cell 1635017060,.loc 126879296220272]) (.call (.val (.fn 75)) [.loc 7234928,.loc 7827314]),.assign (.loc 6649188) (.call (.val (.fn 76)) [.loc 7827314,.loc 126879296220272,.call (.val (.bi .len)) [.cell 1635017060],.val (.int 0)]),.ite (.cmp (.sub (.loc 6649188) (.val (.int 0))) .eq (.val (.str [111,107]))) [.assign (.loc 6649188) (.ite (.cmp (.sub (.loc 6649188) (.val (.int 2))) .eq (.call (.val (.bi .len)) [.loc 7827314])) (.tup [.val (.str [111,107]),.sub (.loc 6649188) (.val (.int 1))]) (.tup [.val (.str [102,97,117,108,116]),.sub (.loc 126879296220272) (.sub (.loc 6649188) (.val (.int 2)))]))] [],.ite (.cmp (.call (.val (.fn 79)) [.lam [1635017060] (.call (.val (.fn 51)) [.call (.val (.fn 65)) [.cell 1635017060]])]) .ne (.loc 6649188)) [.ret [.val (.bool false)]] [],.ite (.cmp (.call (.val (.fn 79)) [.lam [1635017060] (.comp [] 6647407 (.call (.val (.fn 66)) [.cell 1635017060]) [] (.call (.val (.fn 51)) [.loc 6647407]))]) .ne (.call (.val (.fn 81)) [.loc 7827314,.loc 126879296220272,.call (.val (.bi .len)) [.cell 1635017060]])) [.ret [.val (.bool false)]] [],.assign (.loc 6581861) (.call (.val (.fn 69)) [.loc 7234928,.bin .add (.call (.val (.bi .len)) [.cell 1635017060]) (.val (.int 1))]),.ite (.cmp (.call (.val (.fn 80)) [.cell 1635017060,.loc 6581861]) .ne (.call (.val (.fn 80)) [.slice (.cell 1635017060) [] [.loc 6581861],.loc 6581861])) [.ret [.val (.bool false)]] []]
noncomputable def xi:Fn:=⟨[128026154263411],[],[1635017060],[.assign (.loc 7234928) (.call (.val (.fn 68)) [.loc 128026154263411]),.for qd (.call (.val (.ty .range)) [.val (.int 4)]) bJ,.ret [.and [.call (.val (.fn 82)) [.loc 7234928],.call (.val (.fn 83)) []]]]⟩
noncomputable def Er:List ((Nat×Nat)×Fn):=[((8,0),j6),((9,0),hU),((11,1),eA),((11,2),d4),((11,3),f9),((11,4),gh),((11,5),eT),((11,6),gb),((11,7),cW),((11,8),cj),((11,9),b6),((21,1),fy),((23,0),fG),((33,0),i5),((35,0),ja),((38,0),lP),((39,0),hO),((40,0),jb),((41,0),dH),((42,0),hY),((43,0),lM),((45,1),i4),((46,1),eB),((48,1),d5),((49,0),bU),((50,0),h6),((51,0),jc),((52,0),d6),((53,0),j5),((56,1),hJ),((56,2),dG),((57,0),fD),((58,0),d7),((59,0),h7),((60,0),gq),((61,0),jD),((62,0),eC),((63,0),gm),((64,0),gr),((65,0),hZ),((66,0),gs),((68,0),lO),((69,0),j9),((70,0),ke),((71,0),hV),((72,0),gi),((73,0),fe),((74,0),j7),((75,0),kc),((76,0),hW),((77,0),i6),((78,0),j8),((79,0),i7),((80,0),eW),((81,0),lN),((82,0),bz),((83,0),bw),((84,0),xi)]
noncomputable def Ci (i j:Nat):Option Fn:=Er.lookup (i,j)
noncomputable def JF:List ((Nat×Nat)×Nat):=[((11,6872339552563453791),1),((11,28550397352178537),2),((11,1801807216),3),((11,1701536116),4),((11,126943972390003),5),((11,1885956979),6),((11,479106432534407826467699),7),((11,35399069105435650322875507060),8),((11,7956982154510455827895616629619),9),((21,6872339552563453791),1),((45,6872339552563453791),1),((46,6872339552563453791),1),((48,6872339552563453791),1),((56,6872339552563453791),1),((56,2239364072688673775991),2)]
noncomputable def zx (c f:Nat):Option Nat:=JF.lookup (c,f)
noncomputable abbrev Rv (s:Type):=Option (Except Int s×MS)
noncomputable abbrev Rs:=Option (Except Int Fl×MF×MS)
noncomputable def dm(x:Rv s)(f:s->MS->Option t):Option t:=x.bind fun q=>q.1.casesOn no fun v=>f v q.2
noncomputable def vH(x:Rv s)(f:s->MS->Rv t):Rv t:=x.bind fun q=>q.1.casesOn (fun z=>some (.error z,q.2)) fun v=>f v q.2
noncomputable def HS(x:Rv s)(b:MF)(f:s->MS->Rs):Rs:=x.bind fun q=>q.1.casesOn (fun z=>some (.error z,b,q.2)) fun v=>f v q.2
noncomputable def Bq{s:Type}(x:Option (Bool×MS))(t f:MS->Option s):Option s:=x.bind fun q=>q.1.casesOn (f q.2) (t q.2)
noncomputable def N0{s:Type}(x:Rs)(e:Int->MF->MS->Option s)(a:MF->MS->Option s)(b:MF->MS->Option s)(c:V->MF->MS->Option s):Option s:=x.bind fun q=>q.1.casesOn (fun z=>e z q.2.1 q.2.2) fun f=>f.casesOn (a q.2.1 q.2.2) none (b q.2.1 q.2.2) fun v=>c v q.2.1 q.2.2
noncomputable def LK{s:Type}(n:Nat)(l:List (Nat×s)):List (Nat×s):=l.filter fun q=>!(q.1==n)
noncomputable abbrev MF.del (b:MF)(n:Nat):MF:=⟨LK n b.vars,b.cells⟩
noncomputable def fN (l:List (Nat×V))(b:List (Nat×V)):List (Nat×V):=l.foldl (fun a q=>az q.1 q.2 a) b
noncomputable def jH (b:List Nat)(a:List (Nat×Nat)):List (Nat×Nat):=a.filter fun q=>b.contains q.1
noncomputable def dh (c:List Nat)(a:List (Nat×Nat)):Bool:=c.all fun n=>(a.lookup n).isSome
noncomputable def kD (a:List (List UInt8×V)):List (List UInt8×V):=a.foldl (fun d q=>ee q.1 q.2 d) []
noncomputable def Fn.vals (d:Fn)(b:List V):List V:=b++d.dfl.drop (b.length+d.dfl.length-d.params.length)
noncomputable def Fn.mf (c:Fn)(b:List V)(n:Nat):MF:=⟨(c.params.zip (c.vals b)).filter (fun q=>!c.cells.contains q.1),c.cells.zipIdx n⟩
noncomputable def Fn.news (d:Fn)(a:List V):MS:=d.cells.map fun c=>.cell ((d.params.zip (d.vals a)).lookup c)
noncomputable def Fn.fits (d:Fn)(c:List V):Bool:=decide (c.length<=d.params.length)&&decide (d.params.length<=c.length+d.dfl.length)
inductive MT where|own (c j:Nat)|bi
noncomputable def H7 (f:Nat)(m:ah):Option MT:=m.casesOn (fun _=>if f=jj\/f=Mn then some .bi else none) no no (fun c a=>(zx c f).bind fun j=>if a.lookup f=none then some (.own c j)else none) no
noncomputable def c9 (a:MS)(o:V)(f:Nat):Option MT:=o.on ((mn o).bind fun _=>if f=oA\/f=C2 then some .bi else none) no (fun _=>if f=C1 then some .bi else none) no fun l=>(a[l]?).bind (H7 f)
noncomputable def ie (c:Nat):Bool:=(zx c 6872339552563453791).isSome
structure nI where
 ev:Nat->MF->E->MS->Rv V
 evB:Nat->MF->E->MS->Option (Bool×MS)
 callF:Nat->Nat->Nat->List V->MS->Rv V
 ex:Nat->MF->S->MS->Rs
 exW:Nat->MF->E->List S->MS->Rs
 exF:Nat->MF->T->List S->It->MS->Option (Fl×MF×MS)
 compL:Nat->MF->Nat->List E->E->Nat->It->MS->Option MS
 dcompL:Nat->MF->Nat->List E->E->E->Nat->It->MS->Option MS
 store:Nat->MF->T->V->MS->Option (MF×MS)
section
variable (I:nI) (k:Nat)
noncomputable def vG (b:MF)(c:List E):MS->Rv (List V):=c.rec (fun a=>some (.ok [],a)) fun e _ f a=>vH (I.ev k b e a) fun v a=>vH (f a) fun g a=>some (.ok (v::g),a)
noncomputable def KN (b:MF)(c:List E)(a:MS):Option (Option V×MS):=c.casesOn (some (none,a)) fun e _=>dm (I.ev k b e a) fun v a=>some (some v,a)
noncomputable def NT (d:MF)(a:E)(o:Cm)(b:E)(c:MS):Option (Bool×MS):=dm (I.ev k d a c) fun a c=>dm (I.ev k d b c) fun b c=>(bc c o a b).bind fun r=>some (r,c)
noncomputable def Ja (e:MF)(a:E)(o:Cm)(b:E)(g:Cm)(c:E)(d:MS):Option (Bool×MS):=dm (I.ev k e a d) fun a d=>dm (I.ev k e b d) fun b d=>(bc d o a b).bind fun r=>r.casesOn (some (false,d)) (dm (I.ev k e c d) fun c d=>(bc d g b c).bind fun r=>some (r,d))
noncomputable def tD (c:MF)(d:List E):MS->Option (V×MS):=d.rec no fun e r f a=>dm (I.ev k c e a) fun v a=>r.isEmpty.casesOn ((cD a v).bind fun b=>b.casesOn (some (v,a)) (f a)) (some (v,a))
noncomputable def B0 (c:MF)(d:List E):MS->Option (V×MS):=d.rec no fun e r f a=>dm (I.ev k c e a) fun v a=>r.isEmpty.casesOn ((cD a v).bind fun b=>b.casesOn (f a) (some (v,a))) (some (v,a))
noncomputable def xf (b:MF)(c:List E):MS->Option (Bool×MS):=c.rec (fun a=>some (true,a)) fun e _ d a=>Bq (I.evB k b e a) d fun a=>some (false,a)
noncomputable def xg (b:MF)(c:List E):MS->Option (Bool×MS):=c.rec (fun a=>some (false,a)) fun e _ d a=>Bq (I.evB k b e a) (fun a=>some (true,a)) d
noncomputable def Na (b:MF)(c:List E)(a:MS):Option (Bool×MS):=c.casesOn (some (true,a)) fun e _=>I.evB k b e a
noncomputable def OV (k c:Nat)(b:List V)(d:MS):Rv V:=k.casesOn none fun k=>dm (I.callF k c 1 (.loc d.length::b) (d++[.inst c []])) fun v g=>if(ni v&&ie c)=true then some (.ok (.loc d.length),g)else none
noncomputable def OW (k:Nat)(e:E)(a:List (Nat×Nat))(b:List V)(c:MS):Rv V:=k.casesOn none fun k=>b.casesOn (I.ev k ⟨[],a⟩ e c) fun _ _=>none
noncomputable def w7 (f:V)(a:List V)(g:MS):Rv V:=f.casesOn none no no no no no no (fun i=>I.callF k i 0 a g) (fun c=>OV I k c a g) (fun t=>(fZ g t a).bind fun q=>some (.ok q.1,q.2)) (fun b=>(iH g b a).bind fun q=>some (.ok q.1,q.2)) no H9 (fun e d=>OW I k e d a g) no
noncomputable def w6 (t:MT)(o:V)(f:Nat)(a:List V)(b:MS):Rv V:=t.casesOn (fun c j=>I.callF k c j (o::a) b) ((iZ b o f a).bind fun q=>some (.ok q.1,q.2))
noncomputable def Fc (g:List S):MF->MS->Rs:=g.rec (fun a b=>some (.ok .next,a,b)) fun s _ h a b=>(I.ex k a s b).bind fun q=>q.1.casesOn (fun z=>some (.error z,q.2)) fun f=>f.casesOn (h q.2.1 q.2.2) (some (.ok .brk,q.2)) (some (.ok .cont,q.2)) fun v=>some (.ok (.ret v),q.2)
noncomputable def wv (e:List T):List V->MF->MS->Option (MF×MS):=e.rec (fun a b c=>a.casesOn (some (b,c)) fun _ _=>none) fun t _ f a b c=>a.casesOn none fun v a=>(I.store k b t v c).bind fun q=>f a q.1 q.2
noncomputable def bn (d:MF)(n:Nat)(c:MS):Rv V:=(d.cells.lookup n).bind fun l=>(c[l]?).bind fun m=>m.casesOn no no no (fun _=>no) fun o=>o.bind fun v=>some (.ok v,c)
noncomputable def BY (h:MF)(e:List (List UInt8))(i:List E)(d:MS):Rv V:=dm (vG I k h i (d++[.dictB []])) fun g c=>(c[d.length]?).bind fun m=>(rj m).bind fun f=>if f.length=0/\e.length<15/\e.length=g.length then some (.ok (.loc d.length),c.set d.length (.dictB (kD (e.zip g))))else none
noncomputable def HQ (h:MF)(e:E)(d:MS):Rv V:=e.casesOn (fun v=>some (.ok v,d)) (fun n=>(h.vars.lookup n).bind fun v=>some (.ok v,d)) (fun n=>bn h n d) (fun m=>vH (vG I k h m d) fun r d=>if r.length<=1000000 then some (.ok (.tup r),d)else none) (fun m=>dm (vG I k h m d) fun r d=>if r.length<=1000000 then some (.ok (.loc d.length),d++[.list r])else none) (fun o a b=>dm (I.ev k h a d) fun a d=>dm (I.ev k h b d) fun b d=>(c8 d o a b).bind fun q=>some (.ok q.1,q.2)) (fun a=>dm (I.ev k h a d) fun a d=>(KS a).bind fun v=>some (.ok v,d)) (fun a o b=>(NT I k h a o b d).bind fun q=>some (.ok (.bool q.1),q.2)) (fun a o b M c=>(Ja I k h a o b M c d).bind fun q=>some (.ok (.bool q.1),q.2)) (fun a=>dm (I.ev k h a d) fun a d=>(cD d a).bind fun b=>some (.ok (.bool !b),d)) (fun m=>(tD I k h m d).bind fun q=>some (.ok q.1,q.2)) (fun m=>(B0 I k h m d).bind fun q=>some (.ok q.1,q.2)) (fun t a b=>Bq (I.evB k h t d) (I.ev k h a) (I.ev k h b)) (fun e f=>dm (I.ev k h e d) fun v d=>(aY d v f).bind fun u=>some (.ok u,d)) (fun e i=>dm (I.ev k h e d) fun v d=>dm (I.ev k h i d) fun i d=>(br d v i).bind fun u=>some (.ok u,d)) (fun e D F=>dm (I.ev k h e d) fun v d=>(KN I k h D d).bind fun D=>(KN I k h F D.2).bind fun F=>(bV F.2 v D.1 F.1).bind fun q=>some (.ok q.1,q.2)) (fun f m=>dm (I.ev k h f d) fun f d=>vH (vG I k h m d) fun r d=>w7 I k f r d) (fun o f m=>dm (I.ev k h o d) fun o d=>(c9 d o f).bind fun t=>vH (vG I k h m d) fun r d=>w6 I k t o f r d) (fun w x H c e=>vH (I.ev k h H d) fun v d=>(aA d v).bind fun i=>if dh w h.cells=true then(I.compL k ⟨[],jH w h.cells⟩ x c e d.length i (d++[.list []])).bind fun z=>some (.ok (.loc d.length),z)else none) (fun w x H c a b=>dm (I.ev k h H d) fun v d=>(aA d v).bind fun i=>if dh w h.cells=true then(I.dcompL k ⟨[],jH w h.cells⟩ x c a b d.length i (d++[.dictS []])).bind fun z=>some (.ok (.loc d.length),z)else none) (fun P m=>BY I k h P m d) (some (.ok (.loc d.length),d++[.dictS []])) (fun w e=>if dh w h.cells=true then some (.ok (.lam e (jH w h.cells)),d)else none)
noncomputable def rq (c:MF)(e:E)(a:MS):Option (Bool×MS):=dm (I.ev k c e a) fun v a=>(cD a v).bind fun b=>some (b,a)
noncomputable def I9 (d:MF)(e:E)(f:MS):Option (Bool×MS):=e.casesOn (fun _=>rq I k d e f) (fun _=>rq I k d e f) (fun _=>rq I k d e f) (fun _=>rq I k d e f) (fun _=>rq I k d e f) (fun _ _ _=>rq I k d e f) (fun _=>rq I k d e f) (fun a o b=>NT I k d a o b f) (fun a o b i c=>Ja I k d a o b i c f) (fun a=>(I.evB k d a f).bind fun q=>some (!q.1,q.2)) (fun h=>xf I k d h f) (fun h=>xg I k d h f) (fun t a b=>Bq (I.evB k d t f) (I.evB k d a) (I.evB k d b)) (fun _ _=>rq I k d e f) (fun _ _=>rq I k d e f) (fun _ _ _=>rq I k d e f) (fun _ _=>rq I k d e f) (fun _ _ _=>rq I k d e f) (fun _ _ _ _ _=>rq I k d e f) (fun _ _ _ _ _ _=>rq I k d e f) (fun _ _=>rq I k d e f) (rq I k d e f) (fun _ _=>rq I k d e f)
noncomputable def q5 (i j:Nat)(a:List V)(d:MS):Rv V:=k.casesOn none fun k=>(Ci i j).bind fun b=>if b.fits a=true then(Fc I k b.body (b.mf a d.length) (d++b.news a)).bind fun q=>some (bF q.1,q.2.2)else none
noncomputable def LR (d:MF)(s:S)(c:MS):Rs:=s.casesOn (fun t e=>HS (I.ev k d e c) d fun v c=>(I.store k d t v c).bind fun q=>some (.ok .next,q.1,q.2)) (fun n e=>dm (I.ev k d e c) fun v c=>some (.ok .next,d.set n v,c)) (fun r e=>dm (I.ev k d e c) fun v c=>(mV v).bind fun u=>if u.length=r.length then some (.ok .next,⟨fN (r.zip u) d.vars,d.cells⟩,c)else none) (fun e=>HS (I.ev k d e c) d fun _ c=>some (.ok .next,d,c)) (fun B=>B.casesOn (some (.ok (.ret .none),d,c)) fun e _=>HS (I.ev k d e c) d fun v c=>some (.ok (.ret v),d,c)) (fun t a b=>Bq (I.evB k d t c) (Fc I k a d) (Fc I k b d)) (fun t b=>I.exW k d t b c) (fun t D b=>dm (I.ev k d D c) fun v c=>(aA c v).bind fun i=>(I.exF k d t b i c).bind fun q=>some (.ok q.1,q.2)) (some (.ok .cont,d,c)) (fun e=>k.casesOn none fun _=>dm (I.ev k d e c) fun v c=>(bl v).bind fun z=>some (.error z,d,c)) (fun b x h=>(Fc I k b d c).bind fun q=>q.1.casesOn (fun z=>some (.ok (.ret (.tup [.str h,.int z])),q.2.1.del x,q.2.2)) fun f=>some (.ok f,q.2)) none
noncomputable def Jf (c:MF)(t:E)(b:List S)(a:MS):Rs:=Bq (I.evB k c t a) (fun a=>N0 (Fc I k b c a) (fun z c a=>some (.error z,c,a)) (fun c a=>I.exW k c t b a) (fun c a=>I.exW k c t b a) fun v c a=>some (.ok (.ret v),c,a)) fun a=>some (.ok .next,c,a)
noncomputable def Je (c:MF)(t:T)(b:List S)(e:It)(a:MS):Option (Fl×MF×MS):=(next a e).bind fun o=>o.casesOn (some (.next,c,a)) fun p=>(I.store k c t p.1 a).bind fun q=>N0 (Fc I k b q.1 q.2) (fun _ _ _=>none) (fun c a=>I.exF k c t b p.2 a) (fun c a=>I.exF k c t b p.2 a) fun v c a=>some (.ret v,c,a)
noncomputable def vt (d:MF)(x:Nat)(c:List E)(e:E)(l:Nat)(h:It)(a:MS):Option MS:=(next a h).bind fun o=>o.casesOn (some a) fun p=>Bq (Na I k (d.set x p.1) c a) (fun a=>dm (I.ev k (d.set x p.1) e a) fun u a=>(aC a (.loc l)).bind fun f=>if f.length<1000000 then I.compL k (d.set x p.1) x c e l p.2 (a.set l (.list (f++[u])))else none) fun a=>I.compL k (d.set x p.1) x c e l p.2 a
noncomputable def re (f:MF)(x:Nat)(c:List E)(a b:E)(l:Nat)(i:It)(d:MS):Option MS:=(next d i).bind fun o=>o.casesOn (some d) fun p=>Bq (Na I k (f.set x p.1) c d) (fun d=>dm (I.ev k (f.set x p.1) a d) fun u d=>dm (I.ev k (f.set x p.1) b d) fun w d=>(mn u).bind fun s=>(d[l]?).bind fun m=>(rk m).bind fun g=>if g.length<1000000 then I.dcompL k (f.set x p.1) x c a b l p.2 (d.set l (.dictS (ee s w g)))else none) fun d=>I.dcompL k (f.set x p.1) x c a b l p.2 d
noncomputable def iy (c:MF)(n:Nat)(v:V)(d:MS):Option (MF×MS):=(c.cells.lookup n).bind fun l=>(d[l]?).bind fun m=>m.casesOn no no no (fun _=>no) fun _=>some (c,d.set l (.cell (some v)))
noncomputable def se (b:MF)(t:T)(v:V)(a:MS):Option (MF×MS):=t.casesOn (fun n=>some (b.set n v,a)) (fun n=>iy b n v a) (fun e f=>dm (I.ev k b e a) fun o a=>(fX a o f v).bind fun a=>some (b,a)) (fun e i=>dm (I.ev k b e a) fun o a=>dm (I.ev k b i a) fun i a=>(fY a o i v).bind fun a=>some (b,a)) (fun g=>(mV v).bind fun h=>wv I k g h b a)
end
noncomputable def nI.next (I:nI):nI:=⟨HQ I,I9 I,q5 I,LR I,Jf I,Je I,vt I,re I,se I⟩
noncomputable def Nb (n:Nat):nI:=n.rec ⟨fun _ _ _ _=>none,fun _ _ _ _=>none,fun _ _ _ _ _=>none,fun _ _ _ _=>none,fun _ _ _ _ _=>none,fun _ _ _ _ _ _=>none,fun _ _ _ _ _ _ _ _=>none,fun _ _ _ _ _ _ _ _ _=>none,fun _ _ _ _ _=>none⟩ fun _=>nI.next
theorem Kh:dC aZ false (ae 8 0) (am 8 0)=some j6.body:=by rfl
theorem Ki:dC aZ false (ae 9 0) (am 9 0)=some hU.body:=by rfl
theorem Gr:dC aZ false (ae 11 1) (am 11 1)=some eA.body:=by rfl
theorem Gs:dC aZ false (ae 11 2) (am 11 2)=some d4.body:=by rfl
theorem Gu:dC aZ false (ae 11 3) (am 11 3)=some f9.body:=by rfl
theorem Gv:dC aZ false (ae 11 4) (am 11 4)=some gh.body:=by rfl
theorem Gw:dC aZ false (ae 11 5) (am 11 5)=some eT.body:=by rfl
theorem Gx:dC aZ false (ae 11 6) (am 11 6)=some gb.body:=by rfl
theorem Gy:dC aZ false (ae 11 7) (am 11 7)=some cW.body:=by rfl
theorem Gz:dC aZ false (ae 11 8) (am 11 8)=some cj.body:=by rfl
theorem GA:dC aZ false (ae 11 9) (am 11 9)=some b6.body:=by rfl
theorem GB:dC aZ false (ae 21 1) (am 21 1)=some fy.body:=by rfl
theorem GC:dC aZ false (ae 23 0) (am 23 0)=some fG.body:=by rfl
theorem GD:dC aZ false (ae 33 0) (am 33 0)=some i5.body:=by rfl
theorem GE:dC aZ false (ae 35 0) (am 35 0)=some ja.body:=by rfl
theorem GF:dC aZ false (ae 38 0) (am 38 0)=some lP.body:=by rfl
theorem GG:dC aZ false (ae 39 0) (am 39 0)=some hO.body:=by rfl
theorem GH:dC aZ false (ae 40 0) (am 40 0)=some jb.body:=by rfl
theorem GI:dC aZ false (ae 41 0) (am 41 0)=some dH.body:=by rfl
theorem GJ:dC aZ false (ae 42 0) (am 42 0)=some hY.body:=by rfl
theorem GK:dC aZ false (ae 43 0) (am 43 0)=some lM.body:=by rfl
theorem GL:dC aZ false (ae 45 1) (am 45 1)=some i4.body:=by rfl
theorem GN:dC aZ false (ae 46 1) (am 46 1)=some eB.body:=by rfl
theorem GO:dC aZ false (ae 48 1) (am 48 1)=some d5.body:=by rfl
theorem GP:dC aZ false (ae 49 0) (am 49 0)=some bU.body:=by rfl
theorem GQ:dC aZ false (ae 50 0) (am 50 0)=some h6.body:=by rfl
theorem GR:dC aZ false (ae 51 0) (am 51 0)=some jc.body:=by rfl
theorem GS:dC aZ false (ae 52 0) (am 52 0)=some d6.body:=by rfl
theorem GT:dC aZ false (ae 53 0) (am 53 0)=some j5.body:=by rfl
theorem GU:dC aZ false (ae 56 1) (am 56 1)=some hJ.body:=by rfl
theorem GV:dC aZ false (ae 56 2) (am 56 2)=some dG.body:=by rfl
theorem GW:dC aZ false (ae 57 0) (am 57 0)=some fD.body:=by rfl
theorem GX:dC aZ false (ae 58 0) (am 58 0)=some d7.body:=by rfl
theorem GY:dC aZ false (ae 59 0) (am 59 0)=some h7.body:=by rfl
theorem GZ:dC aZ false (ae 60 0) (am 60 0)=some gq.body:=by rfl
theorem G0:dC aZ false (ae 61 0) (am 61 0)=some jD.body:=by rfl
theorem G1:dC aZ false (ae 62 0) (am 62 0)=some eC.body:=by rfl
theorem G2:dC aZ false (ae 63 0) (am 63 0)=some gm.body:=by rfl
theorem G3:dC aZ false (ae 64 0) (am 64 0)=some gr.body:=by rfl
theorem G4:dC aZ false (ae 65 0) (am 65 0)=some hZ.body:=by rfl
theorem G5:dC aZ false (ae 66 0) (am 66 0)=some gs.body:=by rfl
theorem G6:dC aZ false (ae 68 0) (am 68 0)=some lO.body:=by rfl
theorem G7:dC aZ false (ae 69 0) (am 69 0)=some j9.body:=by rfl
theorem G8:dC aZ false (ae 70 0) (am 70 0)=some ke.body:=by rfl
theorem G9:dC aZ false (ae 71 0) (am 71 0)=some hV.body:=by rfl
theorem Ha:dC aZ false (ae 72 0) (am 72 0)=some gi.body:=by rfl
theorem Hb:dC aZ false (ae 73 0) (am 73 0)=some fe.body:=by rfl
theorem Hc:dC aZ false (ae 74 0) (am 74 0)=some j7.body:=by rfl
theorem Hd:dC aZ false (ae 75 0) (am 75 0)=some kc.body:=by rfl
theorem He:dC aZ false (ae 76 0) (am 76 0)=some hW.body:=by rfl
theorem Hf:dC aZ false (ae 77 0) (am 77 0)=some i6.body:=by rfl
theorem Hg:dC aZ false (ae 78 0) (am 78 0)=some j8.body:=by rfl
theorem Hh:dC aZ false (ae 79 0) (am 79 0)=some i7.body:=by rfl
theorem Hi:dC aZ true (ae 80 0) (am 80 0)=some eW.body:=by rfl
theorem Hj:dC aZ false (ae 81 0) (am 81 0)=some lN.body:=by rfl
theorem Hk:dC aZ true (ae 82 0) (am 82 0)=some bz.body:=by rfl
theorem Hl:dC aZ true (ae 83 0) (am 83 0)=some bw.body:=by rfl
theorem Hm:dC aZ true (ae 84 0) (am 84 0)=some xi.body:=by rfl
structure wO (C:Cx)(fi:FI):Prop where
 cp:fi.cp=false
 co:∃c P cn,fi.cdv= .ref c/\CodeHd C.G c P/\C.tq.lookup P=some (fi.qual++"<lambda>")/\fi.qual=cn++".<locals>."
 f:∃a,fi.f=some a
def cG (C:Cx)(a:Bool)(b:FI):Prop:=a=true->wO C b
structure Aw (C:Cx)(c:Nat)(n:Str):Prop where
 g:plainGet C.K (C.ca c) n=true
 d:hasDictIn C.K (C.ca c)=true
 a:∃attr,findIn C.K (.ref (C.ca c)) n=some attr/\noGet C.K attr=true
structure AH (C:Cx)(n:Str):Prop where
 g:findIn C.K (.ref (C.ca 14)) "__getattribute__" =some (some (.builtin "BaseException.__getattribute__"))
 h:findIn C.K (.ref (C.ca 14)) "__getattr__" =some none
 m:mroIn C.K (C.ca 14) (.type "BaseException")=some true
 d:hasDictIn C.K (C.ca 14)=true
 a:∃attr,findIn C.K (.ref (C.ca 14)) n=some attr/\noGet C.K attr=true
structure Ay (C:Cx)(c:Nat)(n:Str):Prop where
 s:findIn C.K (.ref (C.ca c)) "__setattr__" =some (some (.builtin "object.__setattr__"))
 p:plainOver C.K (C.ca c)=true
 t:takerIn C.K (C.ca c) n=some none
 d:hasDictIn C.K (C.ca c)=true
noncomputable def Aj (C:Cx)(k:Kd):Value:=k.casesOn (.type "NoneType") (fun t=>.type t.name) fun c=>.ref (C.ca c)
structure Ax (C:Cx)(c:Nat):Prop where
 g:plainGet C.K (C.ca c) "__class__" =true
 d:hasDictIn C.K (C.ca c)=true
 a:findIn C.K (.ref (C.ca c)) "__class__" =some (some (.builtin "object.__class__"))
 n:specialIn C.K (.builtin "object.__class__") "__get__" =some (some (.builtin "getset_descriptor.__get__"))
 t:takesIn C.K (.builtin "object.__class__")=some true
 m:mroIn C.K (C.ca c) (.type "object")=some true
structure wM (C:Cx)(c j:Nat)(n:Str):Prop where
 g:plainGet C.K (C.ca c) n=true
 f:findIn C.K (.ref (C.ca c)) n=some (some (.ref (C.fa c j)))
 t:isFn C.K (.ref (C.fa c j))=true
structure KB (C:Cx):Prop extends KF C where
 meth:∀c j n,aO n=true->zx c (aL n)=some j->wM C c j n
 kit:∀k t:Kd,Et.contains k.code=true->Mj.contains t.code=true->kitOne C.K (Aj C k) (Aj C t)=some (k.code==t.code||(k.code==2&&t.code==1))
 own:∀c,Et.contains (Kd.cls c).code=true->Ax C c
 clsGet:∀c n,aO n=true->jQ c (aL n)=true->Aw C c n
 excGet:AH C (Str.ofString "at")
 clsSet:∀c n,aO n=true->jQ c (aL n)=true->c≠14->Ay C c n
 mods:∃o,C.G.get? sysModules=some o
 gl:∀x v,a8 x=true->aZ.lookup (aL x)=some v->∃u,(C.mg x=some u\/(C.mg x=none/\C.mb x=some u))/\VR C Sg.none v u
theorem bg(h:a8 x=true):aO x=true:=(zB (zB h).1).1
theorem cL(h:a8 x=true):(x==("__debug__":Str))=false:=(pd _).mp (zB (zB h).1).2
theorem wh(h:a8 x=true):(x==("__classdict__":Str))=false:=(pd _).mp (zB h).2
theorem Ok.get_of (h:Ok C k b x c d t m s)(a:p∈t.news):s.heap.get? p.1=some p.2:=(h.N p a).1
theorem nr{s:Sg}(h:p∈s.imm):p∈s.news:=iD _ (iD _ (sx _ h))
theorem Ok.get_has (h:Ok C k c x d e t m s)(q:C.has t a o):s.heap.get? a=some o:=q.elim (h.F.keep _ _) fun q=>h.get_of (nr q)
theorem Ok.upd_news (h:Ok C k l x n p t m s)(e:(d,o)∈t.news)(f:Heap.SameBut d s.heap c)(g:c.get? d=some i):Fr C.G x.L c m/\News C.G x.L c (t.news.map (rp d i)):=⟨Fr.update h.F h.N e f,h.N.update e f g⟩
theorem Ok.grow (h:Ok C k i x j l u m s)(t:Nat)(hk:∀b o,s.heap.get? b=some o->h'.get? b=some o):Ok C k i x j l u m {s with heap:=h',toks:=t}:=h.step ⟨fun _ _ e=>e,fun _ e=>e⟩ rfl rfl (h.F.keeps hk) (fun p g=>⟨hk _ _ (h.N p g).1,(h.N p g).2⟩) h.nd h.len h.reps
theorem Ok.rep_e (h:Ok C k p x q g t m s)(e:g[l]?=some o)(r:VR C t (.loc l) u):∃b,u= .ref b.adr/\t.reps[l]?=some b/\iV C t o b:=by have hl:=(List.getElem?_eq_some_iff.mp e).1;rw[<- h.len]at hl;obtain⟨a,j,d⟩:=r;have f:=yo hl;unfold Sg.adr at d;rw[f]at d;exact⟨t.reps[l],j.trans (congrArg Value.ref (e9 d).symm),f,h.reps l o _ e f⟩
theorem th (h:Ok C k D x r t q m s)(g:aO n=true)(e:r.cells.lookup (aL n)=some l)(u:t[l]?=some (.cell o)):∃a d,x.cl.lookup n=some a/\q.reps[l]?=some (.cell a d)/\(a,d)∈q.news/\Av C q o d:=by
 obtain⟨a,v,w⟩:=h.cells n l g e;obtain⟨G,j,i,y,d,p,z⟩:=h.rep_e u (.loc w);have B:a=y:=by rw[p]at j;exact mX j
 rw[p,<- B]at i;exact⟨a,d,v,i,h.mem_rep i (.head _),z⟩
theorem b9{Q:Value->w->Prop}(r:VR C s v u)(k:∀i t,av (f i) (Q (.int i t))):av ((bl v).bind f) (Q u):=by cases v with|int i=>exact r.elim fun t e=>e▸k i t|_=>exact af
theorem gA{Q:Value->w->Prop}(r:VR C s v u)(k:∀b t,b.length<=1000000->av (f b) (Q (.bytes b.toArray t))):av ((lz v).bind f) (Q u):=by cases v with|bytes b=>exact r.elim fun t e=>e.1▸k b t e.2|_=>exact af
theorem kj{Q:Value->w->Prop}(r:VR C s v u)(k:∀b t,b.length<=1000000->av (f b) (Q (.str (aN b) t))):av ((mn v).bind f) (Q u):=by cases v with|str b=>exact r.elim fun t e=>e.1▸k b t e.2|_=>exact af
theorem w4{Q:Value->t->Prop}(r:VR C s v u)(k:∀b,av (f b) (Q (.bool b))):av ((w3 v).bind f) (Q u):=by cases v with|bool b=>exact(show u=_ from r)▸k b|_=>exact af
theorem sk{Q:Value->t->Prop}(r:VR C s v u)(k:∀a b,v= .tup a->jO C s b u->VRs C s a b->av (f a) (Q u)):av ((mV v).bind f) (Q u):=by cases v with|tup a=>exact r.elim fun b e=>k a b rfl e.1 e.2|_=>exact af
theorem jO.at (h:Ok C k d x f g w m s){P:Value->Prop}(t:jO C w b u)(k:∀a,IsTup s.heap a b.toArray->P (.ref a)):P u:=t.2.elim fun a=>Exists.elim (h₂:=fun n e=>e.1▸k a ⟨_,h.get_has e.2,rfl,n,rfl⟩)
theorem CB (r:VR C s v u)(h:ni v=true){P:Value->Prop}(k:P .none):P u:=by cases v with|none=>exact(show u=_ from r)▸k|_=>exact Bool.noConfusion (show false=true from h)
structure j1 (C:Cx)(σ:Sg)(h:Heap)(l:Nat)(vs:List V)(a:Addr)(us:List Value)(n:Nat):Prop where
 e:σ.reps[l]?=some (.list a us n)
 m:(a,listOf us.toArray n)∈σ.news
 i:h.IsList a us.toArray
 r:VRs C σ vs us
 l:vs.length<=1000000
theorem eJ (h:Ok C k fi x mf q w m s)(e:q[l]?=some (.list t))(r:VR C w (.loc l) u){P:Value->Prop}(k:∀a c n,j1 C w s.heap l t a c n->P (.ref a)):P u:=by refine(h.rep_e e r).elim fun K y=>y.elim fun z A=>A.elim fun f B=>B.elim fun a D=>D.elim fun c F=>F.elim fun n G=>G.elim fun j H=>H.elim fun I J=>?_;rw[j]at f;have o:=h.mem_rep f (.head _);rw[z,j];exact k a c n ⟨f,o,⟨_,h.get_of o,rfl,n,rfl⟩,I,J⟩
theorem nl{Q:Value->w->Prop}(h:Ok C k j x p c t m s)(r:VR C t (.loc l) u)(k:∀b a g n,c[l]?=some (.list b)->j1 C t s.heap l b a g n->av (f b) (Q (.ref a))):av ((aC c (.loc l)).bind f) (Q u):=by show av (((c[l]?).bind H6).bind f) _;cases e:c[l]? with|none=>exact af|some o=>cases o with|list b=>exact eJ (P:=fun u=>av (f b) (Q u)) h e r fun a g n q=>k b a g n e q|_=>exact af
theorem cf{Q:Value->w->Prop}(h:Ok C k i x j d t m s)(r:VR C t v u)(k:∀l b a c n,v= .loc l->d[l]?=some (.list b)->j1 C t s.heap l b a c n->av (f b) (Q (.ref a))):av ((aC d v).bind f) (Q u):=by cases v with|loc l=>exact nl h r fun b a c n=>k l b a c n rfl|_=>exact af
structure jx (C:Cx)(σ:Sg)(h:Heap)(l:Nat)(kvs:List (List Nat×V))(a:Addr)(es:List DictEntry):Prop where
 e:σ.reps[l]?=some (.dict a es kvs.length)
 m:(a,dictOf es kvs.length)∈σ.news
 g:h.get? a=some (dictOf es kvs.length)
 d:AB C σ kvs es
structure Ez (C:Cx)(σ:Sg)(h:Heap)(l:Nat)(kvs:List (List UInt8×V))(a:Addr)(es:List DictEntry)(n:Nat):Prop where
 e:σ.reps[l]?=some (.dict a es n)
 m:(a,dictOf es n)∈σ.news
 g:h.get? a=some (dictOf es n)
 d:AA C σ kvs es
theorem dB (h:Ok C k G x H q t m s)(e:q[l]?=some (.dictS d))(r:VR C t (.loc l) u){P:Value->Prop}(k:∀a f,jx C t s.heap l d a f->P (.ref a)):P u:=by refine(h.rep_e e r).elim fun I w=>w.elim fun y z=>z.elim fun i A=>A.elim fun a B=>B.elim fun f D=>D.elim fun n F=>?_;rw[n]at i;have o:=h.mem_rep i (.head _);rw[y,n];exact k a f ⟨i,o,h.get_of o,F⟩
theorem gN (h:Ok C k I x J t w m s)(e:t[l]?=some (.dictB d))(r:VR C w (.loc l) u){P:Value->Prop}(k:∀a f n,Ez C w s.heap l d a f n->P (.ref a)):P u:=by refine(h.rep_e e r).elim fun K y=>y.elim fun z A=>A.elim fun i B=>B.elim fun a D=>D.elim fun f F=>F.elim fun n G=>G.elim fun o H=>?_;rw[o]at i;have p:=h.mem_rep i (.head _);rw[z,o];exact k a f n ⟨i,p,h.get_of p,H⟩
structure AJ (C:Cx)(σ:Sg)(h:Heap)(l c:Nat)(fs:List (Nat×V))(a dx:Addr)(es:List DictEntry)(n:Nat):Prop where
 e:σ.reps[l]?=some (.inst a (C.ca c) dx es n)
 m1:(a,instObj (C.ca c) dx)∈σ.news
 m2:(dx,dictOf es n)∈σ.news
 i:InstAt h a (instObj (C.ca c) dx) (C.ca c) (some (dictOf es n))
 f:sH C σ fs es
 l:fs.length<=100
theorem og (h:Ok C k R x U y w m s)(e:y[l]?=some (.inst c z))(r:VR C w (.loc l) u){P:Value->Prop}(k:∀a g i n,AJ C w s.heap l c z a g i n->P (.ref a)):P u:=by refine(h.rep_e e r).elim fun X D=>D.elim fun F G=>G.elim fun f H=>H.elim fun a I=>I.elim fun g J=>J.elim fun i K=>K.elim fun n L=>L.elim fun q M=>M.elim fun N Q=>?_;rw[q]at f;have t:=h.mem_rep f (.head _);have v:=h.mem_rep f (.tail _ (.head _));rw[F,q];exact k a g i n ⟨f,t,v,⟨h.get_of t,rfl,rfl,h.get_of v⟩,N,Q⟩
theorem Cw{Q:Value->z->Prop}(h:Ok C k t x v d w m s)(r:VR C w (.loc l) u)(k:∀c b a g i n,d[l]?=some (.inst c b)->AJ C w s.heap l c b a g i n->av (f (c,b)) (Q (.ref a))):av ((d[l]?).bind fun o=>(Cv o).bind f) (Q u):=by cases e:d[l]? with|none=>exact af|some o=>cases o with|inst c b=>exact og (P:=fun u=>av (f (c,b)) (Q u)) h e r fun a g i n q=>k c b a g i n e q|_=>exact af
theorem d9{R:List Value->t->Prop}(r:VRs C s b c)(k:∀a u,VR C s a u->av (f a) (R [u])):av ((ip b).bind f) (R c):=by cases b with|nil=>exact af|cons a d=>cases d with|nil=>refine r.elim fun u e=>e.elim fun _ g=>g.elim fun h i=>i.elim fun j l=>?_;rw[h,show _=[]from l];exact k a u j|cons _ _=>exact af
theorem wA{R:List Value->t->Prop}(r:VRs C s c d)(k:∀a b u w,VR C s a u->VR C s b w->av (f (a,b)) (R [u,w])):av ((Ee c).bind f) (R d):=by cases c with
 |nil=>exact af|cons a e=>
  refine r.elim fun u g=>g.elim fun h i=>i.elim fun j l=>l.elim fun m e=>?_;rw[j];show av (((ip _).bind fun b=>some (a,b)).bind f) _;rw[Option.bind_assoc];exact d9 (R:=fun d=>R (u::d)) e fun b w n=>k a b u w m n
theorem EB(hk:d.scope.names.lookup n=some .cell\/d.scope.names.lookup n=some .free)(g:a8 n=true)(e:o.cells.lookup (aL n)=some l)(r:t[l]?=some (.cell (some v))):Ev C k d o t (.Name n p) v:=bO.ok fun x b m s h Q E q=>by
  obtain⟨a,w,j,-,z,u,A,B⟩:=th h (bg g) e r;obtain⟨y,D,F⟩:=B v rfl;have hc:s.heap.IsCell a (some y):=⟨w,h.get_of z,D▸A⟩;have c:=q b m _ _ (.refl _) h F;rcases hk with hk|hk
  ·exact wpAny_Name (wpAny_loadName_cell (env:=x.env d) h.kd hk j hc c) (cL g)
  ·exact wpAny_Name (wpAny_loadName_free (env:=x.env d) h.kd hk j hc c (wh g)) (cL g)
theorem EC (H:KB C)(hk:a.scope.names.lookup n=some .globalImplicit)(g:a8 n=true)(e:aZ.lookup (aL n)=some v):Ev C k a i j (.Name n p) v:=bO.ok fun x t m s h Q E q=>(H.gl n v g e).elim fun u hu=>
  have c:Q u s:=q t m _ _ (.refl _) h (hu.2.sub (Sg.none_sub t))
  hu.1.elim (fun hu=>uA (env:=x.env a) h.kd hk (loadGlobal_global (env:=x.env a) (H.R.g.keeps h.F.keep) hu c) (cL g)) fun hu=>uA (env:=x.env a) h.kd hk (loadGlobal_builtin (env:=x.env a) (H.R.g.keeps h.F.keep) hu.1 (H.R.b.keeps h.F.keep) hu.2 c) (cL g)
def mD{q:Type}(C:Cx)(k:Nat)(g:FI)(x:Fx)(h:MF)(u:Sg)(s:Shared)(t:Sem z)(R:Sg->q->z->Prop)(b:q)(d:MS):Prop:=∀(Q:z->Shared->Prop) (E:Value->Shared->Prop),(∀c i e a,u.le c->Ok C k g x h d c i e->R c b a->Q a e)->wpAny (model C.prog C.w) x.A t Q E s
theorem oJ(h:ay e=true)(y:Expr)(p:Pos)(q:e= .Starred y p):False:=Bool.noConfusion (show ay (.Starred y p)=true from q▸h)
theorem qr(h:ay e=true)(a:List Expr)(b:Nat)(c:Pos)(q:e= .Set a b c):False:=Bool.noConfusion (show ay (.Set a b c)=true from q▸h)
theorem t7(h:ay e=true)(a b c:Option Expr)(d:Pos)(q:e= .Slice a b c d):False:=Bool.noConfusion (show ay (.Slice a b c d)=true from q▸h)
theorem Ce{n:Nat}(h:n<=1000000):(n:Int)<2 ^ 63:=Int.lt_of_le_of_lt (Int.ofNat_le.mpr h) (by decide)
theorem cA(h:n<=1000000):n<=sizeLine:=bR h (by decide)
theorem bM(h:ay e=true)(r:List Expr)(a:Env):starEach (e::r) a=(false,eval e a)::starEach r a:=by cases e with|Starred y p=>exact(oJ h _ _ rfl).elim|_=>rfl
theorem yI:fu C k c d a [] p (.ok []) a:=bO.ok fun x t m s h Q E q=>spliced_nil (q t m s _ (.refl _) h .nil)
theorem u9(o:ay e=true)(t:ax C k i j u e (.ok v) c)(w:fu C k i j c r p (.ok y) d):fu C k i j u (e::r) p (.ok (v::y)) d:=bO.ok fun x z m s h Q E q=>by
 show wpAny _ _ (spliced (backTo p (starEach (e::r) _))) _ _ _;rw[bM o];exact k7 (t.go h fun A J K a l B D=>w.go B fun f F G L n H I=>q f F G _ (l.trans n) H (.cons (D.sub n.sub) I))
theorem sX(i:ay e=true)(j:ax C k f g n e (.ok v) b)(o:fu C k f g b r p (.error z) c):fu C k f g n (e::r) p (.error z) c:=bO.err fun x K m s h Q E q=>by
 show wpAny _ _ (spliced (backTo p (starEach (e::r) _))) _ _ _;rw[bM i];exact k7 (j.go h fun t G H a l u I=>o.goE u fun d w y A B=>q d w y A (l.trans B))
theorem yH(b:ay e=true)(c:ax C k d f g e (.error z) a):fu C k d f g (e::r) p (.error z) a:=bO.err fun x t m s h Q E q=>by
 show wpAny _ _ (spliced (backTo p (starEach (e::r) _))) _ _ _;rw[bM b];exact k7 (c.goE h q)
theorem AX(v:fu C k w y z A d (.ok o) e)(hl:o.length<=1000000):ax C k w y z (.Tuple A G d) (.ok (.tup o)) e:=bO.ok fun x u m s h Q E q=>Tuple_ (v.go h fun B I D J l c r=>newTuple_N c.F c.N (fun K F N=>
  have p:=c.put_imm (t:=D.toks) F N (c.fresh (cc _))
  q _ _ _ _ (l.trans p.1) p.2 (.tup (.inr (.head _)) (r.sub p.1.sub) hl)) (cA (r.length▸hl)))
theorem qP(e:fu C k f g i j b (.error z) c):ax C k f g i (.Tuple j n b) (.error z) c:=bO.err fun x t m s h Q E q=>Tuple_ (e.goE h q)
theorem jF{C:Cx}{s:Sg}(c:a ∉ s.keys)(o:Obj):∀p∈[(a,o)],p.1 ∉ s.keys:=fun p d=>by rw[List.mem_singleton.mp d];exact c
theorem gQ (a:Addr)(o:Obj):([(a,o)].map (·.1)).Nodup:=List.nodup_cons.mpr ⟨(fun h=>nomatch h),sE⟩
theorem fM(i:Ok C k j x l e w m s)(q:VRs C w b c)(hl:b.length<=1000000)(u:a ∉ w.keys) (F:Fr C.G x.L f m) (N:News C.G x.L f ((a,listOf c.toArray n)::w.news)):∃z,w.le z/\Ok C k j x l (e++[.list b]) z m {s with heap:=f,toks:=t}/\VR C z (.loc e.length) (.ref a):=
 have p:=i.put_rep (t:=t) (r:=.list a c n) (o:=.list b) F N (jF (C:=C) u _) (gQ _ _) ⟨a,c,n,rfl,q,hl⟩
 ⟨_,p.1,p.2.1,.loc p.2.2⟩
theorem yE(r:fu C k u v w y e (.ok i) b)(hl:i.length<=1000000):ax C k u v w (.List y e) (.ok (.loc b.length)) (b++[.list i]):=bO.ok fun x z m s h Q E q=>List_ (r.go h fun A G B H l d o=>newList_N d.F d.N (fun I F N=>(fM (n:=0) (t:=B.toks) d o hl (d.fresh (cc _)) F N).elim fun g p=>q g _ _ _ (l.trans p.1) p.2.1 p.2.2) (cA (o.length▸hl)))
theorem VRs.isEmpty(h:VRs C s a b):a.isEmpty=b.toArray.isEmpty:=VRs.ind (P:=fun a b=>a.isEmpty=b.toArray.isEmpty) rfl (fun _ _ _ _ _ _ _=>by simp) _ _ h
theorem j1.short{l:Nat}(q:j1 C s h l c a b n):b.length<=1000000:=q.r.length▸q.l
theorem gW(h:Ok C k e x f c t m s)(r:VR C t v u):av (cD c v) fun b=>mD C k e x f t s (truthy u) (fun _ b a=>a=b) b c:=by cases v with|bool b=>rw[show u=_ from r];exact ac (fun Q E q=>wI (q t m s _ (.refl _) h rfl))|loc l=>exact cf (Q:=fun u b=>mD C k e x f t s (truthy u) (fun _ b a=>a=b) b c) h r fun l g a j n _ _ o=>ac fun Q E q=>wpAny_truthy_list o.i (Ce o.short) (q t m _ _ (.refl _) (h.toks _) (by rw[o.r.isEmpty]))|_=>exact af
theorem uZ(j:ax C k n o p e (.ok v) d)(r:cD d v=some b) (t:∀f c,isTrue e f c=(do let v <- c;standAt e.pos;holding [v] (truthy v))):cy C k n o p e (.ok b) d:=bO.ok fun x u m s h Q E q=>isTrue_plain (j.go h fun w J K a l y z=>(gW y z _ r) Q E fun g A B D F G H=>q g A B D (l.trans F) G H) (t _ _)
theorem AP(i:cy C k j n o e (.ok b) d):cy C k j n o (.UnaryOp .Not e p) (.ok (!b)) d:=bO.ok fun x w m s h Q E q=>isTrue_not (i.go h fun f r t a l u v=>q f r t _ l u (by rw[v]))
theorem AV(j:ax C k n o p e (.ok v) c)(r:cD c v=some b):ax C k n o p (.UnaryOp .Not e t) (.ok (.bool !b)) c:=bO.ok fun x d m s h Q E q=>UnaryOp_ (j.go h fun u H I a l w y=>not_of ((gW w y _ r) _ E fun g z A J B D F=>q g z A _ (l.trans B) D (by rw[F];exact .bool _)))
theorem qN:cy C k e f b (.BoolOp .And [] c) (.ok true) b:=bO.ok fun x t m s h Q E q=>isTrue_and_nil (q t m s _ (.refl _) h rfl)
theorem sT:cy C k e f b (.BoolOp .Or [] c) (.ok false) b:=bO.ok fun x t m s h Q E q=>isTrue_or_nil (q t m s _ (.refl _) h rfl)
theorem uY(n:cy C k i j o e (.ok true) c)(p:cy C k i j c (.BoolOp .And r d) (.ok b) f):cy C k i j o (.BoolOp .And (e::r) d) (.ok b) f:=bO.ok fun x t m s h Q E q=>isTrue_and (n.go h fun u G H a l v w=>by
  rw[w,au rfl];exact p.go v fun g y z A B D F=>q g y z A (l.trans B) D F)
theorem uX(f:cy C k g i j e (.ok false) b):cy C k g i j (.BoolOp .And (e::r) n) (.ok false) b:=bO.ok fun x w m s h Q E q=>isTrue_and (f.go h fun c o p a l t u=>by
  rw[u,aH (by decide)];exact q c o p _ l t rfl)
theorem yx(n:cy C k i j o e (.ok false) c)(p:cy C k i j c (.BoolOp .Or r d) (.ok b) f):cy C k i j o (.BoolOp .Or (e::r) d) (.ok b) f:=bO.ok fun x t m s h Q E q=>isTrue_or (n.go h fun u G H a l v w=>by
  rw[w,aH (by decide)];exact p.go v fun g y z A B D F=>q g y z A (l.trans B) D F)
theorem yy(f:cy C k g i j e (.ok true) b):cy C k g i j (.BoolOp .Or (e::r) n) (.ok true) b:=bO.ok fun x w m s h Q E q=>isTrue_or (f.go h fun c o p a l t u=>by
  rw[u,au rfl];exact q c o p _ l t rfl)
theorem sS(o:cy C k j n p t (.ok c) e)(u:cy C k j n e (if c then a else b) (.ok r) f):cy C k j n p (.IfExp t a b v) (.ok r) f:=bO.ok fun x w m s h Q E q=>isTrue_IfExp (o.go h fun y K L z l A B=>by
  subst B;have:=u.go A (Q:=Q) (E:=E) fun i D F G H I J=>q i D F G (l.trans H) I J;cases z with|true=>exact this|false=>exact this)
theorem sW(y:cy C k v w A t (.ok c) e)(B:ax C k v w e (if c then a else b) o f):ax C k v w A (.IfExp t a b D) o f:=fun x g m s h Q E q F=>IfExp_ (y.go h fun i G H I l J K=>by
  subst K;have:=B x i G H J Q E (fun b L d j n p r u M=>q b L d j n p (l.trans r) u M) fun z N d j n p r u=>F z N d j n p (l.trans r) u;cases I with|true=>exact this|false=>exact this)
theorem jN(c:ax C k d f g e (.ok v) b):ax C k d f g (.BoolOp j [e] i) (.ok v) b:=c
theorem u2(n:ax C k i j o e (.ok v) c)(p:cD c v=some true)(t:ax C k i j c (.BoolOp .And (u::r) d) (.ok w) f):ax C k i j o (.BoolOp .And (e::u::r) d) (.ok w) f:=bO.ok fun x b m s h Q E q=>BoolOp_and (n.go h fun z P R a l A B=>(gW A B _ p) _ E fun D U X a2 F G H=>by
  rw[H,au rfl];exact t.go G fun g I J K L M N=>q g I J K ((l.trans F).trans L) M N)
theorem u0(i:ax C k j n o e (.ok v) b)(p:cD b v=some false):ax C k j n o (.BoolOp .And (e::F::r) t) (.ok v) b:=bO.ok fun x d m s h Q E q=>BoolOp_and (i.go h fun u H I a l w f=>(gW w f _ p) _ E fun c y z J g A B=>by
  rw[B,aH (by decide)];exact q c y z a (l.trans g) A (f.le g.sub))
theorem yF(n:ax C k i j o e (.ok v) c)(p:cD c v=some false)(t:ax C k i j c (.BoolOp .Or (u::r) d) (.ok w) f):ax C k i j o (.BoolOp .Or (e::u::r) d) (.ok w) f:=bO.ok fun x b m s h Q E q=>BoolOp_or (n.go h fun z P R a l A B=>(gW A B _ p) _ E fun D U X a2 F G H=>by
  rw[H,aH (by decide)];exact t.go G fun g I J K L M N=>q g I J K ((l.trans F).trans L) M N)
theorem yG(i:ax C k j n o e (.ok v) b)(p:cD b v=some true):ax C k j n o (.BoolOp .Or (e::F::r) t) (.ok v) b:=bO.ok fun x d m s h Q E q=>BoolOp_or (i.go h fun u H I a l w f=>(gW w f _ p) _ E fun c y z J g A B=>by
  rw[B,au rfl];exact q c y z a (l.trans g) A (f.le g.sub))
abbrev cH (C:Cx)(k:Nat)(a:FI)(x:Fx)(b:MF)(u:Sg)(s:Shared)(t:Sem Value)(r:V×MS):Prop:=mD C k a x b u s t (VR C) r.1 r.2
theorem kG (h:Ok C k b x c d u m s)(q:∀(Q:Value->Shared->Prop) (E:Value->Shared->Prop),Q (.int i s.toks) {s with toks:=s.toks+1}->wpAny (model C.prog C.w) x.A t Q E s):cH C k b x c u s t (.int i,d):=fun Q E p=>q Q E (p u m _ _ (.refl _) (h.toks _) (.int _ _))
theorem zy(h:a.natAbs<1000000000\/b.natAbs<1000000000):IntMulOk a b:=by
 rcases h with h|h
 ·exact .of_left (intBits_le_64 (by lia) (by lia))
 ·exact .of_right (intBits_le_64 (by lia) (by lia))
theorem EL (h:Ok C k u x v w r m s)(d:(a++b).length<=1000000)(y:jO C r j z)(f:VRs C r a j)(A:jO C r l B)(g:VRs C r b l):cH C k u x v r s (binaryOp .Add z B) (.tup (a++b),w):=fun Q E q=>by
 have n1:=f.length;have n2:=g.length;obtain⟨G,H,m1,rfl,n⟩:=y;obtain⟨l2,a2,m2,rfl,o⟩:=A;have i1:IsTup s.heap H j.toArray:=⟨_,h.get_has n,rfl,m1,rfl⟩;have i2:IsTup s.heap a2 l.toArray:=⟨_,h.get_has o,rfl,m2,rfl⟩;refine add_tuples h.F h.N i1 i2 (fun e=>?_) (fun _ e=>?_) (fun _ _ h' F' N'=>?_) (by rw[aK]at d;exact bR (iG (by rw[n1,n2])) (cA d))
 ·rw[Ak (n1.trans (congrArg List.length e))]at q;exact q r m s _ (.refl _) h (.tup o g (n2▸l2))
 ·rw[Ak (n2.trans (congrArg List.length e)),cF]at q;exact q r m s _ (.refl _) h (.tup n f (n1▸G))
 ·have p:=h.put_imm (t:=s.toks) F' N' (h.fresh (cc _));exact q _ _ _ _ p.1 p.2 (.tup (.inr (.head _)) ((f.append g).sub p.1.sub) d)
theorem IK (h:Ok C k g x o ms u m s)(w:VR C u a y)(z:VR C u b c):av (Lb ms a b) (cH C k g x o u s (binaryOp .Add y c)):=by cases a with
 |int i=>exact w.elim fun t e=>e▸b9 (Q:=fun c=>cH C k g x o u s (binaryOp .Add (.int i t) c)) z fun j t'=>ac (kG h fun Q E=>PySem.P.add_int)|bytes b1=>
  exact w.elim fun t1 e=>e.1▸gA (Q:=fun c=>cH C k g x o u s (binaryOp .Add (.bytes b1.toArray t1) c)) z fun b2 t2 h2=>aB fun f=>ac fun Q E q=>by
   refine PySem.W.KBy.add_bytes (show b1.length+b2.length<=_ from aK▸cA f) fun t' k'=>?_;rw[List.append_toArray];exact q u m {s with toks:=k'} _ (.refl _) (h.toks k') (.bytes _ _ f)|tup a=>exact w.elim fun us t=>sk (Q:=fun c=>cH C k g x o u s (binaryOp .Add y c)) z fun b' ws _ t2 r2=>aB fun f=>ac (EL h f t.1 t.2 t2 r2)|loc l=>
  exact cf (Q:=fun y=>cH C k g x o u s (binaryOp .Add y c)) h w fun _ vs1 a1 us n1 _ _ o1=>cf (Q:=fun c=>cH C k g x o u s (binaryOp .Add (.ref a1) c)) h z fun _ vs2 a2 ws n2 _ _ o2=>aB fun f=>ac fun Q E q=>add_arrays h.F h.N o1.i o2.i (fun h' F' N'=>(fM (n:=0) (t:=s.toks) h (o1.r.append o2.r) f (h.fresh (cc _)) F' N').elim fun d p=>q d _ _ _ p.1 p.2.1 p.2.2) (show us.length+ws.length<=_ by rw[<- o1.r.length,<- o2.r.length,<- aK];exact cA f)|_=>exact af
theorem iB(h:VR C s a d)(l:VR C s b g){Q:Value->Value->u->Prop}{f:Int->Int->Option u}(k:∀i t j e,av (f i j) (Q (.int i t) (.int j e))):av ((bl a).bind fun i=>(bl b).bind fun j=>f i j) (Q d g):=b9 (Q:=fun d=>Q d g) h fun i t=>b9 (Q:=Q (.int i t)) l fun j e=>k i t j e
theorem Bm (h:Ok C k fi x mf ms u m s)(ho:Ng o'=some o)(ra:VR C u a ua)(rb:VR C u b ub):av (c8 ms o a b) (cH C k fi x mf u s (binaryOp o' ua ub)):=by cases o' with
 |Add=>rw[<- e9 ho];exact IK h ra rb
 |Sub=>rw[<- e9 ho];exact iB (Q:=fun ua ub=>cH C k fi x mf u s (binaryOp .Sub ua ub)) ra rb fun i t j t'=>ac (kG h fun Q E=>PySem.P.sub_int)
 |Mult=>rw[<- e9 ho];exact iB (Q:=fun ua ub=>cH C k fi x mf u s (binaryOp .Mult ua ub)) ra rb fun i t j t'=>aB fun hs=>ac (kG h fun Q E q=>PySem.P.mul_int q (zy hs))
 |Mod=>rw[<- e9 ho];exact iB (Q:=fun ua ub=>cH C k fi x mf u s (binaryOp .Mod ua ub)) ra rb fun i t j t'=>aB fun hs=>ac (kG h fun Q E q=>PyProof.Rows.mod_int (Int.ne_of_gt hs) (Int.fmod_eq_emod_of_nonneg i (mY hs)▸q))
 |FloorDiv=>
  rw[<- e9 ho]
  exact iB (Q:=fun ua ub=>cH C k fi x mf u s (binaryOp .FloorDiv ua ub)) ra rb fun i t j t'=>aB fun hs=>ac (kG h fun Q E q=>
   PyProof.Rows.floordiv_int (Int.ne_of_gt hs.1) (Int.fdiv_eq_ediv_of_nonneg i (mY hs.1)▸q) (Or.inl (PyProof.noPylong_small (by omega))))
 |_=>exact nomatch ho
theorem AR(u:Ng v=some o)(w:ax C k n p y a (.ok z) d)(A:ax C k n p d b (.ok B) f)(e:c8 f o z B=some r):ax C k n p y (.BinOp a v b D) (.ok r.1) r.2:=bO.ok fun x g m s h Q E q=>wpAny_BinOp (w.go h fun G U X Y l H I=>A.go H fun J Z s2 ub t K L=>Bm K u (I.sub t.sub) L _ e Q E fun j M N P R=>q j M N P ((l.trans t).trans R))
theorem AU(h1:ax C k fi mf ms a (.ok va) c)(e:KS va=some v):ax C k fi mf ms (.UnaryOp .USub a pos) (.ok v) c:=bO.ok fun x u m s h Q E q=>wpAny_UnaryOp (h1.go h fun f m' s' ua l o1 r1=>b9 (Q:=fun ua v=>(∀b j g a,f.le b->Ok C k fi x mf c b j g->VR C b v a->Q a g)->wpAny (model C.prog C.w) x.A (unaryOp .USub ua) Q E s') r1 (fun i t=>ac fun q=>PySem.P.neg_int (q f m' _ _ (.refl _) (o1.toks _) (.int _ _))) v e fun b j g a l2=>q b j g a (l.trans l2))
section
open SeqAt
noncomputable def qp (f:V->V->Option Bool)(a b:List V)(j:Nat):Bool:=((a[j]?).bind fun v=>(b[j]?).bind fun u=>f v u).getD false
theorem oO (n:Nat)(e:Nat->Bool):(List.range (n+1)).all e=(e 0&&(List.range n).all fun j=>e (j+1)):=by rw[List.range_succ_eq_map,List.all_cons,List.all_map];rfl
structure wR (f:V->V->Option Bool)(vs us:List V)(b:Bool):Prop where
 b:b=((List.range (min vs.length us.length)).all (qp f vs us)&&vs.length==us.length)
 e:∀j v u,vs[j]?=some v->us[j]?=some u->f v u=some (qp f vs us j)
theorem uy(l:List V):∀g,av (jJ f l g) (wR f l g):=by induction l with|nil=>exact fun g=>ac ⟨by cases g<;>rfl,fun j v u h=>nomatch h⟩|cons v l r=>
  intro g;cases g with|nil=>exact ac ⟨rfl,fun j v u _ h=>nomatch h⟩|cons u g=>
   refine al fun a n=>ak (r g) fun b q=>ac ⟨?_,fun j s t p hu=>?_⟩
   ·have w:qp f (v::l) (u::g) 0=a:=congrArg (·.getD false) n;rw[fj,fj,Nat.succ_min_succ,oO,w,q.b,Bool.and_assoc];exact congrArg (fun c=>a&&(_&&c)) (by rw[wK,mO,mO,Nat.add_right_cancel_iff])
   ·cases j with|zero=>rw[<- e9 p,<- e9 hu,n];exact congrArg some (congrArg (·.getD false) n).symm|succ j=>exact q.e j s t p hu
theorem VRs.get (h:VRs C s b c):∀(j:Nat) (u:Value),c[j]?=some u->∃v,b[j]?=some v/\VR C s v u:=VRs.ind (P:=fun b c=>∀(j:Nat) (u:Value),c[j]?=some u->∃v,b[j]?=some v/\VR C s v u) (fun j u h=>nomatch h) (fun v u b c a _ d j w e=>by
  cases j with|zero=>exact⟨v,rfl,e9 e▸a⟩|succ j=>exact d j w e) _ _ h
theorem VRs.get' (h:VRs C s b c):∀(j:Nat) (v:V),b[j]?=some v->∃u,c[j]?=some u/\VR C s v u:=VRs.ind (P:=fun b c=>∀(j:Nat) (v:V),b[j]?=some v->∃u,c[j]?=some u/\VR C s v u) (fun j u h=>nomatch h) (fun v u b c a _ d j w e=>by
  cases j with|zero=>exact⟨u,rfl,e9 e▸a⟩|succ j=>exact d j w e) _ _ h
theorem VRs.cut (h:VRs C s f g):∀n,VRs C s (f.drop n) (g.drop n)/\VRs C s (f.take n) (g.take n):=VRs.ind (P:=fun f g=>∀n,VRs C s (f.drop n) (g.drop n)/\VRs C s (f.take n) (g.take n)) (fun n=>by rw[List.drop_nil,List.drop_nil,List.take_nil,List.take_nil];exact⟨.nil,.nil⟩) (fun v u f g a r i n=>by
  cases n with|zero=>exact⟨.cons a r,.nil⟩|succ n=>exact⟨(i n).1,.cons a (i n).2⟩) _ _ h
theorem gS(h:aN a=aN b):a=b:=congrArg (fun s:Str=>s.cps.toList) h
theorem mx(hf:∀v w y,VR C z v y->VR C z w y->av (f v w) (· =true))(h:VRs C z g i):∀d,VRs C z d i->av (jJ f g d) (· =true):=VRs.ind (P:=fun g i=>∀d,VRs C z d i->av (jJ f g d) (· =true)) (fun d h=>by
  cases d with
  |nil=>exact ac rfl|cons w d=>exact h.elim fun _ h=>h.elim fun _ h=>nomatch h.1) (fun v u g i a _ m d h=>by
  cases d with
  |nil=>exact nomatch (show _::_=[]from h)|cons w d=>
   refine h.elim fun t n=>n.elim fun r o=>o.elim fun e p=>p.elim fun k l=>?_;rw[<- (kr e).1]at k;rw[<- (kr e).2]at l;exact ak (hf v w u a k) fun b q=>ak (m d l) fun c s=>ac (by rw[q,s];rfl)) _ _ h
theorem uq{b:List Value}(f:IsTup h a g.toArray)(i:IsTup h j b.toArray)(e:a=j):b=g:=by obtain⟨o,c,-,n,k⟩:=f;obtain⟨p,l,-,q,d⟩:=i;rw[e,l]at c;rw[e9 c,k]at d;exact congrArg Array.toList (Data.seq.inj d).1.symm
theorem qj{h:Heap}{b:List Value}(f:h.IsList a g.toArray)(i:h.IsList j b.toArray)(e:a=j):b=g:=by obtain⟨o,c,-,n,k⟩:=f;obtain⟨p,l,-,q,d⟩:=i;rw[e,l]at c;rw[e9 c,k]at d;exact congrArg Array.toList (Data.seq.inj d).1.symm
theorem qz(hf:∀v w y,VR C s v y->VR C s w y->av (f v w) (· =true))(d:VRs C s g i)(h:VRs C s a b)(e:b=i):av (bif g.length==a.length then jJ f g a else some false) (· =true):=oW (fun _=>mx hf d a (e▸h)) fun c=>absurd (d.length.trans ((congrArg List.length e).symm.trans h.length.symm)) (beq_eq_false_iff_ne.mp c)
theorem ux (h:Ok C k fi x mf g u m s)(n:Nat):∀v w y,VR C u v y->VR C u w y->av (mW n g v w) (· =true):=by induction n with
 |zero=>exact fun _ _ _ _ _=>af|succ n B=>
  intro v w y d c;cases v with
  |none=>exact aB fun _=>ac rfl|int i=>exact d.elim fun t e=>(b9 (Q:=fun y b=>y= .int i t->b=true) c fun j D=>ac fun q=>dD (Value.int.inj q).1.symm).mono fun b q=>q e|bool i=>exact(w4 (Q:=fun y b=>y= .bool i->b=true) c fun j=>ac fun q=>dD (Value.bool.inj q).symm).mono fun b q=>q d|str i=>exact d.elim fun t e=>(kj (Q:=fun y b=>y= .str (aN i) t->b=true) c fun j D _=>ac fun q=>dD (gS (Value.str.inj q).1).symm).mono fun b q=>q e.1|bytes i=>exact d.elim fun t e=>(gA (Q:=fun y b=>y= .bytes i.toArray t->b=true) c fun j D _=>ac fun q=>dD (congrArg Array.toList (Value.bytes.inj q).1).symm).mono fun b q=>q e.1|tup o=>
   show av ((mV w).bind fun f=>jJ (mW n g) o f) _;exact d.elim fun f t=>sk (Q:=fun _ b=>b=true) c fun F A _ J G=>mx B t.2 F (by
    obtain⟨_,a,n1,e1,g1⟩:=t.1;obtain⟨_,a',n2,e2,g2⟩:=J;rw[uq ⟨_,h.get_has g1,rfl,n1,rfl⟩ ⟨_,h.get_has g2,rfl,n2,rfl⟩ (mX (e1.symm.trans e2))]at G;exact G)|loc l=>
   show av ((aC g (.loc l)).bind fun o=>(aC g w).bind fun f=>bif o.length==f.length then jJ (mW n g) o f else some false) _;exact(cf (Q:=fun y b=>VR C u w y->b=true) h d fun _ o a f n1 _ _ H=>ya fun c=>(cf (Q:=fun z b=>z= .ref a->b=true) h c fun _ F a' A n2 _ _ I=>ya fun e=>qz B H.r I.r (qj H.i I.i (mX e).symm)).mono fun b q=>q rfl).mono fun b q=>q c|_=>exact af
structure kt (A:Around)(s:Shared)(y z:Value)(b:Bool):Prop where
 c:RcAt A s y z b
 n:RcNeAt A s y z (!b)
 e:EqAt A s y z b
theorem uV(a b:List UInt8)(t u:Tok):EqAt A s (.bytes a.toArray t) (.bytes b.toArray u) (decide (a=b)):=fun c w E Q h=>(bytesKind c w).eqBool (bytesKind_is ..) (bytesKind_is ..) h
theorem qZ{s:Type} [BEq s] [LawfulBEq s] [DecidableEq s](a b:s):(a==b)=decide (a=b):=by rw[wK,mO,decide_eq_true_eq]
theorem Ac (a b:List Nat):(aN a==aN b)=decide (a=b):=by rw[wK,mO,decide_eq_true_eq];exact⟨gS,fun e=>e▸rfl⟩
theorem kt.refs(c:RcAt A s (.ref a) (.ref f) b)(n:RcNeAt A s (.ref a) (.ref f) (!b))(q:a=f->b=true):kt A s (.ref a) (.ref f) b:=⟨c,n,by
 by_cases e:a=f
 ·rw[q e,e];exact .same _
 ·exact .of_refs e c⟩
theorem t5(q:wR f h i b)(p:VRs C t h k)(r:VRs C t i d)(hf:∀v w y z,VR C t v y->VR C t w z->av (f v w) (kt A s y z)):∀j (l:j<k.toArray.size) (m:j<d.toArray.size),EqAt A s k.toArray[j] d.toArray[j] (qp f h i j):=fun j l m=>(p.get j _ (yo l)).elim fun v n=>(r.get j _ (yo m)).elim fun w o=>(hf v w _ _ n.2 o.2 _ (q.e j v w n.1 o.1)).e
theorem Eh (h:Ok C k fi x mf ms u m s)(n:Nat):∀A v w y z,A.units+n<cLine->VR C u v y->VR C u w z->av (mW n ms v w) (kt A s y z):=by induction n with
 |zero=>exact fun _ _ _ _ _ _ _ _=>af|succ n ih=>
  intro A v w y z hu hv hw;have cl:A.units<cLine:=cN (dn _ _) hu;have ih':=fun v w y z=>ih A.in1 v w y z (by rw[show A.in1.units=A.units+1 from rfl,pf,k8 1];exact hu);cases v with
  |none=>exact aB fun e=>CB (P:=fun z=>av (some true) (kt A s y z)) hw e (by rw[show y=_ from hv];exact ac ⟨.none_none,.none_none,.same _⟩)|int i=>exact hv.elim fun t e=>e▸b9 (Q:=kt A s (.int i t)) hw fun j t'=>ac ⟨.int_int _ _ _ _,.int_int _ _ _ _,.int_int _ _ _ _⟩|bool i=>rw[show y=_ from hv];exact w4 (Q:=kt A s (.bool i)) hw fun j=>ac (qZ i j▸ ⟨.bool_bool _ _,.bool_bool _ _,.bool_bool _ _⟩)|str i=>exact hv.elim fun t e=>e.1▸kj (Q:=kt A s (.str (aN i) t)) hw fun j t' _=>ac (Ac i j▸ ⟨.str_str _ _ _ _,.str_str _ _ _ _,.str_str _ _ _ _⟩)
  |bytes i=>
   exact hv.elim fun t e=>e.1▸gA (Q:=kt A s (.bytes i.toArray t)) hw fun j t' _=>ac ⟨fun prog w E Q h=>eq_bytes (by rw[show(i.toArray.toList==j.toArray.toList)=decide (i=j)from qZ i j];exact h),
    fun prog w E Q h=>ne_bytes (by rw[show(i.toArray.toList !=j.toArray.toList)=!decide (i=j)from congrArg _ (qZ i j)];exact h),uV _ _ _ _⟩
  |tup vs=>
   show av ((mV w).bind fun us=>jJ (mW n ms) vs us) _
   exact hv.elim fun us t=>sk (Q:=fun z b=>kt A s y z b) hw fun ws us' _ t2 r2 b e=>t.1.at h (P:=fun y=>kt A s y z b) fun a i1=>t2.at h (P:=fun z=>kt A s (.ref a) z b) fun a' i2=>by
    have q:=uy vs ws b e
    have eb:b=((List.range (min us.toArray.size us'.toArray.size)).all (qp (mW n ms) vs ws)&&us.toArray.size==us'.toArray.size):=q.b.trans (by rw[t.2.length,r2.length];rfl)
    have he:=t5 q t.2 r2 ih'
    refine .refs (eb▸ .tuples i1 i2 cl he) (eb▸ .tuples i1 i2 cl he) fun ea=>?_
    have r2:=r2
    rw[uq i1 i2 ea]at r2
    exact mx (ux h n) t.2 ws r2 b e
  |loc l=>
   show av ((aC ms (.loc l)).bind fun vs=>(aC ms w).bind fun us=>bif vs.length==us.length then jJ (mW n ms) vs us else some false) _
   exact cf (Q:=fun y b=>kt A s y z b) h hv fun _ vs a us n1 _ _ o1=>cf (Q:=fun z b=>kt A s (.ref a) z b) h hw fun _ ws a' us' n2 _ _ o2 b e=>by
    have l1:us.toArray.size=vs.length:=o1.r.length.symm
    have l2:us'.toArray.size=ws.length:=o2.r.length.symm
    have both:RcAt A s (.ref a) (.ref a') b/\RcNeAt A s (.ref a) (.ref a') (!b):=by
     refine bS (vs.length==ws.length) ?_ ?_
     ·intro c
      rw[c]at e
      have q:=uy vs ws b e
      have ll:vs.length=ws.length:=bh c
      have eb:b=(List.range us.toArray.size).all (qp (mW n ms) vs ws):=q.b.trans (by rw[<- ll,Nat.min_self,l1,jK,Bool.and_true])
      have sz:=l1.trans (ll.trans l2.symm)
      have he:=t5 q o1.r o2.r ih'
      exact eb▸ ⟨.lists o1.i o2.i sz cl he,.lists o1.i o2.i sz cl he⟩
     ·intro c
      rw[c]at e
      have sz:(us.toArray.size !=us'.toArray.size)=true:=by rw[l1,l2];exact congrArg Bool.not c
      exact e9 e▸ ⟨.lists_lengths o1.i o2.i sz cl,.lists_lengths o1.i o2.i sz cl⟩
    exact .refs both.1 both.2 fun ea=>qz (ux h n) o1.r o2.r (qj o1.i o2.i ea) b e
  |_=>exact af
end
section
open SeqAt
def IE (C:Cx)(s:Sg)(o:Option V)(p:Option Value):Prop:=o.casesOn (p=none) fun v=>∃u,p=some u/\VR C s v u
section
variable {C:Cx} {σ:Sg} {K:Type} [DecidableEq K] {knd:KeyKind C.prog C.w K}
theorem mE.find(h:mE C σ knd b c)(k:K):IE C σ (b.lookup k) (findBy knd.is c.toArray k):=by unfold findBy;rw[List.find?_toArray];induction h with
 |nil=>exact rfl|cons d l f r g=>
  rename_i k' v e b c;rw[gZ,List.find?_cons,knd.is_eq_decide d k];by_cases q:k=k'
  ·rw[q,jK,dD rfl];exact⟨e.val,rfl,f⟩
  ·rw[jt q,cO q];exact g
theorem mE.keys(h:mE C σ knd i b):KeysOf knd b.toArray:=by induction h with|nil=>exact fun e he=>nomatch (List.mem_toArray.mp he)|cons c d j r f=>
  intro g he;rcases zC (List.mem_toArray.mp he)with q|q
  ·rw[q];exact⟨_,c,d⟩
  ·exact f g (List.mem_toArray.mpr q)
theorem mE.length(h:mE C σ knd a b):b.length=a.length:=by induction h with|nil=>rfl|cons _ _ _ _ c=>exact congrArg (· +1) c
theorem mE.pairs(h:mE C σ knd c d):∃a:List (K×Value),Pairs knd d a/\a.map (·.1)=c.map (·.1):=by induction h with|nil=>exact⟨[],.nil,rfl⟩|cons g k l r i=>rename_i f v e c d;exact i.elim fun a q=>⟨(f,e.val)::a,.cons g rfl q.1,congrArg (List.cons f) q.2⟩
theorem wa{t u γ:Type} [BEq t] [LawfulBEq t] [BEq u] [LawfulBEq u]{f:t->u}(hf:∀a b,f a=f b->a=b)(c:List (t×γ))(s:t):(c.map fun p=>(f p.1,p.2)).lookup (f s)=c.lookup s:=by induction c with
 |nil=>rfl|cons p r e=>
  rw[iE,gZ,gZ,e,show(f s==f p.1)=(s==p.1) by rw[wK,mO,mO];exact⟨hf _ _,congrArg f⟩]
theorem rY (a:List (List Nat×V))(s:List Nat):(jq a).lookup (aN s)=a.lookup s:=wa (fun _ _=>gS) a s
theorem kz{β γ:Type}(b c:BEq γ)(f:@LawfulBEq _ b)(g:@LawfulBEq _ c)(a:List (γ×β))(s:γ):@List.lookup _ _ b s a=@List.lookup _ _ c s a:=by induction a with
 |nil=>rfl|cons p r e=>
  unfold List.lookup;rw[e,show @BEq.beq _ b s p.1=@BEq.beq _ c s p.1 by rw[wK,@beq_iff_eq _ b,@beq_iff_eq _ c]]
end
theorem ji{C:Cx}{t:Sg}{s:Shared}{K:Type} [DecidableEq K]{knd:KeyKind C.prog C.w K}{d:List (K×V)}{b:List DictEntry}{n:Nat}{a:Addr}(e:s.heap.get? a=some (dictOf b n))(r:mE C t knd d b):s.heap.MapOf knd a (findBy knd.is b.toArray):=⟨_,_,n,e,⟨rfl,rfl,rfl⟩,rfl,r.keys,fun _=>rfl⟩
theorem kP (H:KB C)(h:Ok C k c x d f t m s)(b:(a,o)∈t.news):(a==sysModules)=false:=H.mods.elim fun g e=>jt fun q=>nomatch (q▸ (h.N _ b).2.2:C.G.get? sysModules=none).symm.trans e
structure Hx (A:Around)(s:Shared)(u:Value)(us:List Value)(b:Bool)(l:List (Value×Bool)):Prop where
 m:l.map (·.1)=us
 e:∀p∈l,EqAt A s p.1 u p.2
 b:b=l.any (·.2)
theorem Hq (h:Ok C k t x B g G m s)(i:VR C G a u)(hu:A.units+40<cLine)(r:VRs C G d f):av (Ei g a d) fun b=>∃l,Hx A s u f b l:=VRs.ind (P:=fun d f=>av (Ei g a d) fun b=>∃l,Hx A s u f b l) (ac ⟨[],rfl,(fun _ h=>nomatch h),rfl⟩) (fun v w d f j _ n=>ak (Eh h 40 A v a w u hu j i) fun y c=>ak n fun z q=>ac (q.elim fun l q=>⟨(w,y)::l,congrArg (w::·) q.m,fun p o=>(zC o).elim (fun e=>e▸c.e) (q.e p),congrArg (y|| ·) q.b⟩)) _ _ r
theorem s9 (l:List (Value×Bool)):∃e:Value->Bool,(l.map (·.1)).any e=l.any (·.2)/\∀y∈l.map (·.1),∃p∈l,p.1=y/\p.2=e y:=by
 refine⟨fun v=>l.any fun p=>decide (p.1=v)&&p.2,?_,fun y f=>?_⟩
 ·rw[wK,List.any_eq_true,List.any_eq_true];refine⟨fun⟨y,_,q⟩=>?_,fun⟨p,b,e⟩=>⟨p.1,e7 b,List.any_eq_true.mpr ⟨p,b,Bool.and_eq_true_iff.mpr ⟨dD rfl,e⟩⟩⟩⟩;obtain⟨p,b,e⟩:=List.any_eq_true.mp q;exact⟨p,b,(zB e).2⟩
 ·obtain⟨p,b,d⟩:=zF f;refine bS (l.any fun p=>decide (p.1=y)&&p.2) ?_ ?_
  ·intro q;obtain⟨r,hr,e⟩:=List.any_eq_true.mp q;exact⟨r,hr,eP (zB e).1,(zB e).2.trans q.symm⟩
  ·intro q;exact⟨p,b,d,(Bool.eq_false_iff.mpr fun e=>List.any_eq_false.mp q p b (Bool.and_eq_true_iff.mpr ⟨dD d,e⟩)).trans q.symm⟩
end
section
open SeqAt
theorem ey(e:u=w)(h:(w==Value.none)=b):(u==Value.none)=b:=e▸h
theorem VR.none_iff(r:VR C s v u):(u==Value.none)=ni v:=by cases v with|int i=>exact r.elim fun t e=>ey e rfl|str b=>exact r.elim fun t e=>ey e.1 rfl|bytes b=>exact r.elim fun t e=>ey e.1 rfl|tup f=>exact r.elim fun g e=>e.1.2.elim fun a e=>e.elim fun n e=>ey e.1 rfl|loc l=>exact r.elim fun a e=>ey e.1 rfl|rng a b c=>exact r.elim fun t e=>e.elim fun j e=>e.elim fun h e=>e.elim fun a e=>ey e.1 rfl|exc z=>exact r.elim fun a e=>e.elim fun k e=>e.elim fun f e=>e.elim fun o e=>e.elim fun p e=>e.elim fun n e=>ey e.1 rfl|xl q=>exact r.elim fun a e=>e.elim fun g e=>ey e.1 rfl|lam m d=>exact r.elim fun _ e=>e.elim fun _ e=>e.elim fun _ e=>e.elim fun _ e=>e.elim fun _ e=>e.elim fun _ e=>e.elim fun _ e=>e.elim fun _ e=>e.elim fun _ e=>e.elim fun _ e=>e.elim fun _ e=>e.elim fun _ e=>ey e.1 rfl|_=>exact ey r rfl
theorem iN.cl(h:iN k A)(e:n<=41):A.units+n<cLine:=pg (cN (pc e _) (Nat.add_lt_add_right (cN (dn ..) h.uni) 41)) (by decide)
abbrev Ex (C:Cx)(k:Nat)(b:FI)(x:Fx)(c:MF)(d:MS)(t:Sg)(s:Shared)(o:CmpOp)(e f:Value)(r:Bool):Prop:=mD C k b x c t s (compareOp o e f) (VR C) (.bool r) d
theorem xH (h:Ok C k D x F i g m s)(j:VR C g a n)(r:VRs C g o d):av (Ei i a o) fun c=>∃e:Value->Bool,(∀y,y∈d.toArray->EqAt x.A.in1 s y n (e y))/\d.toArray.any e=c:=(Hq h j (A:=x.A.in1) (by rw[show x.A.in1.units+40=x.A.units+1+40 from rfl,pf];exact h.room.cl (by decide)) r).mono fun c q=>q.elim fun l q=>(s9 l).elim fun e f=>⟨e,fun y t=>by
  refine(f.2 y (by rw[q.m];exact List.mem_toArray.mp t)).elim fun p u=>u.elim fun v w=>w.elim fun z B=>?_;rw[<- B,<- z];exact q.e p v,by rw[List.any_toArray,<- q.m,f.1,q.b]⟩
theorem ic (h:Ok C k a x b c u m s)(q:∀(Q:Value->Shared->Prop) (E:Value->Shared->Prop),Q (.bool r) s->wpAny (model C.prog C.w) x.A t Q E s):mD C k a x b u s t (VR C) (.bool r) c:=fun Q E p=>q Q E (p u m s _ (.refl _) h (.bool _))
theorem Mf (H:KB C)(h:Ok C k B x D z y m s)(F:VR C y a A)(G:VR C y b j):av (H0 z a b) (Ex C k B x D z y s .In A j):=by cases b with
 |tup vs=>exact G.elim fun us t=>(xH h F t.2).mono fun c q=>q.elim fun e q=>ic h fun Q E p=>t.1.at h (P:=fun j=>wpAny _ _ (compareOp .In A j) Q E s) fun t J=>in_tupleAt e J q.1 (q.2▸p)|loc l=>
  refine gA (Q:=fun A=>Ex C k B x D z y s .In A j) F fun r t _=>al fun o hl=>?_;cases o with
  |dictB i=>
   refine ac (gN (P:=fun j=>Ex C k B x D z y s .In _ j _) h hl G fun d es n q Q E p=>wpAny_in_of (knd:=bytesKind C.prog C.w) (bytesKind_is ..) (kP H h q.m) (ji q.g q.d.h) ?_);have f:=q.d.h.find r;rw[kz (β:=V) instBEqOfDecidableEq _ inferInstance inferInstance i r]at f;have e:(findBy (bytesKind C.prog C.w).is es.toArray r).isSome=(i.lookup r).isSome:=by cases e:i.lookup r with
    |none=>rw[e]at f;rw[show findBy _ _ _=_ from f];rfl|some v=>rw[e]at f;exact f.elim fun u f=>f.1▸rfl
   rw[e];exact p y m _ _ (.refl _) (h.toks _) (.bool _)|_=>exact af
 |_=>exact af
theorem i0 (H:KB C)(h:Ok C k o x u g G m s)(v:VR C G a l)(y:VR C G b d):av (bc g (sJ o') a b) (Ex C k o x u g G s o' l d):=by have z:∀{f:Int->Int->Bool} {op:CmpOp},(∀{i j:Int} {t t':Tok} {s:Shared} {Q:Value->Shared->Prop} {E:Value->Shared->Prop},Q (.bool (f i j)) s->wpAny (model C.prog C.w) x.A (compareOp op (.int i t) (.int j t')) Q E s)->av (Cy f a b) (Ex C k o x u g G s op l d):=fun hc=>iB (Q:=Ex C k o x u g G s _) v y fun i t j t'=>ac (ic h fun Q E=>hc);have hv:=Eh h 40 x.A a b l d (h.room.cl (by decide)) v y;cases o' with|Eq=>exact hv.mono fun r c=>ic h fun Q E=>EqBoolInt.of_rc c.c|NotEq=>exact ak hv fun r c=>ac (ic h fun Q E=>EqBoolInt.of_rcne c.n)|Lt=>exact z PySem.P.lt_int|LtE=>exact z PySem.P.le_int|Gt=>exact z PySem.P.gt_int|GtE=>exact z PySem.P.ge_int|Is=>exact aB fun e=>CB (P:=fun d=>av (some (ni a)) (Ex C k o x u g G s .Is l d)) y e (ac (ic h fun Q E p=>is_none (v.none_iff▸p)))|IsNot=>exact aB fun e=>CB (P:=fun d=>av (some !ni a) (Ex C k o x u g G s .IsNot l d)) y e (ac (ic h fun Q E p=>isNot_none (v.none_iff▸p)))|In=>exact Mf H h v y|NotIn=>exact sk (Q:=fun d=>Ex C k o x u g G s .NotIn l d) y fun vs us _ t r=>ak (xH h v r) fun c q=>ac (q.elim fun e q=>ic h fun Q E p=>t.at h (P:=fun d=>wpAny _ _ (compareOp .NotIn l d) Q E s) fun t i1=>notIn_tupleAt e i1 q.1 (q.2▸p))
theorem l6(h:ay e=true)(o:CmpOp):behindInMarks o e=false:=by cases e with|Set a b c=>exact(qr h _ _ _ rfl).elim|_=>rfl
theorem AS (H:KB C)(u:ay b=true)(v:ax C k n o w a (.ok y) g)(z:ax C k n o g b (.ok A) c)(e:bc c (sJ B) y A=some r):ax C k n o w (.Compare a [B] [b] D) (.ok (.bool r)) c:=bO.ok fun x d m s h Q E q=>wpAny_Compare1 (v.go h fun G Z s' ua l I J=>z.go I fun K m2 s2 ub t L M=>(i0 H L (J.sub t.sub) M _ e) Q E fun j N P R U X Y=>q j N P R ((l.trans t).trans U) X Y) (l6 u _)
theorem AO (H:KB C)(t:ay b=true)(u:ax C k n o v a (.ok w) g)(y:ax C k n o g b (.ok z) c)(e:bc c (sJ A) w z=some r):cy C k n o v (.Compare a [A] [b] B) (.ok r) c:=bO.ok fun x d m s h Q E q=>wpAny_isTrue_Compare1 (u.go h fun F Y Z ua l G I=>y.go G fun J m2 s2 ub p K L=>(i0 H K (I.sub p.sub) L _ e) _ E fun j M N P R U X=>by
  rw[show P=_ from X];exact wI (q j M N _ ((l.trans p).trans R) U rfl)) (l6 t _)
theorem ny(a:ay c=true):lastMarks [o,d] [b,c]=false:=by show behindInMarks d c=false;exact l6 a _
theorem sV (H:KB C)(F:ay c=true)(G:ax C k n p I a (.ok J) t)(K:ax C k n p t b (.ok v) f)(e:bc f (sJ o) J v=some true) (L:ax C k n p f c (.ok M) g) (N:bc g (sJ P) v M=some r):ax C k n p I (.Compare a [o,P] [b,c] R) (.ok (.bool r)) g:=bO.ok fun x w m s h Q E q=>Compare_chain (G.go h fun U m' s' ua l X Y=>chain_link (K.go X fun Z m2 s2 ub z o2 A=>(i0 H o2 (Y.sub z.sub) A _ e) _ E fun σ3 m3 s3 u3 B o3 r3=>by
  rw[show u3=_ from r3];refine wI ?_;rw[au rfl];exact chain_last (L.go o3 fun σ4 m4 s4 uc D o4 r4=>(i0 H o4 (A.sub (B.trans D).sub) r4 _ N) Q E fun u m5 s5 u5 l5 o5 r5=>q u m5 s5 u5 ((((l.trans z).trans B).trans D).trans l5) o5 r5))) (ny F)
theorem sU (H:KB C)(v:ay c=true)(w:ax C k r t y a (.ok z) j)(A:ax C k r t j b (.ok B) d)(e:bc d (sJ o) z B=some false):ax C k r t y (.Compare a [o,Z] [b,c] D) (.ok (.bool false)) d:=bO.ok fun x g m s h Q E q=>Compare_chain (w.go h fun G m' s' ua l I J=>chain_link (A.go I fun K m2 s2 ub u L M=>(i0 H L (J.sub u.sub) M _ e) _ E fun p N P R U X Y=>by
  rw[show R=_ from Y];refine wI ?_;rw[aH (by decide)];exact q p N P _ ((l.trans u).trans U) X (.bool _))) (ny v)
theorem sR (H:KB C)(D:ay c=true)(F:ax C k n p G a (.ok I) t)(J:ax C k n p t b (.ok v) f)(e:bc f (sJ o) I v=some true) (K:ax C k n p f c (.ok L) g) (M:bc g (sJ N) v L=some r):cy C k n p G (.Compare a [o,N] [b,c] P) (.ok r) g:=bO.ok fun x w m s h Q E q=>isTrue_chain (F.go h fun R m' s' ua l U X=>test_link (J.go U fun Y m2 s2 ub y Z z=>(i0 H Z (X.sub y.sub) z _ e) _ E fun σ3 m3 s3 u3 A o3 r3=>by
  rw[show u3=_ from r3];refine wI ?_;rw[au rfl];exact test_last (K.go o3 fun σ4 m4 s4 uc B o4 r4=>(i0 H o4 (z.sub (A.trans B).sub) r4 _ M) _ E fun u m5 s5 u5 l5 o5 r5=>by
   rw[show u5=_ from r5];exact wI (q u m5 s5 _ ((((l.trans y).trans A).trans B).trans l5) o5 rfl)))) (ny D)
theorem sQ (H:KB C)(u:ay c=true)(v:ax C k p r w a (.ok y) i)(z:ax C k p r i b (.ok A) d)(e:bc d (sJ o) y A=some false):cy C k p r w (.Compare a [o,Y] [b,c] B) (.ok false) d:=bO.ok fun x g m s h Q E q=>isTrue_chain (v.go h fun F Z s' ua l G I=>test_link (z.go G fun J m2 s2 ub t K L=>(i0 H K (I.sub t.sub) L _ e) _ E fun n M N P R U X=>by
  rw[show P=_ from X];refine wI ?_;rw[aH (by decide)];exact q n M N _ ((l.trans t).trans R) U rfl)) (ny u)
end
theorem bT(e:u=w)(h:handedIn w=true):handedIn u=true:=e▸h
theorem VR.handed(r:VR C s v u):handedIn u=true:=by cases v with|int i=>exact r.elim fun t e=>bT e rfl|str b=>exact r.elim fun t e=>bT e.1 rfl|bytes b=>exact r.elim fun t e=>bT e.1 rfl|tup f=>exact r.elim fun g e=>e.1.2.elim fun a e=>e.elim fun n e=>bT e.1 rfl|loc l=>exact r.elim fun a e=>bT e.1 rfl|rng a b c=>exact r.elim fun t e=>e.elim fun j e=>e.elim fun h e=>e.elim fun a e=>bT e.1 rfl|exc z=>exact r.elim fun a e=>e.elim fun k e=>e.elim fun f e=>e.elim fun o e=>e.elim fun p e=>e.elim fun n e=>bT e.1 rfl|xl q=>exact r.elim fun a e=>e.elim fun g e=>bT e.1 rfl|lam m d=>exact r.elim fun _ e=>e.elim fun _ e=>e.elim fun _ e=>e.elim fun _ e=>e.elim fun _ e=>e.elim fun _ e=>e.elim fun _ e=>e.elim fun _ e=>e.elim fun _ e=>e.elim fun _ e=>e.elim fun _ e=>e.elim fun _ e=>bT e.1 rfl|bi b=>exact bT r (by cases b<;>decide+kernel)|_=>exact bT r rfl
theorem gT(t:Tok):(Value.str a t).isStr b=(a==b):=rfl
theorem rn(c:aO a=true)(hb:aO b=true):(a==b)=(aL b==aL a):=by rw[wK,mO,mO];exact⟨fun e=>e▸rfl,fun e=>fV c hb e.symm⟩
theorem sH.noRef(h:sH C s e b):b.any (·.refKey)=false:=by induction h with|nil=>rfl|cons g c f i r d=>rw[List.any_cons,d,Bool.or_false];unfold DictEntry.refKey;rw[c]
theorem sH.getL(h:sH C s f d)(g:aO n=true):∃p,getL n d=some p/\IE C s (f.lookup (aL n)) p:=by
 have a:IE C s (f.lookup (aL n)) ((d.find? (·.key.isStr n)).map (·.val)):=by induction h with
  |nil=>exact rfl|cons j k o l r m=>
   rename_i n' v e t f d;rw[gZ,List.find?_cons,show e.key.isStr n=(aL n==aL n') by rw[k,gT,rn j g]];cases aL n==aL n' with|true=>exact⟨e.val,rfl,l⟩|false=>exact m
 unfold PySem.W.getL;cases q:d.find? (·.key.isStr n)with|none=>rw[q]at a;exact⟨none,by simp[h.noRef],a⟩|some e=>rw[q]at a;exact⟨some e.val,rfl,a⟩
theorem sH.length(h:sH C s a b):b.length=a.length:=by induction h with|nil=>rfl|cons _ _ _ _ _ c=>exact congrArg (· +1) c
theorem gR{K:Type} [DecidableEq K](k:K)(v:V)(p:K×V)(r:List (K×V)):Internal.ee k v (p::r)=if p.1=k then(p.1,v)::r else p::Internal.ee k v r:=rfl
theorem iq{K:Type} [DecidableEq K](k:K)(v:V)(l:List (K×V)):(Internal.ee k v l).length<=l.length+1:=by induction l with|nil=>exact cc _|cons p r a=>
  rw[gR];by_cases q:p.1=k
  ·rw[au q];exact eO _
  ·rw[aH q];exact pJ a
theorem sH.put(h:sH C s f i)(g:aO n=true)(r:VR C s v u)(t:Tok):sH C s (Internal.ee (aL n) v f) (putL n (PyData.keyHash C.w.params n) (.str n t) u i):=by induction h with
 |nil=>exact .cons g rfl rfl r .nil|cons b c j l m o=>
  rename_i n' v' e t' f i;unfold putL;rw[gR,show e.key.isStr n=(aL n==aL n') by rw[c,gT,rn b g]];by_cases q:aL n'=aL n
  ·rw[au q,au (beq_iff_eq.mpr q.symm)];exact .cons b c j r m
  ·rw[aH q,aH fun z=>q (beq_iff_eq.mp z).symm];exact .cons b c j l o
abbrev Ni (C:Cx)(k:Nat)(a:FI)(x:Fx)(b:MF)(c:MS)(u:Sg)(s:Shared)(t:Sem Value)(v:V):Prop:=mD C k a x b u s t (VR C) v c
theorem tc(h:g7 x a):∃t,PySem.W.getL (Str.ofString "at") a=some (some (.int x t)):=by
 obtain⟨f,c,g,b2,d,e,rfl⟩:=h;refine⟨e,?_⟩;unfold PySem.W.getL;have w1:(Value.str (Str.ofString "what") c).isStr (Str.ofString "at")=false:=by rw[gT,kR];decide
 have w2:(Value.str (Str.ofString "at") d).isStr (Str.ofString "at")=true:=by rw[gT];simp
 simp[w1,w2]
theorem Jg (H:KB C)(h:Ok C k o x r u b m s)(q:HB C b z e A B D w n):Ni C k o x r u b s (getAttr (.ref e) (Str.ofString "at") G) (.int z):=fun Q E p=>
 have c:=H.excGet
 c.a.elim fun i a=>(tc q.h3).elim fun t f=>xr (H.X.keeps h.F.keep) (I:=⟨h.get_has q.h1,rfl,rfl,h.get_has q.h2⟩) c.g c.h c.m (findObj_own (od:=dictOf w n) c.d a.1 a.2 (v:=.int z t) f) rfl (p b m _ _ (.refl _) (h.toks _) (.int _ _))
theorem vP (H:KB C)(h:Ok C k B x D j R m s)(g:aO f=true)(r:VR C R o u):av (aY j o (aL f)) (Ni C k B x D j R s (getAttr u f J)):=by cases o with
 |loc l=>
  refine Cw (Q:=fun u=>Ni C k B x D j R s (getAttr u f J)) h r fun c K a L M n _ q=>aB fun N v e Q E p=>?_;have t:=H.clsGet c f g N;obtain⟨G,y,A⟩:=t.a;obtain⟨o,P,b⟩:=q.f.getL g;rw[show K.lookup (aL f)=some v from e]at b;obtain⟨w,b,I⟩:=b;exact get_own h.F H.X q.i t.g t.d y A (b▸P) I.handed (p R m _ _ (.refl _) (h.toks _) I)|exc z=>
  refine aB fun hf=>ac ?_;rw[show f=Str.ofString "at" from fV g (by decide+kernel) (hf.trans (by decide+kernel))];refine r.elim fun e z4=>z4.elim fun L z5=>z5.elim fun vs z6=>z6.elim fun sl z7=>z7.elim fun M z8=>z8.elim fun n z9=>z9.elim fun eu q=>?_;rw[eu];exact Jg H h q|_=>exact af
theorem wY(h:(shape a !=1)=true)(f:Str)(b:Env)(t:Sem Value):attributeBase a f b t=t:=by cases a with|Call _ _ _ _=>exact Bool.noConfusion (show false=true from h)|_=>rfl
theorem wV(e:(shape a !=1)=true):eval (.Attribute a f d) c=(do let o <- eval a c;standAt d.atName;let r <- holding [o] (getAttr o f true);letTemporaryGo a o r;pure r:Sem Value):=by show(do let o <- attributeBase a f c (eval a c);standAt d.atName;let r <- holding [o] (getAttr o f true);letTemporaryGo a o r;pure r:Sem Value)=_;rw[wY e]
theorem yA (H:KB C)(j:(shape a !=1)=true)(g:aO f=true)(n:ax C k o p r a (.ok t) c)(e:aY c t (aL f)=some v):ax C k o p r (.Attribute a f u) (.ok v) c:=bO.ok fun x b m s h Q E q=>Attribute_any_ (n.go h fun w I J K l y z=>vP H y g z _ e Q E fun d A B D F=>q d A B D (l.trans F)) (wV j)
abbrev EF (C:Cx)(k:Nat)(b:FI)(x:Fx)(c:MF)(u:Sg)(s:Shared)(t:Sem Unit)(a:MS):Prop:=mD C k b x c u s t (fun _ _ _=>True) () a
theorem wq (H:KB C)(h:Ok C k fi x mf ms z m s)(g:aO f=true)(ro:VR C z o b)(r:VR C z v u):av (fX ms o (aL f) v) (EF C k fi x mf z s (setAttr b f u)):=by cases o with
 |loc l=>
  refine Cw (Q:=fun b=>EF C k fi x mf z s (setAttr b f u)) h ro fun c fs a d j n _ q=>aB fun y=>ac fun Q E p=>?_;obtain⟨c1,c2,c3,c4⟩:=H.clsSet c f g y.1 y.2.1;have hp:=q.f.put g r (s.toks+1);have hl:(Internal.ee (aL f) v fs).length<=100:=bR (iq ..) (bR (Nat.succ_le_of_lt y.2.2) (by decide));refine set_dict h.F H.X h.N q.i rfl c1 c2 c3 c4 ?_ rfl (wF _ h.nd q.m2) (hp.length▸bR hl (by decide)) fun h' F' N'=>?_
  ·obtain⟨o,e1,e2⟩:=q.f.getL g;rw[e1];rfl
  ·have hne:a≠d:=fun e=>by
    have g1:=h.get_of q.m1;rw[e,h.get_of q.m2]at g1;cases g1
   have e0:iM.adr (.inst a (C.ca c) d (putL f (PyData.keyHash C.w.params f) (.str f (s.toks+1)) u j) (putN f j n))=iM.adr (.inst a (C.ca c) d j n):=rfl;have w:=h.put_set (t:=s.toks+2) (om:=.inst c (Internal.ee (aL f) v fs)) q.e (by simp only[iM.objs,iE,o9,rp,aH hne,if_true]) (.tail _ (.head _)) e0 F' N' ⟨_,_,_,_,rfl,hp.le (iz q.e e0),hl⟩;exact p _ _ _ _ w.1 w.2 trivial|_=>exact af
theorem gU(h:ay e=true)(o i:Value):subscripted e false o i=operate [o,i] (getItem o i):=by cases e with|Slice a b c d=>exact(t7 h _ _ _ _ rfl).elim|_=>rfl
theorem te{l:List UInt8}(h:l[j]?=some c):l.getD j 0=c:=by rw[List.getD,h];rfl
theorem Jo{s:Type}{l:List s}{i:Int}{v:s}(b:0<=i)(e:l[i.toNat]?=some v):i<l.length:=by have:=(List.getElem?_eq_some_iff.mp e).1;lia
theorem wf{P:s->Prop}(k:∀v,0<=i->i<l.length->l[i.toNat]?=some v->P v):av (C9 l i) P:=aB fun h v e=>k v h (Jo h e) e
theorem JB{n:Nat}{i:Int}(h:i<n)(b:n<=1000000):i<2 ^ 63:=Int.lt_of_lt_of_le h (mY (Ce b))
abbrev En (C:Cx)(k:Nat)(b:FI)(x:Fx)(c:MF)(d:MS)(t:Sg)(s:Shared)(a e:Expr)(f g:Value)(v:V):Prop:=mD C k b x c t s (subscriptTail a e f g) (VR C) v d
theorem Fg (h:Ok C k A x B y H m s)(D:ay F=true)(hl:y[l]?=some z)(ro:VR C H (.loc l) G)(ri:VR C H i c):av (Cl z i) (En C k A x B y H s b F G c):=by cases z with
 |list vs=>
  refine eJ (P:=fun G=>av (Cl (.list vs) i) (En C k A x B y H s b F G c)) h hl ro fun a us n o=>b9 (Q:=fun c=>En C k A x B y H s b F (.ref a) c) ri fun j t=>?_;have hs:=gU D (.ref a) (.int j t);have len:=o.r.length;by_cases hj:j=-1
  ·rw[au hj,hj];intro v e Q E q;rw[List.getLast?_eq_getElem?]at e;refine(o.r.get' _ v e).elim fun u z1=>z1.elim fun e2 r2=>?_;have hpos:=cN (jw _) (List.getElem?_eq_some_iff.mp e2).1;refine tail_any (T:="list") o.i.typeIs slot_list_getitem.lookup (wpAny_getItem_list_neg (x:=u) o.i (by decide) (by rw[wH];lia) (by decide) ?_ (q H m s u (.refl _) h r2)) (hj▸hs);rw[List.getElem?_toArray,wH,show((-1:Int)+(us.length:Int)).toNat=vs.length-1 by lia];exact e2
  ·rw[aH hj];exact wf fun v h0 lt e Q E q=>(o.r.get' _ v e).elim fun u r2=>tail_any (T:="list") o.i.typeIs slot_list_getitem.lookup (wpAny_getItem_list (x:=u) o.i h0 (JB lt o.l) (List.getElem?_toArray.trans r2.1) (q H m s u (.refl _) h r2.2)) hs|dictS p=>
  refine dB (P:=fun G=>av (Cl (.dictS p) i) (En C k A x B y H s b F G c)) h hl ro fun a es o=>kj (Q:=fun c=>En C k A x B y H s b F (.ref a) c) ri fun ss t _ v e Q E q=>?_;have f:=o.d.h.find (aN ss);rw[rY,e]at f;have z:=ji (knd:=strKind C.prog C.w) o.g o.d.h;exact f.elim fun u f=>tail_any (T:="dict") z.typeIs slot_dict_getitem.lookup (wpAny_getItem_of (strKind_is ..) z f.1 (q H m _ u (.refl _) (h.toks _) f.2)) (gU D _ _)|dictB p=>
  refine gN (P:=fun G=>av (Cl (.dictB p) i) (En C k A x B y H s b F G c)) h hl ro fun a es n o=>gA (Q:=fun c=>En C k A x B y H s b F (.ref a) c) ri fun ss t _ v e Q E q=>?_;have f:=o.d.h.find ss;rw[kz (β:=V) instBEqOfDecidableEq _ inferInstance inferInstance p ss,e]at f;have z:=ji (knd:=bytesKind C.prog C.w) o.g o.d.h;exact f.elim fun u f=>tail_any (T:="dict") z.typeIs slot_dict_getitem.lookup (wpAny_getItem_of (bytesKind_is ..) z f.1 (q H m _ u (.refl _) (h.toks _) f.2)) (gU D _ _)|_=>exact af
theorem vQ (h:Ok C k fi x mf ms w m s)(n:ay sl=true)(ro:VR C w o r)(ri:VR C w i ui):av (br ms o i) (En C k fi x mf ms w s d sl r ui):=by cases o with
 |bytes b=>
  exact ro.elim fun t e=>b9 (Q:=En C k fi x mf ms w s d sl r) ri fun j t'=>ak (wf (P:=fun c=>0<=j/\j<b.length/\b[j.toNat]?=some c) fun c h0 lt e=>⟨h0,lt,e⟩) fun c q=>ac (e.1▸fun Q E p=>tail_any (T:="bytes") (typeIs_bytes s _ _) FB.slot_bytes_getitem.lookup (getItem_bytes (bR e.2 (by decide)) q.1 q.2.1 (by rw[te q.2.2];exact p w m _ _ (.refl _) (h.toks _) (.int _ _))) (gU n _ _))|tup vs=>
  exact ro.elim fun us t=>b9 (Q:=En C k fi x mf ms w s d sl r) ri fun j t'=>wf fun v h0 lt e Q E q=>(t.2.get' _ v e).elim fun u r2=>t.1.at h (P:=fun r=>wpAny _ _ (subscriptTail d sl r (.int j t')) Q E s) fun a i1=>by
   have l2:=t.2.length;refine tail_any (T:="tuple") (IsTup.typeIs i1) slot_tuple_getitem.lookup (PyProof.Rows.getItem_tuple (j:=j.toNat) (x:=u) i1 (pa (by decide) h0) (JB lt (l2▸t.1.1)) ?_ (List.getElem?_toArray.trans r2.1) (q w m s u (.refl _) h r2.2)) (gU n _ _);have h1:j< (us.length:Int):=l2▸lt;simp[seqIndex?,Int.not_lt.mpr h0,h0,h1]|loc l=>exact al fun mo hl=>Fg h n hl ro ri|_=>exact af
theorem AW(d:ay i=true)(t:ax C k o p u a (.ok w) g)(y:ax C k o p g i (.ok z) c)(e:br c w z=some v):ax C k o p u (.Subscript a i A) (.ok v) c:=bO.ok fun x b m s h Q E q=>Subscript_ (t.go h fun D P R U l F G=>y.go F fun H X Y Z r I J=>vQ I d (G.sub r.sub) J _ e Q E fun n K L M N=>q n K L M ((l.trans r).trans N))
def uW (C:Cx)(s:Sg)(o:Option V)(u:Value):Prop:=o.casesOn (u= .none) fun v=>VR C s v u
abbrev A0 (C:Cx)(k:Nat)(b:FI)(c:MF)(d:MS)(e:Option Expr)(o:Option V)(a:MS):Prop:=bO C k b c d (uW C) (fun x=>evalPart e (x.env b)) (.ok o) c a
theorem yJ:A0 C k b c a none none a:=bO.ok fun x t m s h Q E q=>aX (q t m s _ (.refl _) h rfl)
theorem yK(b:ax C k c d f e (.ok v) a):A0 C k c d f (some e) (some v) a:=bO.ok fun x t m s h Q E q=>b.go h q
theorem uW.le(l:s.sub t)(h:uW C s o u):uW C t o u:=by cases o with|none=>exact h|some v=>exact VR.sub l h
def Ew (d n:Nat)(u:Value):Prop:=∃p:Option Int,IsPart u p/\∀a,(d=0\/d=a)->min n a=p.elim (min d a) (clipAt a)
theorem gz (d:Nat)(h:uW C s o u):av (b4 d o) (fun n=>Ew d n u):=by cases o with|none=>exact ac ⟨none,(show u=Value.none from h)▸IsPart.none,fun a _=>rfl⟩|some v=>exact b9 (Q:=fun u n=>Ew d n u) h fun i t=>aB fun b=>ac ⟨some i,.int _ _,fun a _=>by
   have:=clipAt_nat a i.toNat;rw[Int.toNat_of_nonneg b]at this;exact this.symm⟩
theorem BE{s:Type}(l:List s)(i j:Nat):(l.drop (min i l.length)).take (min j l.length-min i l.length)=(l.take j).drop i:=by
 rw[<- List.drop_take,<- List.take_eq_take_min];rcases Nat.le_total i l.length with h|h
 ·rw[qH h]
 ·rw[Nat.min_eq_right h,List.drop_of_length_le (by rw[pK];exact uE ..),List.drop_of_length_le (by rw[pK];exact bR (uE ..) h)]
theorem KJ.vrs:∀{c:List Int} {a:List Value},KJ c a->VRs C s (c.map .int) a| [],a,h=>h|i::c,a,⟨t,r,e,h⟩=>⟨_,r,e,⟨t,rfl⟩,KJ.vrs h⟩
theorem oV (h:Ok C k fi x mf ms w m s)(A:s.heap.IsSliceOf a B D .none)(G:∀o,∃b,subscripted sl false o (.ref a)=operate b (getItem o (.ref a)))(oi:s.heap.IsList a' g.toArray)(r:VRs C w v g)(l:v.length<=1000000) (H:Ew 0 i B) (I:Ew v.length j D):cH C k fi x mf w s (subscriptTail value sl (.ref a') (.ref a)) (.loc ms.length,ms++[.list ((v.take j).drop i)]):=fun Q E q=>by
 obtain⟨plo,H,p2⟩:=H;obtain⟨phi,I,p4⟩:=I;obtain⟨b,G⟩:=G (.ref a');have u:=r.length;have hp:slicePick g.toArray plo phi none=((g.take j).drop i).toArray:=by
  rw[slicePick_plain];have e1:=p2 g.length (.inl rfl);have e2:=p4 g.length (.inr u);rw[Nat.zero_min]at e1;rw[u,Nat.min_self]at e2;rw[wH,<- e1,<- e2,BE]
 have rr:VRs C w ((v.take j).drop i) ((g.take j).drop i):=((r.cut j).2.cut i).1;have hz:((v.take j).drop i).length<=1000000:=bR (by rw[List.length_drop,pK];exact bR (Nat.sub_le ..) (uE ..)) l;exact tail_any (T:="list") (ops:=b) oi.typeIs slot_list_getitem.lookup (wpAny_getItem_list_slice oi A H I .none (fun e=>nomatch e) (by
  rw[hp];exact(fM (n:=0) (t:=s.toks) h rr hz (h.fresh (cc _)) (h.F.push _) (h.N.push h.F _)).elim fun z p=>q z m _ _ p.1 p.2.1 p.2.2) (cA (show g.length<=1000000 from u▸l))) G
theorem zT (h:Ok C k fi x mf ms u m s){lo:Option V}(isS:s.heap.IsSliceOf a ulo uhi .none)(hs:∀o,∃ops,subscripted sl false o (.ref a)=operate ops (getItem o (.ref a)))(ro:VR C u o uo)(rlo:uW C u lo ulo)(rhi:uW C u hi uhi):av (bV ms o lo hi) (cH C k fi x mf u s (subscriptTail value sl uo (.ref a))):=by cases o with
 |bytes b=>
  refine ak (gz 0 rlo) fun i p1=>ak (gz b.length rhi) fun j p3=>ac fun Q E q=>?_;obtain⟨t,e,hl⟩:=ro;obtain⟨plo,p1,p2⟩:=p1;obtain⟨phi,p3,p4⟩:=p3;obtain⟨ops,hs⟩:=hs (.bytes b.toArray t);have hp:KBy.picked b.toArray plo phi=((b.take j).drop i).toArray:=by
   rw[KBc.picked_eq];have e1:=p2 b.length (.inl rfl);have e2:=p4 b.length (.inr rfl);rw[Nat.zero_min]at e1;rw[Nat.min_self]at e2;rw[wH,<- e1,<- e2,BE]
  have hz:((b.take j).drop i).length<=1000000:=bR (by rw[List.length_drop,pK];exact bR (Nat.sub_le ..) (uE ..)) hl;rw[e];exact tail_any (T:="bytes") (ops:=ops) (typeIs_bytes _ _ _) FB.slot_bytes_getitem.lookup (getItem_meets (typeIs_bytes _ _ _) (by decide) FB.slot_bytes_getitem FB.entry_bytes_getitem (FB.args_bytes_getitem_2 _ _) (KBc.meets_slice2 b.toArray t _ p1 p3) ⟨isS,by rw[hp];exact cA hz,fun t' k'=>by
   rw[hp];exact q u m _ _ (.refl _) (h.toks k') (.bytes _ _ hz)⟩) hs
 |loc l=>
  exact cf (Q:=fun uo=>cH C k fi x mf u s (subscriptTail value sl uo (.ref a))) h ro fun l vs a' us n _ _ o=>ak (gz 0 rlo) fun i p1=>ak (gz vs.length rhi) fun j p3=>ac (oV h isS hs o.i o.r o.l p1 p3)
 |xl is=>
  refine ro.elim fun a' z4=>z4.elim fun us z5=>z5.elim fun eu z6=>z6.elim fun ig z7=>z7.elim fun ii hl=>?_
  rw[eu]
  exact ak (gz 0 rlo) fun i p1=>ak (gz is.length rhi) fun j p3=>ac (oV h isS hs (ig.imp fun o e=>⟨h.F.keep _ _ e.1,e.2⟩) ii.vrs (by rw[b0];exact hl) p1 (by rw[b0];exact p3))
 |_=>exact af
theorem u8{M:Option Expr}(h1:ax C k v y ms a (.ok va) z)(h2:A0 C k v y z M A B)(h3:A0 C k v y B hi D G) (e:bV G va A D=some r):ax C k v y ms (.Subscript a (.Slice M hi none p) pos) (.ok r.1) r.2:=bO.ok fun x u m s h Q E q=>by
 refine Subscript_ (h1.go h fun σ' m' s' ua l o1 r1=>wpAny_Slice (h2.go o1 fun σ2 m2 s2 c U o2 r2=>h3.go o2 fun σ3 m3 X d I i r3=>?_));rw[evalPart_none]
 ;have w:=i.put_imm (t:=X.toks) (i.F.push {cls:=.type "slice",data:=.fields #[c,d,.none]}) (i.N.push i.F {cls:=.type "slice",data:=.fields #[c,d,.none]}) (i.fresh (cc _));exact aX (zT w.2 (Heap.IsSliceOf.new X.heap c d .none) (fun o=>⟨_,rfl⟩) (r1.sub ((U.trans I).trans w.1).sub) (r2.le (I.trans w.1).sub) (r3.le w.1.sub) _ e Q E fun L m4 s4 u4 l4=>q L m4 s4 u4 ((((l.trans U).trans I).trans w.1).trans l4))
section
variable {prog:Program} {w:World} {A:Around} {E:Value->Shared->Prop} {s:Shared} {K:Type} [DecidableEq K] {knd:KeyKind prog w K} {k:K} {key v:Value} {d:Addr} {es:List DictEntry} {n:Nat} {Q:Unit->Shared->Prop}
theorem NO (a:knd.is k key=true)(b:s.heap.get? d=some (dictOf es n))(hk:KeysOf knd es.toArray)(hz:es.length<=sizeLine) (c:∀i,es.findIdx? (fun e=>knd.is k e.key)=some i->Q () {s with heap:=s.heap.update d (Obj.mapDict (·.modify i fun e=>{e with val:=v})),toks:=s.toks+1}) (g:es.findIdx? (fun e=>knd.is k e.key)=none->Q () {s with heap:=s.heap.update d (Obj.mapDictKeys (·.push ⟨knd.hash k,key,v⟩)),toks:=s.toks+1}):wpAny (model prog w) A (dictSet d key v) Q E s:=by
 unfold dictSet
 try with_reducible refine iQ ?_;refine aM (knd.pyHash a ?_);unfold dictSetHashed
 try with_reducible refine iQ ?_;refine aM (wpAny_dictFind_of (s:={s with toks:=s.toks+1}) a b rfl hk ?_);rw[List.findIdx?_toArray];cases q:es.findIdx? fun e=>knd.is k e.key with|some i=>exact aM (wpAny_rule (aM (wpAny_updateDict (s:={s with toks:=s.toks+1}) b rfl (wpAny_point (c i q)))))|none=>exact aM (wpAny_rule (wpAny_updateDictKeys (hz:=by simpa using hz) (s:={s with toks:=s.toks+1}) b rfl (g q)))
theorem tC (hT:s.TypeIs (.ref d) "dict")(b:wpAny (model prog w) A.in1 (dictSet d key v) Q (fun _ _=>False) s):wpAny (model prog w) A (setItem (.ref d) key v) Q E s:=by
 unfold setItem
 try with_reducible refine iQ ?_;refine aM (wpAny_sequenceKey hT (by decide) ?_);refine aM (wpAny_callSpecial?_slot (name:=Str.ofString "__setitem__") hT slot_dict_setitem (wpAny_call_entry slot_dict_setitem hT entry_dict_setitem ?_ (args_dict_setitem _ _ _)))
 show wpAny _ _ (Builtin.Dict.notOrdered "__setitem__" ⟨[.ref d,key,v],[]⟩>>=_) _ _ s;refine aM (wpAny_notOrdered_dict hT ?_);show wpAny _ _ (dictSet d key v>>=_) _ _ s;exact aM (e8 b (fun u c hq=>aX ⟨.none,rfl,aX hq⟩) fun _ _ f=>f.elim)
end
section
variable {C:Cx} {σ:Sg} {K:Type} [DecidableEq K] {knd:KeyKind C.prog C.w K}
structure K9 (C:Cx)(σ:Sg){K:Type} [DecidableEq K](knd:KeyKind C.prog C.w K)(x:Option Nat)(fs':List (K×V))(n:Nat)(es:List DictEntry)(e':DictEntry):Prop where
 old:∀i,x=some i->mE C σ knd fs' (es.modify i fun e=>{e with val:=e'.val})/\fs'.length=n
 new:x=none->mE C σ knd fs' (es++[e'])/\fs'.length=n+1
theorem mE.set(h:mE C σ knd c d)(hk:knd.is k a=true)(r:VR C σ v u):K9 C σ knd (d.findIdx? fun e=>knd.is k e.key) (ee k v c) c.length d ⟨knd.hash k,a,u⟩:=by induction h with
 |nil=>exact⟨(fun _ e=>nomatch e),fun _=>⟨.cons hk rfl r .nil,rfl⟩⟩|cons b f l n m=>
  rename_i k' v' e c d;rw[List.findIdx?_cons,knd.is_eq_decide b k,gR];by_cases q:k'=k
  ·rw[dD q.symm,au q];exact⟨fun i e=>e9 e▸ ⟨.cons b f r n,rfl⟩,fun e=>nomatch e⟩
  ·rw[cO fun z=>q z.symm,aH q];refine⟨fun i e=>?_,fun e=>?_⟩
   ·refine(Option.map_eq_some_iff.mp e).elim fun j o=>o.elim fun p e=>?_;have w:=m.old j p;rw[<- e,List.modify_succ_cons];exact⟨.cons b f l w.1,congrArg (· +1) w.2⟩
   ·have w:=m.new (Option.map_eq_none_iff.mp e);exact⟨.cons b f l w.1,congrArg (· +1) w.2⟩
theorem oN(b:List (K×V)):(b.map (·.1)).Nodup->((ee k v b).map (·.1)).Nodup/\∀a,a∈ (ee k v b).map (·.1)->a=k\/a∈b.map (·.1):=by induction b with
 |nil=>exact fun _=>⟨List.nodup_cons.mpr ⟨(fun h=>nomatch h),sE⟩,fun a h=>.inl (List.mem_singleton.mp h)⟩|cons p r f=>
  intro h;rw[gR];by_cases q:p.1=k
  ·rw[au q];exact⟨h,fun a=>.inr⟩
  ·rw[aH q];have h:=List.nodup_cons.mp h;have w:=f h.2;exact⟨List.nodup_cons.mpr ⟨fun c=>(w.2 _ c).elim q h.1,w.1⟩,fun a c=>(zC c).elim (fun e=>.inr (List.mem_cons.mpr (.inl e))) fun c=>(w.2 a c).imp_right (.tail _)⟩
theorem qu (s:List Nat)(v:V)(a:List (List Nat×V)):jq (ee s v a)=ee (aN s) v (jq a):=by induction a with|nil=>rfl|cons p r b=>
  rw[show jq (p::r)=(aN p.1,p.2)::jq r from rfl,gR,gR];by_cases q:p.1=s
  ·rw[au q,au (congrArg aN q)];rfl
  ·rw[aH q,aH fun e=>q (gS e),<- b];rfl
end
theorem rS (h:Ok C k i x j n g m s)(e:g.reps[l]?=some r)(d:r.objs=[(a,o)])(p:b.objs=[(a,q)])(u:b.adr=r.adr)(v:Heap.SameBut a s.heap f)(y:f.get? a=some q)(z:iV C {g with reps:=g.reps.set l b} om b):g.le {g with reps:=g.reps.set l b}/\Ok C k i x j (n.set l om) {g with reps:=g.reps.set l b} m {s with heap:=f,toks:=t}:=by have w:=h.upd_news (h.mem_rep e (show(a,o)∈r.objs by rw[d];exact .head _)) v y;exact h.put_set e (by rw[d,p];exact congrArg (·::[]) (au rfl).symm) (by rw[d];exact .head _) u w.1 w.2 z
theorem nf{C:Cx}{k:Nat}{fi:FI}{x:Fx}{mf:MF}{ms:MS}{z:Sg}{m:Str->Option Value}{s:Shared}{K:Type} [DecidableEq K]{o:KeyKind C.prog C.w K}(h:Ok C k fi x mf ms z m s){A:Around}{E:Value->Shared->Prop}{l:Nat}{a:Addr}{G:List DictEntry}{n:Nat}(N:z.reps[l]?=some (.dict a G n)){f:List (K×V)} (r:mE C z o f G) (hl:f.length<1000000){B:K}{H u:Value}{v:V} (hk:o.is B H=true) (ru:VR C z v u){om:ah}{Q:Unit->Shared->Prop} (hr:∀(g:Sg) (j:Nat) (d:List DictEntry),z.sub g->(j=n/\(ee B v f).length=f.length\/j=n+1/\(ee B v f).length=f.length+1)->mE C g o (ee B v f) d->iV C g om (.dict a d j)) (q:∀I s',z.le I->Ok C k fi x mf (ms.set l om) I m s'->Q () s'):wpAny (model C.prog C.w) A (dictSet a H u) Q E s:=by
 have g1:=h.get_of (h.mem_rep N (.head _));have w:=r.set hk ru;have J:∀j d (P:Heap),(j=n/\(ee B v f).length=f.length\/j=n+1/\(ee B v f).length=f.length+1)->mE C z o (ee B v f) d->Heap.SameBut a s.heap P->P.get? a=some (dictOf d j)->Q () {s with heap:=P,toks:=s.toks+1}:=fun j d P hn hv hs hg=>
  have e0:iM.adr (.dict a d j)=iM.adr (.dict a G n):=rfl;have p:=rS (t:=s.toks+1) (om:=om) h N rfl rfl e0 hs hg (hr _ j d (iz N e0) hn (hv.le (iz N e0)))
  q _ _ p.1 p.2;refine NO hk g1 r.keys (by rw[r.length];exact cA (ju hl)) (fun i M=>J n _ _ (.inl ⟨rfl,(w.old i M).2⟩) (w.old i M).1 (Heap.SameBut.update ..) ?_) fun M=>J (n+1) _ _ (.inr ⟨rfl,(w.new M).2⟩) (w.new M).1 (Heap.SameBut.update ..) ?_
 ·rw[uI _ g1 rfl];show some (⟨_,_,.dict (G.toArray.modify _ _) n,_⟩:Obj)=_;rw[List.modify_toArray]
 ·rw[uI _ g1 rfl];show some (⟨_,_,.dict (G.toArray.push _) (n+1),_⟩:Obj)=_;rw[List.push_toArray]
theorem qc(d:AB C u b t)(hl:b.length<1000000)(o:g.length<=1000000)(l:j=b.length/\(ee (aN g) v (jq b)).length=(jq b).length\/j=b.length+1/\(ee (aN g) v (jq b)).length=(jq b).length+1) (hr:mE C z (strKind C.prog C.w) (ee (aN g) v (jq b)) h):iV C z (.dictS (ee g v b)) (.dict a h j):=by rw[<- qu,b0,b0]at l;rw[<- qu]at hr;have e:j=(ee g v b).length:=l.elim (fun q=>q.1.trans q.2.symm) fun q=>q.1.trans q.2.symm;exact⟨a,h,congrArg _ e,hr,(oN b d.nd).1,bR (iq ..) hl,fun p s=>((oN b d.nd).2 p.1 (e7 s)).elim (fun e=>e▸o) fun q=>(zF q).elim fun w q=>q.2▸d.hk w q.1⟩
theorem qb(d:AA C s b k)(hl:b.length<1000000)(hr:mE C t (bytesKind C.prog C.w) (ee i v b) e):iV C t (.dictB (ee i v b)) (.dict a e j):=⟨a,e,j,rfl,hr,(oN b d.nd).1,bR (iq ..) hl⟩
theorem tP (h:Ok C k q x u v b m s)(g:b.reps[l]?=some (.list a w n)) (y:Heap.SameBut a s.heap i) (z:i.get? a=some (listOf c.toArray j)) (r:VRs C b d c) (hl:d.length<=1000000):∃f,b.le f/\Ok C k q x u (v.set l (.list d)) f m {s with heap:=i,toks:=t}:=
 have p:iM.adr (.list a c j)=iM.adr (.list a w n):=rfl
 ⟨_,rS (om:=.list d) h g rfl rfl p y z ⟨a,c,j,rfl,r.sub (iz g p),hl⟩⟩
theorem VRs.set(h:VRs C s c d)(e:VR C s v u):∀j,VRs C s (c.set j v) (d.set j u):=VRs.ind (P:=fun c d=>∀j,VRs C s (c.set j v) (d.set j u)) (fun j=>.nil) (fun w z c d a r f j=>by
  cases j with|zero=>exact .cons e r|succ j=>exact .cons a (f j)) _ _ h
theorem wr (h:Ok C k D x F A c m s)(ro:VR C c o G)(ri:VR C c i z)(r:VR C c v u):av (fY A o i v) (EF C k D x F c s (setItem G z u)):=by cases o with
 |loc l=>
  show av ((A[l]?).bind fun m=>(DL m i v).bind fun b=>some (A.set l b)) _;refine al fun mo hl=>?_;cases mo with
  |list vs=>
   exact eJ (P:=fun G=>av ((DL (.list vs) i v).bind fun b=>some (A.set l b)) (EF C k D x F c s (setItem G z u))) h hl ro fun a us n o=>ak (b9 (Q:=fun z b=>EF C k D x F c s (setItem (.ref a) z u) (A.set l b)) ri fun j t=>aB fun hb=>ac fun Q E q=>by
    have g:=h.get_of o.m;have lt:j<us.length:=by have:=o.r.length;lia
    refine ki_setAt g hb.1 (JB lt o.short) lt ?_;have hg:(s.heap.update a (Obj.mapSeq (·.setIfInBounds j.toNat u))).get? a=some (listOf (us.set j.toNat u).toArray n):=by rw[uI _ g rfl];show some (⟨_,_,.seq (us.toArray.setIfInBounds _ _) (if(us.toArray.setIfInBounds j.toNat u).size==us.toArray.size then n else n+1),_⟩:Obj)=_;rw[au (by rw[Array.size_setIfInBounds];exact jK _),List.setIfInBounds_toArray]
    exact(tP (t:=s.toks) h o.e (Heap.SameBut.update ..) hg (o.r.set r j.toNat) (by rw[sD];exact o.l)).elim fun f w=>q f m _ _ w.1 w.2 trivial) fun b p=>ac p|dictS y=>
   exact dB (P:=fun G=>av ((DL (.dictS y) i v).bind fun b=>some (A.set l b)) (EF C k D x F c s (setItem G z u))) h hl ro fun a es o=>ak (kj (Q:=fun z b=>EF C k D x F c s (setItem (.ref a) z u) (A.set l b)) ri fun ss t hs=>aB fun hb=>ac fun Q E q=>tC (ji (knd:=strKind C.prog C.w) o.g o.d.h).typeIs (nf (om:=.dictS (ee ss v y)) h o.e o.d.h (by rw[b0];exact hb) (strKind_is ..) r (fun f n' es' l hn hr=>qc o.d hb hs hn hr) fun σ' s' le ok=>q σ' m s' () le ok trivial)) fun b p=>ac p|dictB y=>
   exact gN (P:=fun G=>av ((DL (.dictB y) i v).bind fun b=>some (A.set l b)) (EF C k D x F c s (setItem G z u))) h hl ro fun a es n o=>ak (gA (Q:=fun z b=>EF C k D x F c s (setItem (.ref a) z u) (A.set l b)) ri fun ss t hs=>aB fun hb=>ac fun Q E q=>tC (ji (knd:=bytesKind C.prog C.w) o.g o.d.h).typeIs (nf (om:=.dictB (ee ss v y)) h o.e o.d.h hb (bytesKind_is ..) r (fun f n' es' l hn hr=>qb o.d hb hr) fun σ' s' le ok=>q σ' m s' () le ok trivial)) fun b p=>ac p|_=>exact af
 |_=>exact af
theorem yV:typeLookup (.type "bytes") "__int__" =pure none:=by rw[typeLookup_type,yr];kernel_rfl
theorem yU:typeLookup (.type "bytes") "__index__" =pure none:=by rw[typeLookup_type,yr];kernel_rfl
theorem tf:typeLookup (.type "bytes") "__trunc__" =pure none:=by rw[typeLookup_type,yr];kernel_rfl
theorem vN{E:Value->Shared->Prop}(hn:(int_private% "readNumeral") 0 10 [c.toNat]=(int_private% "Numeral.value") n)(hz:([c.toNat].takeWhile (· !=0))=[c.toNat])(h:Q (.int n s.toks) {s with toks:=s.toks+1}):wpAny M A ((int_private% "intFromObject") (.bytes #[c] u)) Q E s:=by
 have hT:s.TypeIs (.bytes #[c] u) "bytes":=rfl
 k_delta "intFromObject"
 dsimp only;refine aM (wpAny_callSpecial?_none (name:=Str.ofString "__int__") hT yV ?_)
 refine aM (wpAny_specialOf hT yU ?_)
 refine aM (wpAny_specialOf hT tf ?_)
 show wpAny M A ((int_private% "numeralText?") (.bytes #[c] u)>>=_) Q E s
 refine aM (iR (a:=some [c.toNat]) rfl ?_)
 show wpAny M A ((int_private% "intFromText") (.bytes #[c] u) [c.toNat] 10) Q E s
 exact KIN.wp_text (by rw[hz];simp) (by rw[hz];exact hn) (by rw[hz];rfl) h
theorem je(f:(int_private% "readNumeral") 0 10 [c.toNat]=(int_private% "Numeral.value") n)(hz:([c.toNat].takeWhile (· !=0))=[c.toNat]):PySem.Gives (Builtin.«int.__new__» ⟨[.type "int",.bytes #[c] u],[]⟩) (.int n):=.of_wp fun M A E s Q h=>by
  unfold Builtin.«int.__new__»
  dsimp only;refine aM (iR (a:=true) rfl ?_);refine aM (iR (a:=true) F.conv_sub_int ?_);refine aM (iR (a:=()) F.madeHere_int ?_);rw[aH (by simp),aH (by simp)];refine aM (iR (a:=PUnit.unit) rfl ?_);show wpAny M A ((int_private% "intFromObject") (.bytes #[c] u)>>=_) _ E s;refine aM (vN f hz ?_);rw[au (by decide)];exact aX ⟨_,rfl,h⟩
theorem I3:(int_private% "readNumeral") 0 10 [(48:UInt8).toNat]=(int_private% "Numeral.value") 0:=by rfl
theorem I4:(int_private% "readNumeral") 0 10 [(49:UInt8).toNat]=(int_private% "Numeral.value") 1:=by rfl
theorem I5:(int_private% "readNumeral") 0 10 [(55:UInt8).toNat]=(int_private% "Numeral.value") 7:=by rfl
theorem vp{E:Value->Shared->Prop}(hc:c=48/\n=0\/c=49/\n=1\/c=55/\n=7)(h:Q (.int n s.toks) {s with toks:=s.toks+1}):wpAny (model a w) A (call (.type "int") [.bytes #[c] u]) Q E s:=by
 rcases hc with ⟨rfl,rfl⟩|⟨rfl,rfl⟩|⟨rfl,rfl⟩
 ·exact call_int_1 (je I3 (by decide)).meets (show(Made.int 0).post _ s from⟨rfl,h⟩)
 ·exact call_int_1 (je I4 (by decide)).meets (show(Made.int 1).post _ s from⟨rfl,h⟩)
 ·exact call_int_1 (je I5 (by decide)).meets (show(Made.int 7).post _ s from⟨rfl,h⟩)
theorem yX:typeLookup (.type "bytes") "__bytes__" =pure (some (.builtin "bytes.__bytes__")):=by rw[typeLookup_type,yr];kernel_rfl
theorem yW{E:Value->Shared->Prop}(hQ:Q (.bytes b u) s):codeAny (model prog w) A (.call (.builtin "bytes.__new__") ⟨[.type "bytes",.bytes b u],[]⟩) (wants Q E) s:=by
 refine qG ?_;show wpAny _ A.in1 (do checkBuiltinCall "bytes.__new__" ⟨[.type "bytes",.bytes b u],[]⟩;again (.builtin "bytes.__new__" ⟨[.type "bytes",.bytes b u],[]⟩)) _ _ s;refine aM (iR (F.bm_newCall _) (aX ⟨plainId_quiet F.bm_plain _,codeAny_builtin F.bm_entry ?_⟩));rw[Around.under_plainId F.bm_plain _];have hT:s.TypeIs (.bytes b u) "bytes":=rfl;unfold Builtin.«bytes.__new__»;refine aM (iR (a:=true) rfl ?_);refine bm_if_false rfl ?_;refine aM (iR F.bm_sub ?_);refine bm_if_false rfl ?_;refine aM (iR (F.bm_bind _) ?_);refine aM (iR (a:=()) rfl ?_);refine aM (iR (a:=()) rfl ?_);refine bm_if_false rfl ?_;refine aM (wpAny_specialOf hT yX ?_);refine aM (wpAny_rule ?_);refine aM (wpAny_typeOf hT ?_);refine bm_if_true (by decide) ?_
 k_delta "made"
 refine bm_if_true (by decide) ?_
 exact aX hQ
theorem lA{E:Value->Shared->Prop}(hQ:Q (.bytes b u) s):wpAny (model h w) A (call (.type "bytes") [.bytes b u]) Q E s:=by have n:(fun(e:Value) (a:Shared)=>a.TypeIs e "bytes"/\Q e a) (.bytes b u) s:=⟨rfl,hQ⟩;refine callType_codes (Q₁:=fun e a=>a.TypeIs e "bytes"/\Q e a) F.bm_called (F.bm_typeCall _) F.entry_object_init (yW n) fun e a f=>?_;exact⟨f.1,F.args_object_init_2 e _,object_init_meets F.bm_called.init.lookup F.bm_called.made (by decide) h w A.in1 _ a ⟨f.1,rfl,f.2⟩⟩
abbrev xC (a b:List Nat):Prop:=¬ b<a
theorem qi(g:xC a b)(h:xC b c):xC a c:=List.le_trans (l₁:=a) (l₂:=b) (l₃:=c) g h
theorem zu (a b:List Nat):xC a b\/xC b a:=List.le_total a b
theorem kJ(c:xC a b)(d:xC b a):a=b:=List.le_antisymm (as:=a) (bs:=b) c d
theorem zO (l:List Str):∀p:Str,risingS p l=true->(p::l).Pairwise fun a b=>xC a.cps.toList b.cps.toList:=by induction l with|nil=>exact fun p _=>List.pairwise_singleton _ _|cons x r f=>
  intro p h;have c:=zB (show(!ltCps x.cps.toList p.cps.toList&&risingS x r)=true from h);have g:xC p.cps.toList x.cps.toList:=sy (ltCps_eq x.cps.toList p.cps.toList▸ (pd _).mp c.1);exact List.pairwise_cons.mpr ⟨fun y d=>(zC d).elim (fun e=>e▸g) fun d=>qi g (List.rel_of_pairwise_cons (f x c.2) d),f x c.2⟩
theorem zW (l:List Str)(h:sortedS l=true):l.Pairwise fun a b=>xC a.cps.toList b.cps.toList:=by cases l with|nil=>exact .nil|cons x r=>exact zO r x h
theorem ix (l:List (List Nat)):(bk l).Perm l:=List.mergeSort_perm ..
theorem gP:(!decide (b<a))=true ↔ xC a b:=by rw[pd,decide_eq_false_iff_not]
theorem oX (l:List (List Nat)):(bk l).Pairwise xC:=(List.pairwise_mergeSort (le:=fun a b:List Nat=>!decide (b<a)) (fun a b c f g=>gP.mpr (qi (gP.mp f) (gP.mp g))) (fun a b=>(Bool.or_eq_true _ _).mpr ((zu a b).imp gP.mpr gP.mpr)) l).imp gP.mp
theorem qv(f:d.Perm (l.map aN))(g:sortedS d=true):d=(bk l).map aN:=List.Perm.eq_of_pairwise (le:=fun a b=>xC a.cps.toList b.cps.toList) (fun a b _ _ h i=>congrArg aN (kJ h i)) (zW _ g) (List.pairwise_map.mpr (oX l)) (f.trans ((ix l).map aN).symm)
theorem CC(h:(PySem.strKind a w).is k v=true):∃t,v= .str k t:=by cases v with|str y t=>exact⟨t,congrArg (Value.str · t) (bh h)⟩|_=>exact Bool.noConfusion (show false=true from h)
theorem VRs.strs(r:VRs C s g i):av (jk g) fun d=>StrsAre i (d.map aN)/\∀p∈d,p.length<=1000000:=VRs.ind (P:=fun g i=>av (jk g) fun d=>StrsAre i (d.map aN)/\∀p∈d,p.length<=1000000) (ac ⟨.nil,fun _ h=>nomatch h⟩) (fun v u g i a r k=>show av ((mn v).bind fun b=>(jk g).bind fun d=>some (b::d)) _ from kj (Q:=fun u d=>StrsAre (u::i) (d.map aN)/\∀p∈d,p.length<=1000000) a fun b t hb=>ak k fun d q=>ac ⟨.cons _ t q.1,fun p l=>(zC l).elim (fun e=>e▸hb) (q.2 p)⟩) _ _ r
theorem VRs.of_strs (a:List (List Nat)):∀{b:List Value},StrsAre b (a.map aN)->(∀p∈a,p.length<=1000000)->VRs C s (a.map .str) b:=by induction a with|nil=>intro b h _;cases h;exact .nil|cons p a i=>
  intro b h hl;cases h with|cons y t j=>exact .cons (.str _ _ (hl p (.head _))) (i j fun q hq=>hl q (.tail _ hq))
theorem sf(c:List (Str×Value)):∀b:List Value,b.length=c.length->(∀(j:Nat) v,b[j]?=some v->∃e f,c[j]?=some (e,f)/\(PySem.strKind g w).is e v=true)->StrsAre b (c.map (·.1)):=by induction c with|nil=>intro b h _;rw[Ak h];exact .nil|cons p c i=>
  intro b h hP;cases b with
  |nil=>exact nomatch h|cons v b=>
   obtain⟨e,f,k,l⟩:=hP 0 v rfl;rw[show p=_ from e9 k];obtain⟨t,m⟩:=CC l;rw[m];exact .cons e t (i b (Nat.succ.inj h) fun j v n=>hP (j+1) v n)
structure uU (C:Cx)(h:Heap)(kvs:List (List Nat×V))(a:Addr)(pr:List (Str×Value)):Prop where
 d:h.DictAt (PySem.strKind C.prog C.w) a pr kvs.length
 k:pr.map (·.1)=(kvs.map (·.1)).map aN
 l:pr.length=kvs.length
theorem jx.at(o:jx C u h l i a r):∃m,uU C h i a m:=by
 obtain⟨m,s,t⟩:=o.d.h.pairs;have n:m.map (·.1)=(i.map (·.1)).map aN:=by rw[t,fQ,fQ];rfl
 have p:=congrArg List.length n;rw[b0,b0,b0]at p;exact⟨m,⟨_,r.toArray,o.g,⟨rfl,rfl,rfl⟩,rfl,o.d.h.keys,s,by rw[n];exact List.pairwise_map.mpr (o.d.nd.imp fun h e=>h (gS e))⟩,n,p⟩
theorem uU.strs(o:uU C h c a pr)(hl:vs.length=pr.length)(hP:∀(j:Nat) v,vs[j]?=some v->∃d f,pr[j]?=some (d,f)/\(PySem.strKind C.prog C.w).is d v=true):StrsAre vs ((c.map (·.1)).map aN):=o.k▸sf _ _ hl hP
theorem mj{out:Array Value}(d:h.get? a=some (seqObj "list" c.toArray n)):(∃e,(sortedHeap h a c out).get? a=some (seqObj "list" out e))/\(∀b o,b≠a->h.get? b=some o->(sortedHeap h a c out).get? b=some o):=by
 unfold sortedHeap;constructor
 ·have f:(h.update a (Obj.mapSeq fun _=>#[])).get? a=some (seqObj "list" #[] _):=get?_update_seq d fun _=>#[];exact⟨_,get?_update_seq (gY (seqObj "list" #[] 0) (gY (seqObj "tuple" c.toArray 0) f)) fun _=>out⟩
 ·intro b o hb e;rw[km _ _ (ci hb)];exact gY _ (gY _ ((km _ _ (ci hb)).trans e))
theorem Ok.new (h:Ok C k d x f g u m s)(F:Fr C.G x.L a m)(N:News C.G x.L a u.news):Ok C k d x f g u m {s with heap:=a,toks:=t}:=h.step ⟨fun _ _ e=>e,fun _ e=>e⟩ rfl rfl F N h.nd h.len h.reps
theorem Ok.above (h:Ok C k f x g i t m s)(c:∀q∈t.news,q.1<a):a ∉ t.keys:=fun q=>(zF q).elim fun p e=>o8 _ (e.2▸c p e.1)
theorem Fm(r:VR C s t a):av (Js t) fun k=>a=Aj C k:=by cases t with|ty t=>exact ac r|cls c=>exact ac r|_=>exact af
def pP (C:Cx)(h:Heap)(u:Value)(k:Kd):Prop:=∃P,KitX C.K u (Aj C k) P/\P h/\u≠ .builtin "__main__.__loader__#opaque"
theorem CK (H:KB C)(h:Ok C k z x A p w m s)(hl:p[l]?=some e)(r:VR C w (.loc l) u):av (xB e) fun k=>Et.contains k.code=true->pP C s.heap u k:=by cases e with|list B=>exact ac fun _=>eJ (P:=fun u=>pP C s.heap u (.ty .list)) h hl r fun a D n o=>⟨_,kitx_list,⟨_,h.get_of o.m,rfl⟩,fun q=>nomatch q⟩|dictS b=>exact ac fun _=>dB (P:=fun u=>pP C s.heap u (.ty .dict)) h hl r fun a j o=>⟨_,kitx_dict,⟨_,o.g,rfl⟩,fun q=>nomatch q⟩|dictB b=>exact ac fun _=>gN (P:=fun u=>pP C s.heap u (.ty .dict)) h hl r fun a j n o=>⟨_,kitx_dict,⟨_,o.g,rfl⟩,fun q=>nomatch q⟩|inst c F=>exact ac fun hc=>og (P:=fun u=>pP C s.heap u (.cls c)) h hl r fun a G j n o=>⟨_,kitx_own (H.own c hc).g (H.own c hc).d (H.own c hc).a (H.own c hc).n (H.own c hc).t (H.own c hc).m,o.i,fun q=>nomatch q⟩|cell v=>exact af
theorem CL (H:KB C)(h:Ok C k c x d b w m s)(r:VR C w a u):av (H3 b a) fun k=>Et.contains k.code=true->pP C s.heap u k:=by cases a with|none=>exact ac fun _=>(show u=_ from r)▸ ⟨_,kitx_none,trivial,fun q=>nomatch q⟩|bool v=>exact ac fun _=>(show u=_ from r)▸ ⟨_,kitx_bool,trivial,fun q=>nomatch q⟩|int i=>exact ac fun _=>r.elim fun t e=>e▸ ⟨_,kitx_int,trivial,fun q=>nomatch q⟩|loc l=>exact al fun f hl=>CK H h hl r|_=>exact af
theorem zo (H:KB C)(h:Ok C k j x l f w m s)(n:VR C w a o)(r:VR C w t u):av (CE f a t) fun b=>cH C k j x l w s (call (.builtin "isinstance") [o,u]) (.bool b,f):=ak (CL H h n) fun k p=>ak (Fm r) fun t v=>aB fun g=>ac fun Q E q=>v▸ (p g.1).elim fun P z=>kia_one z.1 (H.X.keeps h.F.keep) z.2.1 (H.kit k t g.1 g.2) z.2.2 fun y=>q w m _ _ (.refl _) (h.toks y) (.bool _)
theorem LW(h:n<=1000000):n<=1099511627776:=bR h (by decide)
theorem ES (h:Ok C k g x j d z m s)(p:VR C z a u):av (Lh d a) fun v=>cH C k g x j z s (call (.builtin "len") [u]) (v,d):=by cases a with
 |bytes b=>exact ac fun Q E q=>p.elim fun t e=>e.1▸len_bytes (LW e.2) (q z m _ _ (.refl _) (h.toks _) (.int _ _))|loc l=>exact cf (Q:=fun u v=>cH C k g x j z s (call (.builtin "len") [u]) (v,d)) h p fun _ w a y n _ _ o=>ac fun Q E q=>len_list o.i (Ce o.short) (by
   rw[o.r.length]at q;exact q z m _ _ (.refl _) (h.toks _) (.int _ _))|_=>exact af
theorem oz (l:List (List Nat)):((bk l).map V.str).length=l.length:=by rw[b0,(ix l).length_eq]
abbrev ON (C:Cx)(k:Nat)(c:FI)(x:Fx)(d:MF)(a:MS)(t:Sg)(s:Shared)(u:Value)(l:List (List Nat)):Prop:=cH C k c x d t s (call (.builtin "sorted") [u]) (.loc a.length,a++[.list ((bk l).map .str)])
theorem sa (h:Ok C k z x A B u m s)(o:j1 C u s.heap l v a X n)(e:v.length<64):av (jk v) (ON C k z x A B u s (.ref a)):=(o.r.strs).mono fun g q Q E p=>sorted_N_str h.F h.N o.i q.1 (o.r.length▸e) fun Y G H Z I J K L M=>
  have P:=qv L M;have R:g.length<=1000000:=by rw[<- b0 (f:=aN),<- q.1.length];exact o.short
  (fM (t:=s.toks) h (VRs.of_strs (bk g) (P▸K) fun p U=>q.2 p ((ix g).mem_iff.mp U)) (by rw[oz];exact R) (h.fresh (eO _)) I J).elim fun d w=>p d m _ _ w.1 w.2.1 w.2.2
theorem r9 (H:KB C)(h:Ok C k fi x mf ms u m s)(o:jx C u s.heap l kvs a es)(h64:kvs.length<64):ON C k fi x mf ms u s (.ref a) (kvs.map (·.1)):=fun Q E q=>by
 obtain⟨pr,p⟩:=o.at;refine kdu_sorted (kdl_dict (knd:=PySem.strKind C.prog C.w) (kP H h o.m)) h.room.hn h.F h.N p.d (p.l▸cA o.d.hl) fun D h' tk vs F' N' hlt hlen hP=>?_;have gD:=(N' (D,listOf vs.toArray 0) (.head _));have hS:=p.strs hlen hP;refine wpAny_call_entry slot_list_sort ⟨_,gD.1,rfl⟩ entry_list_sort (list_sort_treeK strKind_oneLt gD.1 hS.keysOf (fun v₁ v₂ rest e=>keyKind_strs (by rw[<- e];exact hS)) (by rw[hlen,p.l];exact h64) fun st' a1 a2=>⟨_,rfl,?_⟩) (args_list_sort _);obtain⟨ss',s1,s2,s3⟩:=sorted_out_str hS a1 a2;obtain⟨⟨ep,f1⟩,f2⟩:=mj (out:=(arrOf st').map (·.2)) gD.1;have rr:VRs C u ((bk (kvs.map (·.1))).map .str) ((arrOf st').map (·.2)).toList:=VRs.of_strs _ (qv s2 s3▸s1) fun p hp=>(zF ((ix _).mem_iff.mp hp)).elim fun q hq=>hq.2▸o.d.hk q hq.1;have frD:=h.above hlt;have F2:Fr C.G x.L (sortedHeap h' D vs ((arrOf st').map (·.2))) m:=F'.ns.elim fun ob z=>z.elim fun es' z=>z.elim fun ep' z=>⟨⟨ob,es',ep',f2 _ _ (ci gD.2.1) z.1,z.2⟩,fun b o e=>f2 b o (fun q=>nomatch (q▸e).symm.trans gD.2.2) (F'.keep b o e),F'.above⟩;have N2:News C.G x.L (sortedHeap h' D vs ((arrOf st').map (·.2))) ((D,listOf ((arrOf st').map (·.2)).toList.toArray ep)::u.news):=fun p hp=>(zC hp).elim (fun e=>e▸ ⟨f1,gD.2⟩) fun hp=>⟨f2 _ _ (fun q=>frD ((show p.1=D from q)▸e7 hp)) (N' p (.tail _ hp)).1,(N' p (.tail _ hp)).2⟩;exact(fM (t:=tk) h rr (by rw[oz,b0];exact o.d.hl) frD F2 N2).elim fun g w=>q g m _ _ w.1 w.2.1 w.2.2
theorem Br (H:KB C)(h:Ok C k e x f c z m s)(r:VR C z a u):av (HK c a) (cH C k e x f z s (call (.builtin "sorted") [u])):=by cases a with
 |loc l=>
  refine al fun t i=>e9 i▸al fun j hl=>?_;cases j with
  |list p=>exact eJ (P:=fun u=>av ((CJ (.list p)).bind fun d=>some (V.loc c.length,c++[ah.list ((bk d).map .str)])) (cH C k e x f z s (call (.builtin "sorted") [u]))) h hl r fun a v n o=>ak (aB fun b=>sa h o b) fun d q=>ac q|dictS g=>exact dB (P:=fun u=>av ((CJ (.dictS g)).bind fun d=>some (V.loc c.length,c++[ah.list ((bk d).map .str)])) (cH C k e x f z s (call (.builtin "sorted") [u]))) h hl r fun a w o=>ak (aB fun b=>ac (r9 H h o b)) fun d q=>ac q|_=>exact af
 |_=>exact af
theorem Ed(r:VRs C s c g){R:List Value->V->Prop}(k:∀i t j e,R [.int i t,.int j e] (.int (f i j))):av (Kr c f) (R g):=wA (R:=R) r fun a b u w h hb=>iB (Q:=fun u w=>R [u,w]) h hb fun i t j e=>ac (k i t j e)
theorem JE (i j:Int):min i j=if j<i then j else i:=by split<;>lia
theorem JC (i j:Int):max i j=if j>i then j else i:=by split<;>lia
theorem IJ (i:Int):(i.natAbs:Int)=if i<0 then -i else i:=by split<;>lia
theorem Bg (H:KB C)(h:Ok C k e x f y l m s)(r:VRs C l n d):av (iH y b n) (cH C k e x f l s (call (.builtin b.name) d)):=by cases b with|len=>exact d9 (R:=fun d=>cH C k e x f l s (call (.builtin "len") d)) r fun a u g=>ak (ES h g) fun v p=>ac p|min=>exact ak (Ed (R:=fun d v=>cH C k e x f l s (call (.builtin "min") d) (v,y)) r fun i t j D Q E q=>min_two_N h.room.hn h.F h.N fun h' z A B=>q l m _ _ (.refl _) (h.new A B) (JE i j▸ .int _ _)) fun v p=>ac p|max=>exact ak (Ed (R:=fun d v=>cH C k e x f l s (call (.builtin "max") d) (v,y)) r fun i t j D Q E q=>max_two_N h.room.hn h.F h.N fun h' z A B=>q l m _ _ (.refl _) (h.new A B) (JC i j▸ .int _ _)) fun v p=>ac p|abs=>exact d9 (R:=fun d=>cH C k e x f l s (call (.builtin "abs") d)) r fun a u g=>b9 (Q:=fun u=>cH C k e x f l s (call (.builtin "abs") [u])) g fun i t=>ac fun Q E q=>call_abs_int fun u z=>q l m _ _ (.refl _) (h.toks z) (IJ i▸ .int _ _)|chr=>exact d9 (R:=fun d=>cH C k e x f l s (call (.builtin "chr") d)) r fun a u g=>b9 (Q:=fun u=>cH C k e x f l s (call (.builtin "chr") [u])) g fun i t=>aB fun hb=>ac fun Q E q=>chr_of_range hb.1 (pa (mY hb.2) (by decide)) (q l m _ _ (.refl _) (h.toks _) (.str [i.toNat] _ (show 1<=1000000 by decide)))|isinstance=>exact wA (R:=fun d=>cH C k e x f l s (call (.builtin "isinstance") d)) r fun a t u w g rb=>ak (zo H h g rb) fun c p=>ac p|sorted=>exact d9 (R:=fun d=>cH C k e x f l s (call (.builtin "sorted") d)) r fun a u g=>Br H h g
structure qJ (us:List Value)(b:List UInt8)(ns:List Int):Prop where
 i:IntsAre us ns
 r:∀n∈ns,0<=n/\n<256
 e:byteArr ns=b.toArray
 l:ns.length=b.length
theorem VRs.ints(r:VRs C s f g):av (fW f) fun b=>∃c,qJ g b c:=VRs.ind (P:=fun f g=>av (fW f) fun b=>∃c,qJ g b c) (ac ⟨[],.nil,(fun _ h=>nomatch h),rfl,rfl⟩) (fun v u f g a r j=>show av ((bl v).bind fun i=>if 0<=i/\i<256 then(fW f).bind fun r=>some (UInt8.ofNat i.toNat::r)else none) _ from b9 (Q:=fun u b=>∃c,qJ (u::g) b c) a fun i t=>aB fun hb=>ak j fun b q=>ac (q.elim fun c q=>⟨i::c,.cons i t q.i,fun n k=>(zC k).elim (fun e=>e▸hb) (q.r n),congrArg (fun l:Array UInt8=>(UInt8.ofNat i.toNat::l.toList).toArray) q.e,congrArg (· +1) q.l⟩)) _ _ r
theorem rU(hc:0<c):Builtin.Range.rangeSize a b c=(e6 a b c:Nat):=by
 unfold Builtin.Range.rangeSize e6;rw[au hc]
 split
 ·rw[Int.toNat_of_nonneg (Int.ediv_nonneg (a:=b-a+c-1) (b:=c) (by lia) (by exact mY (by assumption)))];rw[<- Int.add_mul_ediv_right (b-a-1) 1 (c:=c) (by lia),show b-a-1+1*c=b-a+c-1 by lia]
 ·rfl
theorem wi{P:List s->t->Prop}(k:∀a,av (f a) (P [a])):av ((ip l).bind f) (P l):=by cases l with|nil=>exact af|cons a r=>cases r with|nil=>exact k a|cons _ _=>exact af
theorem Ok.fresh_G (h:Ok C k c x d f t m s){a:Addr}(q:s.heap.objs.size<=a):C.G.get? a=none:=by cases e:C.G.get? a with|none=>rfl|some o=>exact absurd (jL (h.F.keep _ _ e)) (Nat.not_lt.mpr q)
theorem Ok.fresh_L (h:Ok C k b x c d t m s){a:Addr}(q:s.heap.objs.size<=a):a≠x.L:=fun e=>Nat.not_lt.mpr q (e▸h.F.ns.lt)
theorem Ok.put_range (h:Ok C k y x z A w m s)(n:Nat):∃g,w.le g/\Ok C k y x z A g m {s with heap:=s.heap.push {cls:=.type "range",data:=.fields #[.int a t,.int b u,.int c v]},toks:=n}/\VR C g (.rng a b c) (.ref s.heap.objs.size):=
 have p:=h.put_imm (t:=n) (h.F.push {cls:=.type "range",data:=.fields #[.int a t,.int b u,.int c v]}) (h.N.push h.F {cls:=.type "range",data:=.fields #[.int a t,.int b u,.int c v]}) (h.fresh (cc _))
 ⟨_,p.1,p.2,t,u,v,_,rfl,.inr (.head _)⟩
theorem oh (h:Ok C k D x G y g m s)(hk:∀b o,s.heap.get? b=some o->l.get? b=some o)(r:VRs C g z H)(hl:z.length<=1000000) (I:l.get? s.heap.objs.size=some (listOf H.toArray n)){Q:Value->Shared->Prop} (q:∀i J A a,g.le i->Ok C k D x G (y++[.list z]) i J A->VR C i (.loc y.length) a->Q a A):Q (.ref s.heap.objs.size) {s with heap:=l}:=
 have u:=h.grow s.toks hk
 (fM (t:=s.toks) (s:={s with heap:=l}) u r hl (h.fresh (cc _)) u.F (fun p M=>(zC M).elim (fun e=>e▸ ⟨I,h.fresh_L (cc _),h.fresh_G (cc _)⟩) (u.N p))).elim fun d w=>q d m _ _ w.1 w.2.1 w.2.2
theorem Gk (h:Ok C k o x p r w m s)(g:VR C w a u):av (MV a) fun v=>cH C k o x p w s (call (.type "int") [u]) (v,r):=by cases a with
 |int i=>exact ac fun Q E q=>g.elim fun t e=>e▸call_int_int (q w m _ _ (.refl _) h (.int _ _))|bool b=>exact ac fun Q E q=>(show u=_ from g)▸call_int_bool (q w m _ _ (.refl _) (h.toks _) (by cases b<;>exact .int _ _))|bytes b=>
  exact g.elim fun t e=>e.1▸wi (P:=fun b v=>cH C k o x p w s (call (.type "int") [.bytes b.toArray t]) (v,r)) fun c=>aB fun hc=>ac fun Q E q=>vp (n:=(c.toNat:Int)-48) (hc.imp (fun e=>⟨e,by rw[e];rfl⟩) fun hc=>hc.imp (fun e=>⟨e,by rw[e];rfl⟩) fun e=>⟨e,by rw[e];rfl⟩) (q w m _ _ (.refl _) (h.toks _) (.int _ _))|_=>exact af
theorem Ag (h:Ok C k f x g d w m s)(j:VR C w a u):av (D1 d a) fun v=>cH C k f x g w s (call (.type "bytes") [u]) (v,d):=by cases a with|bytes b=>exact ac fun Q E q=>j.elim fun t e=>e.1▸lA (q w m _ _ (.refl _) h (.bytes _ _ e.2))|loc l=>exact cf (Q:=fun u v=>cH C k f x g w s (call (.type "bytes") [u]) (v,d)) h j fun _ z a A n _ _ o=>ak o.r.ints fun b q=>ac fun Q E p=>q.elim fun B q=>call_bytes_ints o.i q.i q.r (cA (q.i.length▸o.short)) h.room.hn fun D t y hk=>q.e▸p w m _ _ (.refl _) (h.grow y hk) (.bytes _ _ (q.l▸q.i.length▸o.short))|_=>exact af
theorem wz (H:KB C)(h:Ok C k y x z r g m s)(o:jx C g s.heap l b a M):cH C k y x z g s (call (.type "list") [.ref a]) (.loc r.length,r++[.list (b.map fun p=>.str p.1)]):=fun Q E q=>o.at.elim fun P p=>kdl_N (kdl_dict (knd:=PySem.strKind C.prog C.w) (kP H h o.m)) h.room.hn h.F h.N p.d (p.l▸cA o.d.hl) fun D c h' G I J K j f hP=>by
  have u:VRs C g ((b.map (·.1)).map .str) I:=VRs.of_strs _ (p.strs f hP) fun p L=>(zF L).elim fun q hq=>hq.2▸o.d.hk q hq.1;rw[fQ]at u;exact(fM (t:=G) h u (by rw[b0];exact o.d.hl) (h.above j) J K).elim fun n w=>q n m _ _ w.1 w.2.1 w.2.2
theorem D4 (H:KB C)(h:Ok C k c x e b j m s)(f:VR C j a u):av (Iu b a) (cH C k c x e j s (call (.type "list") [u])):=by cases a with
 |tup w=>exact f.elim fun y t=>ac fun Q E q=>t.1.at h (P:=fun u=>wpAny _ _ (call (.type "list") [u]) Q E s) fun a i=>i.elim fun o i=>i.2.2.elim fun n d=>call_list_seq a (T:="tuple") (.inr rfl) i.1 i.2.1 d (fun z A hk g=>oh h hk t.2 (t.2.length▸t.1.1) g q) (cA t.1.1)|loc l=>
  refine al fun B hl=>?_;cases B with
  |list w=>exact eJ (P:=fun u=>av (some (V.loc b.length,b++[ah.list w])) (cH C k c x e j s (call (.type "list") [u]))) h hl f fun a y n o=>ac fun Q E q=>o.i.elim fun F i=>i.2.2.elim fun n d=>call_list_seq a (T:="list") (.inl rfl) i.1 i.2.1 d (fun z A hk g=>oh h hk o.r o.l g q) (cA o.short)|dictS v=>exact dB (P:=fun u=>av (some (V.loc b.length,b++[ah.list (v.map fun p=>.str p.1)])) (cH C k c x e j s (call (.type "list") [u]))) h hl f fun a G o=>ac (wz H h o)|_=>exact af
 |_=>exact af
theorem zM (h:Ok C k d x e f l m s)(n:VRs C l r g):av ((Ee r).bind fun q=>(bl q.1).bind fun b=>(bl q.2).bind fun c=>if 0<c/\c<1000000 then some (V.rng a b c)else none) fun v=>cH C k d x e l s (call (.type "range") (.int a t::g)) (v,f):=wA (R:=fun g v=>cH C k d x e l s (call (.type "range") (.int a t::g)) (v,f)) n fun b c u w hb hc=>iB (Q:=fun u w v=>cH C k d x e l s (call (.type "range") [.int a t,u,w]) (v,f)) hb hc fun i z j p=>aB fun y=>ac fun Q E q=>(h.put_range s.toks).elim fun G w=>call_range_3 (Int.ne_of_gt y.1) (q G m _ _ w.1 w.2.1 w.2.2) (Or.inl (PyProof.noPylong_small (by omega)))
theorem Ai (h:Ok C k g x j l z m s)(r:VRs C z c o):av (Ea c) fun v=>cH C k g x j z s (call (.type "range") o) (v,l):=by cases c with
 |nil=>exact af|cons a p=>
  obtain⟨u,f,e,y,n⟩:=r;rw[e];refine b9 (Q:=fun u v=>cH C k g x j z s (call (.type "range") (u::f)) (v,l)) y fun i t=>?_;cases p with|nil=>rw[show f=[]from n];exact ac fun Q E q=>call_range_1 ((h.put_range _).elim fun d w=>q d m _ _ w.1 w.2.1 w.2.2)|cons b r=>exact zM h n
theorem D3 (H:KB C)(h:Ok C k e x f A w m s)(r:VRs C w g c):av (fZ A b g) (cH C k e x f w s (call (.type b.name) c)):=by cases b with
 |int=>exact d9 (R:=fun c=>cH C k e x f w s (call (.type "int") c)) r fun a u d=>ak (Gk h d) fun v p=>ac p|bytes=>exact d9 (R:=fun c=>cH C k e x f w s (call (.type "bytes") c)) r fun a u d=>ak (Ag h d) fun v p=>ac p|list=>exact d9 (R:=fun c=>cH C k e x f w s (call (.type "list") c)) r fun a u d=>D4 H h d
 |tuple=>exact d9 (R:=fun c=>cH C k e x f w s (call (.type "tuple") c)) r fun a u d=>cf (Q:=fun u=>cH C k e x f w s (call (.type "tuple") [u])) h d fun _ vs a c n _ _ o=>ac fun Q E q=>call_tuple_list o.i (fun h' hk=>by
    have j:=h.grow s.toks hk;have p:=j.put_imm (t:=s.toks) (j.F.push {cls:=.type "tuple",data:=.seq c.toArray}) (j.N.push j.F {cls:=.type "tuple",data:=.seq c.toArray}) (j.fresh (cc _));exact q _ m _ _ p.1 p.2 (.tup (.inr (.head _)) (o.r.sub p.1.sub) o.l)) (cA o.short)|range=>exact ak (Ai h r) fun v p=>ac p|_=>exact af
section
open PySem PySem.W PySem.Calls PyProof.Rows PySem.Spec PySem.Builtin
noncomputable def bv:Str:=Str.ofString "ascii"
theorem LN (t u:Tok):«str.encode» ⟨[.str ⟨#[65]⟩ t,.str bv u],[]⟩=(mkBytes #[65]>>=fun v=>ret v):=by kernel_rfl
theorem LO (t u:Tok):«str.encode» ⟨[.str ⟨#[66]⟩ t,.str bv u],[]⟩=(mkBytes #[66]>>=fun v=>ret v):=by kernel_rfl
theorem LP (t u:Tok):«str.encode» ⟨[.str ⟨#[67]⟩ t,.str bv u],[]⟩=(mkBytes #[67]>>=fun v=>ret v):=by kernel_rfl
noncomputable def kB (c:UInt8)(t:Tok):Sem PySem.Fin:=mkStr (Str.ofString "utf-8")>>=fun _=>mkStr bv>>=fun e=>mkStr (Str.ofString "bytes.decode")>>=fun d=>call (.builtin "_codecs.decode.text") [.bytes #[c] t,e,.none,d]>>=fun v=>ret v
theorem LH (t u:Tok):«bytes.decode» ⟨[.bytes #[65] t,.str bv u],[]⟩=kB 65 t:=by kernel_rfl
theorem LI (t u:Tok):«bytes.decode» ⟨[.bytes #[66] t,.str bv u],[]⟩=kB 66 t:=by kernel_rfl
theorem LJ (t u:Tok):«bytes.decode» ⟨[.bytes #[67] t,.str bv u],[]⟩=kB 67 t:=by kernel_rfl
theorem JS{id:String}:_codecs.decodeRoad id #[65] bv none []=mkStr ⟨#[65]⟩:=by kernel_rfl
theorem JT{id:String}:_codecs.decodeRoad id #[66] bv none []=mkStr ⟨#[66]⟩:=by kernel_rfl
theorem JU{id:String}:_codecs.decodeRoad id #[67] bv none []=mkStr ⟨#[67]⟩:=by kernel_rfl
theorem qX (a b:Value):argsOk "bytes.decode" ⟨[a,b],[]⟩:=by unfold argsOk;rw[signature?_of (id:="bytes.decode") (n:=['e','d','o','c','e','d']) (o:=['s','e','t','y','b']) (by kernel_rfl) FB.owner_bytes];kernel_rfl
theorem wc(hr:∀id,_codecs.decodeRoad id #[c] bv none []=mkStr y):Meets («_codecs.decode.text» ⟨[.bytes #[c] t,.str bv t1,.none,.str d t2],[]⟩) (fun _ R s=>y.length<=sizeLine/\R (.ok (.ret (.str y s.toks))) {s with toks:=s.toks+1}):=by refine .of_wp fun prog w A R s hS=>?_;show wpAny _ _ (Bytes.bytesLike _ (.bytes #[c] t)>>=fun r=>_) _ _ s;refine aM (iR KBd.like_eq (aM (iR KBd.held_eq ?_)));show wpAny _ _ (_codecs.decodeRoad _ #[c] bv none []>>=fun v=>_) _ _ s;rw[hr];exact aM (wpAny_mkStr (aX ⟨_,rfl,hS.2⟩) hS.1)
theorem zw(hd:«bytes.decode» ⟨[.bytes #[c] t,.str bv u],[]⟩=kB c t)(hr:∀id,_codecs.decodeRoad id #[c] bv none []=mkStr y):Meets («bytes.decode» ⟨[.bytes #[c] t,.str bv u],[]⟩) (fun _ R s=>y.length<=sizeLine/\∀d k,R (.ok (.ret (.str y d))) {s with toks:=k}):=by refine .of_wp fun b w A R s hS=>?_;rw[hd];exact aM (wpAny_mkStr (aM (wpAny_mkStr (aM (wpAny_mkStr (aM (call_function_meets KBd.kind_text KBd.plain_text KBd.entry_text (KBd.args_text _ _ _ _) (wc hr) ⟨hS.1,aX ⟨_,rfl,hS.2 _ _⟩⟩)) (by decide))) (by decide))) (by decide))
theorem lB{E:Value->Shared->Prop}(hd:«bytes.decode» ⟨[.bytes #[c] t,.str bv u],[]⟩=kB c t)(hr:∀id,_codecs.decodeRoad id #[c] bv none []=mkStr y)(d:y.length<=sizeLine)(h:∀e k,Q (.str y e) {s with toks:=k}):wpAny (model b w) A (call (.builtin "bytes.decode") [.bytes #[c] t,.str bv u]) Q E s:=call_meets FB.slot_bytes_decode (typeIs_bytes _ _ _) FB.entry_bytes_decode (qX _ _) (zw hd hr) ⟨d,h⟩
theorem Bx{E:Value->Shared->Prop}(hc:c=65\/c=66\/c=67)(h:∀b k,Q (.str ⟨#[c.toNat]⟩ b) {s with toks:=k}):wpAny (model a w) A (call (.builtin "bytes.decode") [.bytes #[c] t,.str bv u]) Q E s:=by
 rcases hc with rfl|rfl|rfl
 ·exact lB (LH t u) (fun _=>JS) (by decide) h
 ·exact lB (LI t u) (fun _=>JT) (by decide) h
 ·exact lB (LJ t u) (fun _=>JU) (by decide) h
theorem lC{E:Value->Shared->Prop}(hb:b.size<=sizeLine)(he:«str.encode» ⟨[.str x t,.str bv u],[]⟩=(mkBytes b>>=fun v=>ret v))(h:∀d k,Q (.bytes b d) {s with toks:=k}):wpAny (model a w) A (call (.builtin "str.encode") [.str x t,.str bv u]) Q E s:=call_meets (S:=fun _ R s=>∀d k,R (.ok (.ret (.bytes b d))) {s with toks:=k}) F.slot_str_encode (typeIs_str _ _ _) F.entry_str_encode (F.args_str_encode_2 _ _) (.of_wp fun a w A R s hS=>he▸aM (wpAny_mkBytes (aX ⟨_,rfl,hS _ _⟩) hb)) h
theorem By{E:Value->Shared->Prop}(hc:c=65\/c=66\/c=67)(h:∀d k,Q (.bytes #[UInt8.ofNat c] d) {s with toks:=k}):wpAny (model a w) A (call (.builtin "str.encode") [.str ⟨#[c]⟩ t,.str bv u]) Q E s:=by
 rcases hc with rfl|rfl|rfl
 ·exact lC (b:=#[65]) (by decide) (LN t u) h
 ·exact lC (b:=#[66]) (by decide) (LO t u) h
 ·exact lC (b:=#[67]) (by decide) (LP t u) h
noncomputable def KM (o:V)(f:Nat):String:=o.on (bif f==oA then "str.join" else "str.encode") (fun _=>"") (fun _=>"bytes.decode") (fun _=>"") fun _=>bif f==jj then "list.append" else "list.pop"
theorem Cj (l:List (List Nat)):∀d:List Nat,(l.map aN).foldl (fun(a:Array Nat) (p:Str)=>a++(aN []).cps++p.cps) d.toArray=(d++l.flatten).toArray:=by induction l with|nil=>exact fun d=>by rw[List.flatten_nil,cF];rfl|cons p l j=>
  intro d;rw[iE,List.foldl_cons,List.flatten_cons,<- dU,<- j (d++p)];exact congrArg (fun a=>List.foldl _ a _) (by rw[List.append_toArray,List.append_toArray,cF])
theorem CH (l:List (List Nat)):Txt.join (aN []) (l.map aN)=aN l.flatten:=by cases l with|nil=>rfl|cons p l=>exact congrArg Str.mk (Cj l p)
noncomputable def CZ (C:Cx)(o:V)(u:Value)(f:Nat)(t:MT):Value×List Value:=(t.casesOn (fun c j=>.ref (C.fa c j)) (.builtin (KM o f)),[u])
abbrev HC (C:Cx)(x:Fx)(s:Shared)(o:V)(n:Str)(b:Sem Bool)(u:Value)(t:MT):Prop:=∀(Q:Value×List Value->Shared->Prop) (E:Value->Shared->Prop),Q (CZ C o u (aL n) t) s->wpAny (model C.prog C.w) x.A (getMethod u n b) Q E s
theorem kK(g:aO n=true)(a:aO (Str.ofString f)=true)(hc:c=aL (Str.ofString f))(h:aL n=c):n=Str.ofString f:=fV g a (h.trans hc)
theorem CT (H:KB C)(h:Ok C k I x J z b m s)(g:aO n=true)(hl:z[l]?=some v)(r:VR C b (.loc l) u):av (H7 (aL n) v) (HC C x s (.loc l) n w u):=by cases v with
 |list K=>
  exact aB fun hf=>ac fun Q E q=>eJ (P:=fun u=>Q (CZ C (.loc l) u (aL n) .bi) s->wpAny _ _ (getMethod u n w) Q E s) h hl r (fun a L A o q=>hf.elim (fun hf=>by
    rw[hf]at q;rw[kK (f:="append") g (by decide+kernel) (by decide+kernel) hf];exact kl_method h.N o.m PySem.F.slot_list_append PySem.F.type_list_append q) (fun hf=>by
    rw[hf]at q;rw[kK (f:="pop") g (by decide+kernel) (by decide+kernel) hf];exact kl_method h.N o.m PySem.F.slot_list_pop PySem.F.type_list_pop q)) q|inst c fs=>
  exact al fun j B=>aB fun D=>ac fun Q E q=>og (P:=fun u=>Q (CZ C (.loc l) u (aL n) (.own c j)) s->wpAny _ _ (getMethod u n w) Q E s) h hl r (fun a dx es A o q=>
   have d:=H.meth c j n g B
   (o.f.getL g).elim fun p e=>method_inst h.F H.X o.i d.g d.f d.t (by rw[e.1];have y:=e.2;rw[D]at y;exact congrArg some y) q) q|_=>exact af
theorem ow{C:Cx}{k:Nat}{fi:FI}{x:Fx}{mf:MF}{ms:MS}{w:Sg}{m:Str->Option Value}{s:Shared}(H:KB C)(h:Ok C k fi x mf ms w m s){o:V}{n:Str}{u:Value}{pl:Sem Bool}(g:aO n=true)(r:VR C w o u):av (c9 ms o (aL n)) (HC C x s o n pl u):=by
 cases o with
 |loc l=>exact al fun mo hl=>CT H h g hl r
 |str y=>
  exact aB fun hf=>ac fun Q E q=>r.elim fun t e=>by
   rw[e.1]at q ⊢
   rcases hf with hf|hf
   ·rw[hf]at q
    rw[kK (f:="join") g (by decide+kernel) (by decide+kernel) hf]
    exact GM.join q
   ·rw[hf]at q
    rw[kK (f:="encode") g (by decide+kernel) (by decide+kernel) hf]
    exact GM.of (.str _ t) (typeIs_str _ _ _) F.slot_str_encode F.type_str_encode (fun a e=>nomatch e) q
 |bytes y=>
  exact aB fun hf=>ac fun Q E q=>r.elim fun t e=>by
   rw[e.1]at q ⊢
   rw[kK (f:="decode") g (by decide+kernel) (by decide+kernel) hf]
   exact KBd.method q
 |_=>exact af
theorem nN (h:Ok C k d x f n j m s)(p:VR C j (.loc l) c)(r:VRs C j b g):av (qY n l b) (cH C k d x f j s (call (.builtin "list.append") (c::g))):=d9 (R:=fun g=>cH C k d x f j s (call (.builtin "list.append") (c::g))) r fun v u z=>nl (Q:=fun c=>cH C k d x f j s (call (.builtin "list.append") [c,u])) h p fun J a A B hl o=>aB fun hz=>ac fun Q E q=>wpAny_list_append_plain ⟨B,h.get_of o.m⟩ (fun D F G=>F.elim fun H I=>
   have i:D.get? a=some (listOf (A++[u]).toArray H):=I.trans (by rw[List.push_toArray])
   (tP (t:=s.toks) h o.e G i (o.r.append (.cons z .nil)) (by rw[aK];exact hz)).elim fun y w=>q y m _ _ w.1 w.2 .none) (cA o.short)
theorem rA{v:V}(e:d.getLast?=some v):d=d.dropLast++[v]:=by cases d with|nil=>exact nomatch e|cons a r=>rw[List.getLast?_eq_some_getLast (uF _ _)]at e;exact e9 e▸ (List.dropLast_concat_getLast (uF _ _)).symm
theorem VRs.snoc(b:List V):∀{d:List Value},VRs C s (b++[v]) d->∃c u,d=c++[u]/\VRs C s b c/\VR C s v u:=by induction b with|nil=>exact fun h=>h.elim fun u h=>h.elim fun r h=>⟨[],u,by rw[h.1,show r=[]from h.2.2];rfl,.nil,h.2.1⟩|cons a b e=>exact fun h=>h.elim fun u h=>h.elim fun r h=>(e h.2.2).elim fun c q=>q.elim fun f q=>⟨u::c,f,by rw[h.1,q.1];rfl,.cons h.2.1 q.2.1,q.2.2⟩
theorem EU (h:Ok C k A x B J z m s)(K:VR C z (.loc l) n)(r:VRs C z g D):av (Li J l g) (cH C k A x B z s (call (.builtin "list.pop") (n::D))):=by cases g with|cons _ _=>exact af|nil=>
  rw[show D=[]from r];refine nl (Q:=fun n=>cH C k A x B z s (call (.builtin "list.pop") [n])) h K fun M a w i hl o=>al fun v hv=>ac fun Q E q=>?_;have G:=o.r;rw[rA hv]at G;refine G.snoc.elim fun f z1=>z1.elim fun u z2=>z2.elim fun ew z3=>z3.elim fun rd rl=>?_;have y:kl_last w.toArray.toList=some (f,u):=by rw[ew];exact kpa_last u f
  refine kl_pop h.F h.N y (wF (d:=a) (o:=listOf w.toArray i) (o':=listOf f.toArray (i+1)) _ h.nd o.m) (cA o.short) fun h' F' N'=>?_;have H:iM.adr (.list a f (i+1))=iM.adr (.list a w i):=rfl;have p:=h.put_set (t:=s.toks) (r':=.list a f (i+1)) (om:=.list M.dropLast) o.e (congrArg (·::[]) (au rfl).symm) (d:=a) (.head _) H F' N' ⟨_,_,_,rfl,rd.sub (iz o.e H),by rw[List.length_dropLast];exact bR (Nat.sub_le ..) o.l⟩;exact q _ m _ _ p.1 p.2 (rl.sub p.1.sub)
theorem Ge (d:List (List Nat)):((d.map aN).map (·.length)).sum=d.flatten.length:=by rw[List.length_flatten,fQ];rfl
theorem Bn (h:Ok C k c x d j g m s)(r:VRs C g b e):av (HJ j y b) (cH C k c x d g s (call (.builtin "str.join") (.str (aN y) t::e))):=d9 (R:=fun e=>cH C k c x d g s (call (.builtin "str.join") (.str (aN y) t::e))) r fun a u l=>by
  cases y with|cons _ _=>exact af|nil=>
   exact cf (Q:=fun u=>cH C k c x d g s (call (.builtin "str.join") [.str (aN []) t,u])) h l fun _ w a n z _ _ o=>ak o.r.strs fun A p=>aB fun hz=>ac fun Q E q=>join_list (items:=n.toArray) o.i p.1 (by rw[Ge,show(aN []).length=0 from rfl,Nat.mul_zero];exact cA hz) fun B v=>by
     rw[CH];exact q g m _ _ (.refl _) (h.toks v) (.str _ _ hz)
theorem Bd:aN ta=bv:=by decide+kernel
theorem EQ (h:Ok C k d x e f n m s)(r:VRs C n b g):av (IM y b) fun v=>cH C k d x e n s (call (.builtin "str.encode") (.str (aN y) t::g)) (v,f):=d9 (R:=fun g v=>cH C k d x e n s (call (.builtin "str.encode") (.str (aN y) t::g)) (v,f)) r fun a u o=>kj (Q:=fun u v=>cH C k d x e n s (call (.builtin "str.encode") [.str (aN y) t,u]) (v,f)) o fun z p _=>wi (P:=fun y v=>cH C k d x e n s (call (.builtin "str.encode") [.str (aN y) t,.str (aN z) p]) (v,f)) fun c=>aB fun hc=>ac fun Q E q=>by
   rw[hc.1,Bd];exact By hc.2 fun i w=>q n m _ _ (.refl _) (h.toks w) (.bytes [UInt8.ofNat c] i (show 1<=1000000 by decide))
theorem EO (h:Ok C k d x e f n m s)(r:VRs C n b g):av (Lg y b) fun v=>cH C k d x e n s (call (.builtin "bytes.decode") (.bytes y.toArray t::g)) (v,f):=d9 (R:=fun g v=>cH C k d x e n s (call (.builtin "bytes.decode") (.bytes y.toArray t::g)) (v,f)) r fun a u o=>kj (Q:=fun u v=>cH C k d x e n s (call (.builtin "bytes.decode") [.bytes y.toArray t,u]) (v,f)) o fun z p _=>wi (P:=fun y v=>cH C k d x e n s (call (.builtin "bytes.decode") [.bytes y.toArray t,.str (aN z) p]) (v,f)) fun c=>aB fun hc=>ac fun Q E q=>by
   rw[hc.1,Bd];exact Bx hc.2 fun j w=>q n m _ _ (.refl _) (h.toks w) (.str [c.toNat] j (show 1<=1000000 by decide))
theorem Bp (h:Ok C k c x d g u m s)(b:VR C u o i)(r:VRs C u a j):av (iZ g o f a) (cH C k c x d u s (call (.builtin (KM o f)) (i::j))):=by cases o with
 |loc l=>
  refine oW (fun e=>?_) fun e=>?_
  ·rw[show KM (.loc l) f="list.append" by show cond (f==jj) _ _=_;rw[e];rfl];exact nN h b r
  ·rw[show KM (.loc l) f="list.pop" by show cond (f==jj) _ _=_;rw[e];rfl];exact EU h b r|str y=>
  obtain⟨t,e,-⟩:=b;rw[e];refine oW (fun e=>?_) fun e=>?_
  ·rw[show KM (.str y) f="str.join" by show cond (f==oA) _ _=_;rw[e];rfl];exact Bn h r
  ·rw[show KM (.str y) f="str.encode" by show cond (f==oA) _ _=_;rw[e];rfl];exact ak (EQ h r) fun v p=>ac p|bytes y=>
  obtain⟨t,e,-⟩:=b;rw[e];exact ak (EO h r) fun v p=>ac p|_=>exact af
end
noncomputable def nQ (a:List (Str×NameKind)):List Str:=(a.filter fun q=>q.2== .cell).map (·.1)
noncomputable abbrev jy (a:Scope):List Str:=nQ a.names
theorem Kg(h:dC c d f b=some g):bj (HE c d f 60) b g:=(Option.map_eq_some_iff.mp h).elim fun q e=>e.2▸q.2
structure Hz (C:Cx)(i j:Nat)(fn:Fn)(f:FuncData):Prop where
 ob:∃sl,C.K.lookup (C.fa i j)=some ⟨.type "function",Option.none,.func f,sl⟩
 bd:∀s us,(∀b o,C.G.get? b=some o->s.heap.get? b=some o)->us.length<= (dL i j).length->(dL i j).length<=us.length+fn.dfl.length->
   ∃ds,VRs C Sg.none (fn.dfl.drop (us.length+fn.dfl.length-(dL i j).length)) ds/\BindsTo s f ⟨us,[]⟩ ((dL i j).zip (us++ds))
structure ph (C:Cx)(i j:Nat)(fn:Fn):Prop where
 df:∃dV kV doc pm an ct,Hz C i j fn (fnOf (eY i j) (dN i j) (eK i j) (am i j) (ae i j) dV kV doc pm an (C.cdv i j) ct)
 cd:codeIn C.K (C.cdv i j) (dN i j)=true
 pr:fn.params=(dL i j).map aL
 ce:fn.cells=(jy (ae i j)).map aL
 lc:∀y∈dL i j,(ae i j).names.lookup y=some .local\/(ae i j).names.lookup y=some .cell
 ndp:(dL i j).Nodup
 gn:∀q∈ (ae i j).names,aO q.1=true
 ndn:((ae i j).names.map (·.1)).Nodup
 kd:(ae i j).kind= .function
 co:(ae i j).isCoroutine=false
 ge:(ae i j).isGenerator=false
 tr:∃la,dC aZ la (ae i j) (am i j)=some fn.body/\cG C la (C.fi i j)
section
variable {α β:Type} [BEq α] [LawfulBEq α] {y:α} {b:β}
theorem aw{l:List (α×β)}(h:l.lookup y=some b):(y,b)∈l:=by obtain⟨c,d,e,-⟩:=List.lookup_eq_some_iff.mp h;rw[e];exact iD _ (.head _)
theorem cg (l:List (α×β)):(l.map (·.1)).Nodup->(y,b)∈l->l.lookup y=some b:=by induction l with
 |nil=>exact fun _ h=>nomatch h|cons p r d=>
  intro a h;have a:=List.nodup_cons.mp a;rw[gZ];rcases zC h with e|h
  ·rw[<- e,jK]
  ·rw[jt fun e:y=p.1=>a.1 (List.mem_map.mpr ⟨_,h,e⟩)];exact d a.2 h
theorem jW{p:α->Bool}(l:List (α×β)):(l.filter fun q=>p q.1).lookup y=some v->l.lookup y=some v/\p y=true:=by induction l with|nil=>exact fun h=>nomatch h|cons q r c=>
  rw[qE];cases e:p q.1 with
  |true=>
   rw[au rfl,gZ,gZ];cases z:y==q.1 with
   |true=>exact fun h=>⟨h,bh z▸e⟩|false=>exact c
  |false=>
   rw[aH sB];refine fun h=>⟨?_,(c h).2⟩;rw[gZ,jt fun z:y=q.1=>sB (e.symm.trans (z▸ (c h).2))];exact(c h).1
end
theorem nS (q:Str×NameKind)(r:List (Str×NameKind)):nQ (q::r)=if(q.2== .cell)=true then q.1::nQ r else nQ r:=by
 show List.map _ (List.filter _ (q::r))=_;rw[qE]
 split<;>rfl
theorem vr(l:List (Str×NameKind)):∀n b,y ∉ nQ l->(cellsFrom n l b).lookup y=b.lookup y:=by induction l with
 |nil=>exact fun _ _ _=>rfl|cons q r c=>
  intro n b;rw[nS,cellsFrom]
  split
  ·exact fun h=>(c _ _ fun z=>h (.tail _ z)).trans (by rw[gZ,jt fun e:y=q.1=>h (e▸ .head _)])
  ·exact c _ _
theorem ti(l:List (Str×NameKind)):∀n c i,(nQ l).Nodup->(nQ l)[i]?=some y->(cellsFrom n l c).lookup y=some (n+i):=by induction l with|nil=>exact fun _ _ _ _ h=>nomatch h|cons q r e=>
  intro n c i;rw[nS,cellsFrom]
  split
  ·intro d h;have d:=List.nodup_cons.mp d;cases i with
   |zero=>rw[<- (show q.1=y from e9 h),vr r _ _ d.1,gZ,jK,Nat.add_zero]|succ i=>rw[e _ _ i d.2 h,pf,k8 1]
  ·exact e _ _ i
theorem pM{l:List Nat}(h:(l.zipIdx n).lookup y=some p):∃i,l[i]?=some y/\p=n+i:=by have q:=List.mk_mem_zipIdx_iff_le_and_getElem?_sub.mp (aw h);exact⟨p-n,q.2,(Nat.add_sub_of_le q.1).symm⟩
theorem f7(d:(c.names.map (·.1)).Nodup):y∈jy c ↔ c.names.lookup y=some .cell:=by refine List.mem_map.trans ⟨fun⟨q,hq,e⟩=>?_,fun h=>⟨_,List.mem_filter.mpr ⟨aw h,rfl⟩,rfl⟩⟩;have:=List.mem_filter.mp hq;rw[<- e,<- (show q.2= .cell from bh this.2)];exact cg _ d this.1
theorem iI(d:(e.names.map (·.1)).Nodup):(jy e).Nodup:=d.sublist (List.filter_sublist.map _)
theorem w0{f:List (Str×Value)->(Str->Option Value)->Str->Option Value}(e:∀m,f [] m=m)(g:∀n v r m,∃a,f ((n,v)::r) m=f r a/\a y=if y=n then some v else m y)(b:List (Str×Value)):∀m,(b.map (·.1)).Nodup->f b m y=(b.lookup y).or (m y):=by induction b with
 |nil=>exact fun m _=>by rw[e];rfl|cons p r i=>
  intro m d;have d:=List.nodup_cons.mp d;obtain⟨a,j,k⟩:=g p.1 p.2 r m;rw[j,i a d.2,gZ,k];by_cases q:y=p.1
  ·rw[au q,q,jK,fL r d.1];rfl
  ·rw[aH q,jt q]
theorem Bk{a:Str->Option NameKind}(hk:a y=some .local):∀(b:List (Str×Value)) (m:Str->Option Value),(b.map (·.1)).Nodup->bindL a b m y=(b.lookup y).or (m y):=w0 (fun _=>rfl) fun n v r m=>⟨_,rfl,by
  by_cases q:y=n
  ·rw[au (q▸hk)]
  ·rw[aH q];split
   ·exact aH q
   ·rfl⟩
theorem Bj{kindOf:Str->Option NameKind}(hk:kindOf y≠some .local):∀(b:List (Str×Value)) (m:Str->Option Value),(b.map (·.1)).Nodup->bindC kindOf b m y=(b.lookup y).or (m y):=w0 (fun _=>rfl) fun n v r m=>⟨_,rfl,by
  by_cases q:y=n
  ·rw[aH (q▸hk)]
  ·rw[aH q];split
   ·rfl
   ·exact aH q⟩
theorem vC{s:Type}(j:aO y=true)(l:List Str):∀d:List s,(∀n∈l,aO n=true)->((l.map aL).zip d).lookup (aL y)=(l.zip d).lookup y:=by induction l with
 |nil=>exact fun _ _=>rfl|cons n l k=>
  intro d h;cases d with
  |nil=>rfl|cons v d=>
   rw[iE,uC,uC,gZ,gZ,k d fun q hq=>h q (.tail _ hq),<- rn (h n (.head _)) j,BEq.comm (a:=n)]
theorem iN.deeper(h:iN (k+1) A):iN k (A.deeper b):=⟨by have:=h.dep;show A.depth+1+4*k<960;lia,by have:=h.uni;show A.units+3+32*k<9600;lia,h.hn⟩
theorem rM(hC:eQ C (k+1) A w t s)(j:t.le b)(a:Ok C k D x G h b m y):eQ C (k+1) A h b y/\A.frames=some (b.frs.map (·.1)):=by
 have g:A.frames=some (b.frs.map (·.1)):=by
  rw[hC.st];have l:=congrArg (List.map fun(q:Env×Addr×Data)=>q.1) j.frs;rw[fQ,fQ]at l;exact congrArg some l
 exact⟨⟨a.F.keep,bR a.F.above (ju a.F.ns.lt),fun p o=>⟨(a.N p o).1,(a.N p o).2.2⟩,a.nd,g,a.fok,hC.room,a.gens,a.os,a.len,a.reps,a.tabs⟩,g⟩
theorem F7{R:Result->Shared->Prop}(hC:eQ C (k+1) A N g s0)(B:g.le d)(hx:x.A=A.deeper (x.env fi))(D:Ok C k fi x mf ms d m s)(hb:dZ C k fi mf ms t o mf' y) (n:∀v,bF o= .ok v->∀c h u,g.le c->eQ C (k+1) A y c h->VR C c v u->R (.ok (.ret u)) h) (hE:∀z,bF o= .error z->∀c h e,g.le c->eQ C (k+1) A y c h->(∀L,pN C c c.keys L z e h false)->R (.error (.ref e)) h):wpAny (model C.prog C.w) (A.deeper (x.env fi)) (execs t (x.env fi)) (fun f h=>R (.ok (.ret (match f with| .ret v=>v|_=>.none))) h) (fun e h=>wpAny (model C.prog C.w) (A.deeper (x.env fi)) (leaving (x.env fi) e) (fun _ i=>R (.error e) i) (fun e' i=>R (.error e') i) h) s:=by
 rw[<- hx];refine hb.thru B D (fun b e c m' h a l G r=>?_) fun z e c m' h a l M=>?_
 ·have p:=(rM hC l G).1;have n:=fun v q u=>n v q c h u l p;rw[e]at n;cases b with
  |ret v=>obtain⟨u,e1,r1⟩:=r;rw[e1];exact n _ rfl _ r1|next=>rw[show a=_ from r];exact n _ rfl _ .none|brk=>rw[show a=_ from r];exact n _ rfl _ .none|cont=>rw[show a=_ from r];exact n _ rfl _ .none
 ·have q:=rM hC l M.ok;exact ot M hx q.2 hC.room fun H i I p J=>hE z (by rw[e];rfl) H i a (l.trans I) p J
theorem eQ.enter{x:Fx}{fi:FI}(hC:eQ C Q A G z s)(y:x.L=s.heap.objs.size)(hk:∀b o,s.heap.get? b=some o->f.get? b=some o)(H:f.Ns x.L m) (I:x.A.frames=some ((if fi.cp then []else [x.env fi])++z.frs.map (·.1))) (t:fi.cp=false->x.fr=some x.L) (K:fi.scope.kind= .function) (M:iN k x.A) (h:∀n v,aO n=true->mf.vars.lookup (aL n)=some v->∃u,m n=some u/\VR C z v u) (d:∀n l,aO n=true->mf.cells.lookup (aL n)=some l->∃a,x.cl.lookup n=some a/\z.adr l=some a):Ok C k fi x mf G z m {s with heap:=f,toks:=tk}:=⟨⟨H,fun b o g=>hk b o (hC.keep b o g),y▸hC.sz⟩,fun p w=>⟨hk _ _ (hC.news p w).1,y▸eo (jL (hC.news p w).1),(hC.news p w).2⟩,hC.nd,I,t,K,hC.fok,M,hC.gens,hC.os,h,d,hC.len,hC.reps,hC.tabs⟩
theorem zz (s:Sg)(r:iM):(Sg.news {s with reps:=s.reps++[r]}).Perm (r.objs++s.news):=by
 have j:(s.reps++[r]).flatMap iM.objs=s.reps.flatMap iM.objs++r.objs:=by rw[List.flatMap_append,List.flatMap_singleton]
 unfold Sg.news Sg.rest;rw[j,dU];exact(uH _ (Hu ..)).trans (Hu ..)
theorem zL(l:List (Option V)):∀{Q:MS} {g:Sg} (n:Addr),Ok C k fi x mf Q g m s->(∀a∈g.keys,a<n)->x.L<n->C.G.objs.size<=n->(∀q v,l[q]?=some v->∃o,s.heap.get? (n+q)=some o/\Av C g v o)->∃d,g.le d/\Ok C k fi x mf (Q++l.map .cell) d m s/\∀q,q<l.length->d.adr (Q.length+q)=some (n+q):=by induction l with|nil=>exact fun {Q g} n h _ _ _ _=>⟨g,.refl _,by rw[o9,cF];exact h,fun q hq=>absurd hq (Nat.not_lt_zero _)⟩|cons v l ih=>
  intro Q g n h hk hL hG hc;refine(hc 0 v rfl).elim fun o z1=>z1.elim fun g0 r0=>?_;have fr:n ∉ g.keys:=fun q=>o8 _ (hk _ q);have p:=h.put_rep (t:=s.toks) (r:=.cell n o) (o:=.cell v) h.F (fun p hp=>(zC hp).elim (fun e=>e▸ ⟨g0,fP hL,Heap.get?_none_of_le hG⟩) (h.N p)) (jF (C:=C) fr o) (gQ _ _) ⟨n,o,rfl,r0⟩;obtain⟨d,Z,ok,ad⟩:=ih (n+1) p.2.1 (fun a ha=>(zF ha).elim fun w hw=>(zC ((zz g (.cell n o)).mem_iff.mp hw.1)).elim (fun e=>by rw[<- hw.2,e];exact uM _) fun z=>hw.2▸qC (hk _ (e7 z))) (qC hL) (qD hG) fun q w e=>(hc (q+1) w e).imp fun o z=>⟨by rw[pf,k8 1];exact z.1,z.2.imp fun u z=>⟨z.1,fun x e=>(z.2 x e).imp fun y z=>⟨z.1,z.2.sub p.1.sub⟩⟩⟩;refine⟨d,p.1.trans Z,by rw[dU]at ok;exact ok,fun q hq=>?_⟩;cases q with|zero=>exact Z.adr _ _ p.2.2|succ q=>
   have z:=ad q (Nat.lt_of_succ_lt_succ hq);rw[aK,Am,pf,pf,k8 1]at z;exact z
theorem Ok.withCells(h:Ok C k i x j o t m s){cs:List (Nat×Nat)}(hc:∀n l,aO n=true->cs.lookup (aL n)=some l->∃a,x.cl.lookup n=some a/\t.adr l=some a):Ok C k i x ⟨j.vars,cs⟩ o t m s:=⟨h.F,h.N,h.nd,h.st,h.hfr,h.kd,h.fok,h.room,h.gens,h.os,h.vars,hc,h.len,h.reps,h.tabs⟩
structure uT (C:Cx)(i j:Nat)(fn:Fn)(args:List V)(σ:Sg)(ws:List Value):Prop where
 r:VRs C σ (fn.vals args) ws
 k:((dL i j).zip ws).map (·.1)=dL i j
theorem ph.gp (f:ph C i j b):∀n∈dL i j,aO n=true:=fun n a=>(f.lc n a).elim (fun e=>f.gn _ (aw e)) fun e=>f.gn _ (aw e)
theorem ph.par (f:ph C i j h)(a:uT C i j h c s l)(g:aO n=true)(e:(h.params.zip (h.vals c)).lookup (aL n)=some v):∃u,((dL i j).zip l).lookup n=some u/\VR C s v u:=by rw[f.pr,vC g _ _ f.gp]at e;exact a.r.zip_lookup _ e
theorem ph.cell (f:ph C i j h)(e:h.cells[q]?=some c):∃n,aO n=true/\aL n=c/\(ae i j).names.lookup n=some .cell/\∀a,(cellsFrom a (ae i j).names []).lookup n=some (a+q):=by rw[f.ce,uD]at e;obtain⟨n,d,k⟩:=Option.map_eq_some_iff.mp e;have g:=(f7 f.ndn).mp (uz d);exact⟨n,f.gn _ (aw g),k,g,fun a=>ti _ _ _ _ (iI f.ndn) d⟩
theorem BR (f:ph C i j J)(hC:eQ C (k+1) A ms h s)(a:uT C i j J t h ws){x:Fx}(hL:x.L=s.heap.objs.size)(K:x.cl=cellsFrom (s.heap.objs.size+1) (ae i j).names [])(hfr:x.fr=some x.L)(hx:x.A=A.deeper (x.env (C.fi i j))) (hk:∀b o,s.heap.get? b=some o->B.get? b=some o) (ns:B.Ns x.L (bindL (fun y=>(ae i j).names.lookup y) ((dL i j).zip ws) fun _=>none)) (hc:∀n l,x.cl.lookup n=some l->∃o,B.get? l=some o/\o.data= .cell (bindC (fun y=>(ae i j).names.lookup y) ((dL i j).zip ws) (fun _=>none) n)):∃d m,h.le d/\Ok C k (C.fi i j) x (J.mf t ms.length) (ms++J.news t) d m {s with heap:=B,toks:=tk}:=by
 have nd:=a.k▸f.ndp;have hold:∀b∈h.keys,b<s.heap.objs.size+1:=fun b hb=>(zF hb).elim fun p hp=>hp.2▸qC (jL (hC.news p hp.1).1);have ok0:Ok C k (C.fi i j) x ⟨(J.mf t ms.length).vars,[]⟩ ms h _ {s with heap:=B,toks:=tk}:=hC.enter hL hk ns (by rw[hx];show Option.map _ A.frames=_;rw[hC.st];rfl) (fun _=>hfr) f.kd (hx▸hC.room.deeper) (fun n v g e=>by
   refine(jW (p:=fun a=>!J.cells.contains a) _ e).elim fun e1 e2=>?_;obtain⟨u,e3,e4⟩:=f.par a g e1;refine⟨u,?_,e4⟩;have hm:n∈dL i j:=a.k▸e7 (f:=Prod.fst) (aw e3);rcases f.lc n hm with z|z
   ·exact(Bk z _ _ nd).trans (by rw[e3];rfl)
   ·have:aL n∈J.cells:=by rw[f.ce];exact e7 ((f7 f.ndn).mpr z)
    rw[List.contains_iff_mem.mpr this]at e2;exact nomatch e2) fun n l g e=>nomatch e;obtain⟨d,le,ok,ad⟩:=zL (J.cells.map fun c=>(J.params.zip (J.vals t)).lookup c) (s.heap.objs.size+1) ok0 hold (hL▸uM _) (qD hC.sz) fun q v e=>by
  rw[uD]at e;obtain⟨c,e1,e2⟩:=Option.map_eq_some_iff.mp e;refine(f.cell e1).elim fun n z3=>z3.elim fun g z4=>z4.elim fun ec z5=>z5.elim fun hm lk=>?_;obtain⟨o,g1,g2⟩:=hc n _ (K▸lk _);refine⟨o,g1,_,g2.trans (congrArg Data.cell ((Bj (kindOf:=fun y=>(ae i j).names.lookup y) (by show(ae i j).names.lookup n≠_;rw[hm];exact fun e=>nomatch e) _ _ nd).trans Option.or_none)),fun w ew=>?_⟩;rw[<- e2,<- ec]at ew;exact f.par a g ew
 rw[fQ]at ok;refine⟨d,_,le,ok.withCells fun n l g e=>?_⟩;obtain⟨q,q1,q2⟩:=pM e;obtain⟨n',g',ec,hm,lk⟩:=f.cell q1;rw[fV g' g ec]at lk;exact⟨_,K▸lk _,q2▸ad q (by rw[b0];exact(List.getElem?_eq_some_iff.mp q1).1)⟩
theorem Ji (H:KB C)(f:ph C i j v)(hf:v.fits a=true)(hb:dZ C k (C.fi i j) (v.mf a ms.length) (ms++v.news a) (am i j) o mf' w):yz C (k+1) i j a ms (bF o) w:=by
 intro A u s us hC hu R hR hE;obtain⟨dV,kV,doc,pm,an,ct,⟨sl,ho⟩,g⟩:=f.df;have hX:=H.X.keeps hC.keep;have d:=hu.length;have hf:=zB hf;have h1:=eP hf.1;have h2:=eP hf.2;rw[f.pr,b0]at h1 h2;obtain⟨ds,h,hbd⟩:=g s us hC.keep (d▸h1) (d▸h2);rw[<- d]at h;have ha:uT C i j v a u (us++ds):=⟨by
  unfold Fn.vals;rw[f.pr,b0];exact hu.append (h.sub (Sg.none_sub u)),uN _ _ (by rw[aK,<- d,<- h.length,List.length_drop];lia)⟩;refine codeAny_call_function (cN (dn ..) (pg hC.room.dep (by decide))) (hX _ _ ho) rfl f.co f.ge rfl (codeRec_of hX f.cd) (hbd _ _ _ _ (wpAny_newFunctionEnv_cells f.kd (fun y hy=>?_) fun env he s' t=>?_))
 ·have hy':y.1∈dL i j:=ha.k▸e7 (f:=Prod.fst) hy;refine(f.lc _ hy').imp id fun e=>⟨e,?_⟩;obtain⟨q,hq⟩:=List.getElem?_of_mem ((f7 f.ndn).mpr e);exact Option.isSome_iff_exists.mpr ⟨_,ti _ _ _ _ (iI f.ndn) hq⟩
 subst he;obtain⟨h₁,tk,e,-⟩:=t.done;subst e;refine⟨(H.T.nolimit.keeps hC.keep).keeps t.toInCall.keep,codeAny_func ?_⟩;obtain⟨z,m,le,ok⟩:=BR (x:=⟨A.deeper (newEnv (ae i j) s.heap.objs.size mainGlobals (cellsFrom (s.heap.objs.size+1) (ae i j).names []) (dN i j++".<locals>.") (some (C.fa i j)) (C.cdv i j) none builtinsNs),s.heap.objs.size,cellsFrom (s.heap.objs.size+1) (ae i j).names [],some s.heap.objs.size⟩) (tk:=tk) f hC ha rfl rfl rfl rfl t.toInCall.keep t.toInCall.ns fun n l e=>t.cell n l e;exact F7 (fi:=C.fi i j) hC le rfl ok hb hR hE
structure wL (C:Cx)(c:Nat):Prop where
 m:makesIn C.K (C.ca c)=true
 i:findIn C.K (.ref (C.ca c)) "__init__" =some (some (.ref (C.fa c 1)))
 f:isFn C.K (.ref (C.fa c 1))=true
 k:keepIn C.K (.ref (C.ca c))=true
structure KC (C:Cx):Prop extends KB C where
 fns:∀i j fn,Ci i j=some fn->ph C i j fn
 keepF:∀i j fn,Ci i j=some fn->keepIn C.K (.ref (C.fa i j))=true
 make:∀c,ie c=true->wL C c
 lam:∀e b sc,C.lam e b sc->bQ sc=true/\∃n,fc aZ n false sc b e
 mkLam:∀e b sc n,bQ sc=true->fc aZ n false sc b e->C.lam e b sc
def AK (M:Model)(h:Heap)(f:Value):Prop:=∃k,(k=Keeper.frame\/k=Keeper.machine\/k=Keeper.boundFrame)/\Looks M h (keeperOf f) k
theorem ik{id:String}:AK M h (.builtin id):=⟨.machine,.inr (.inl rfl),Looks.of_pure rfl⟩
theorem zp{T:String}:AK M h (.type T):=⟨.machine,.inr (.inl rfl),Looks.of_pure rfl⟩
theorem fw{s:Type}{p:s->Bool}{a:s}{l:List s}(h:(a::l).all p=true):p a=true/\l.all p=true:=zB h
theorem kU(a:List Expr):a.all ay=true->starEach a b=a.map fun e=>(false,eval e b):=by induction a with|nil=>exact fun _=>rfl|cons e a c=>exact fun h=>by rw[bM (fw h).1,c (fw h).2];rfl
theorem vo (a:Pos)(b:Env)(c:List Expr):(backTo a (c.map fun e=>(false,eval e b))).any (·.1)=false:=by induction c with|nil=>rfl|cons e c f=>exact f
theorem vn (a:Pos)(b:Env)(c:List Expr):(backTo a (c.map fun e=>(false,eval e b))).all (!·.1)=true:=by induction c with|nil=>rfl|cons e c f=>exact f
theorem cJ{E:Value->Shared->Prop}(b:d.all ay=true) (h:wpAny M A (spliced (backTo c (starEach d g))) (fun i a=>AK M a.heap f/\wpAny M A (call f (first++i)) Q E a) E s):wpAny M A (callWith c f first (backTo c (starEach d g)) []) Q E s:=by
 refine callWith_of (P:=fun h=>AK M h f) (by rw[kU d b,vo];rfl) (fun h k=>k) ?_;cases d with
 |nil=>
  unfold evalArgs;show wpAny M A (spliced []>>=_) _ E s;exact aM (e8 h (fun i l j=>aM (aX (iQ (aM (aX (aM (aX (aX j)))))))) fun _ _ x=>x)|cons e r=>
  rw[bM (fw b).1]at h ⊢;exact evalArgs_plain h
theorem kA{E:Value->Shared->Prop}(b:d.all ay=true) (h:wpAny M A (spliced (backTo a (starEach d c))) (fun i g=>False) E s):wpAny M A (callWith a f first (backTo a (starEach d c)) []) Q E s:=cJ b (e8 h (fun _ _ f=>f.elim) fun _ _ e=>e)
def vj (C:Cx)(k:Nat)(g:FI)(h:MF)(f:V)(b:List V)(p:MS)(o:Except Int V)(c:MS):Prop:=∀x t m s j l,Ok C k g x h p t m s->VR C t f j->VRs C t b l->∀(Q:Value->Shared->Prop) (E:Value->Shared->Prop),(∀v,o= .ok v->∀a i d u,t.le a->Ok C k g x h c a i d->VR C a v u->Q u d)->(∀z,o= .error z->∀a i d e,t.le a->Ap C k g x h c a i z e d->E (.ref e) d)->wpAny (model C.prog C.w) x.A (call j l) Q E s
def sN{s:Type}(a:FI)(o:Except Int s):Prop:=a.cp=false\/∃v,o= .ok v
theorem sN.cp{o:Except Int s}(h:sN a o)(e:o= .error z):a.cp=false:=h.elim id fun q=>q.elim fun v q=>nomatch e.symm.trans q
abbrev K0 (Q E:Value->Shared->Prop):Result->Shared->Prop:=fun r b=>match r with| .ok (.ret v)=>Q v b| .ok _=>False| .error e=>E e b
theorem eQ.at(h:eQ C k A g t s)(hA:a.frames=A.frames)(hr:iN i a):eQ C i a g t s:=⟨h.keep,h.sz,h.news,h.nd,hA▸h.st,h.fok,hr,h.gens,h.os,h.len,h.reps,h.tabs⟩
theorem lE(h:Ok C k D x I N t m s)(P:sN D o)(hA:A.frames=x.A.frames)(hr:iN k' A) (hc:∀(f:Sg),eQ C k' A N f s->t.sub f->∀G:Result->Shared->Prop,(∀v,o= .ok v->∀a b u,f.le a->eQ C k' A ms' a b->VR C a v u->G (.ok (.ret u)) b)->(∀z,o= .error z->∀a b e,f.le a->eQ C k' A ms' a b->(∀L,pN C a a.keys L z e b false)->G (.error (.ref e)) b)->codeAny (model C.prog C.w) A c G s) (hQ:∀v,o= .ok v->∀a H b u,t.le a->Ok C k D x I ms' a H b->VR C a v u->R (.ok (.ret u)) b) (Q:∀z,o= .error z->∀a H b e,t.le a->Ap C k D x I ms' a H z e b->R (.error (.ref e)) b):codeAny (model C.prog C.w) A c R s:=by
 obtain⟨ob,p,U⟩:=h.toC;refine hc _ (U.at hA hr) (mq ..) R (fun v ev a b u g q r=>?_) fun z J a b e g q ex=>?_
 ·obtain⟨d,o',B,l,j⟩:=eQ.back h p g (q.at hA.symm h.room);exact hQ v ev d m b u l j (VR.sub (B▸kX ..) r)
 ·obtain⟨d,o',B,l,j⟩:=eQ.back h p g (q.at hA.symm h.room);have y:=P.cp J;refine(ex x.L).elim fun dx z2=>z2.elim fun K x2=>?_;rw[show a.keys=x.L::d.keys by rw[B,Sg.up_f y];rfl]at K;exact Q z J d m b e l ⟨j,⟨false,dx,K,x2.le (B▸kX ..)⟩,y⟩
theorem x5(h:Ok C k n x t D q m s)(F:sN n o)(hc:yz C k c j f D o g)(G:VRs C q f y){E:Value->Shared->Prop} (hQ:∀v,o= .ok v->∀d p i u,q.le d->Ok C k n x t g d p i->VR C d v u->Q u i) (I:∀z,o= .error z->∀d p i e,q.le d->Ap C k n x t g d p z e i->E (.ref e) i):wpAny (model C.prog C.w) x.A (call (.ref (C.fa c j)) y) Q E s:=wpAny_call (lE (R:=K0 Q E) h F rfl h.room (fun r J l K a b=>hc _ r s y J (G.sub l) K a b) hQ I)
theorem EJ(c:sN d o)(hc:yz C k i 0 a e o b):vj C k d n (.fn i) a e o b:=fun x t m s f q h g j Q E hQ l=>(show f=_ from g)▸x5 h c hc j hQ l
theorem EI (H:KB C)(e:iH c b a=some r):vj C k i j (.bi b) a c (.ok r.1) r.2:=fun x t m s d o h f g Q E hQ p=>(show d=_ from f)▸Bg H h g _ e Q E (hQ r.1 rfl)
theorem EK (H:KB C)(e:fZ c b a=some r):vj C k i j (.ty b) a c (.ok r.1) r.2:=fun x t m s d o h f g Q E hQ p=>(show d=_ from f)▸D3 H h g _ e Q E (hQ r.1 rfl)
theorem iN.under(h:iN (k+1) A)(hu:(A.under c).depth<=A.depth+1/\(A.under c).units<=A.units+1/\(A.under c).handled=A.handled):iN k (A.under c):=⟨by have:=h.dep;have:=hu.1;lia,by have:=h.uni;have:=hu.2.1;lia,hu.2.2.trans h.hn⟩
theorem A5 (H:KC C)(hi:ie c=true)(hc:yz C k c 1 (.loc J.length::B) (J++[.inst c []]) (.ok .none) y):vj C (k+1) fi mf (.cls c) B J (.ok (.loc J.length)) y:=fun x w m s uf us h rf ra Q E hQ hE=>by
 rw[show uf=_ from rf];have M:=H.make c hi;refine call_cls h.F H.X h.N M.m M.i M.f fun a L h' F' N' D G=>?_;have p:=h.put_rep (t:=s.toks) (r:=.inst a (C.ca c) L [] 0) (o:=.inst c []) F' N' (fun p P=>(zC P).elim (fun e=>e▸h.above fun q hq=>pg (D q hq) G) fun P=>List.mem_singleton.mp P▸h.above D) (List.nodup_cons.mpr ⟨fun q=>fP G (List.mem_singleton.mp q),gQ L (dictOf [] 0)⟩) ⟨a,L,[],0,rfl,.nil,jw _⟩;refine lE (k':=k) (o:=.ok (.none:V)) (ms':=y) p.2.1 (.inr ⟨_,rfl⟩) rfl (h.room.under ⟨cc _,cc _,rfl⟩) (fun U oc j R' aa bb=>hc _ U _ (.ref a::us) oc (.cons (.loc (j.adr _ _ p.2.2)) (ra.sub (p.1.sub.trans j))) R' aa bb) (fun v ev σ' m' s' u I ok' r'=>?_) fun z ez=>nomatch ez;rw[<- sF ev]at r';exact(show u=_ from r')▸ ⟨rfl,hQ _ rfl σ' m' s' _ (p.1.trans I) ok' (.loc (I.adr _ _ p.2.2))⟩
noncomputable def f8 (a:List (Str×Addr))(b:List (Str×NameKind)):List (Str×Addr)->List (Str×Addr):=b.rec id fun q _ e c=>if q.2== .free then e ((q.1,(a.lookup q.1).getD 0)::c)else e c
theorem q8(f:Str×NameKind->List (Str×Addr)->Sem (ForInStep (List (Str×Addr))))(hf:∀q b,f q b=if q.2== .free then(do let a <- cellOf env q.1;pure (.yield ((q.1,a)::b)))else pure (.yield b))(c:List (Str×NameKind)):∀b:List (Str×Addr),(∀n,(n,NameKind.free)∈c->(env.cells.lookup n).isSome=true)->forIn c b f=(pure (f8 env.cells c b):Sem _):=by induction c with
 |nil=>exact fun _ _=>rfl|cons q r k=>
  intro b h;rw[List.forIn_cons,hf];show _=pure (if q.2== .free then f8 env.cells r ((q.1,(env.cells.lookup q.1).getD 0)::b)else f8 env.cells r b);cases e:q.2==NameKind.free with
  |true=>
   obtain⟨a,l⟩:=Option.isSome_iff_exists.mp (h q.1 (List.mem_cons.mpr (.inl (by rw[<- (show q.2= .free from bh e)]))));rw[au rfl,au rfl,l,show cellOf env q.1=pure a by unfold cellOf;rw[l]];exact k _ fun n j=>h n (.tail _ j)|false=>
   rw[aH sB,aH sB];exact k _ fun n j=>h n (.tail _ j)
theorem px(h:∀n,(n,NameKind.free)∈b.names->(c.cells.lookup n).isSome=true):closureFor b c=pure (f8 c.cells b.names []):=by have:=q8 (env:=c) (fun x e=>if x.2==NameKind.free then(do let a <- cellOf c x.1;pure (.yield ((x.1,a)::e)))else pure (.yield e)) (fun q e=>rfl) b.names [] h;unfold closureFor;rw[bind_pure];exact this
theorem pu(j:b.lookup y=some a)(d:List (Str×NameKind)):∀f:List (Str×Addr),((y,NameKind.free)∈d\/f.lookup y=some a)->(f8 b d f).lookup y=some a:=by induction d with|nil=>exact fun f h=>h.elim (fun h=>nomatch h) id|cons q r g=>
  intro f h;show(if q.2== .free then f8 b r ((q.1,(b.lookup q.1).getD 0)::f)else f8 b r f).lookup y=_;by_cases e:y=q.1
  ·split
   ·exact g _ (.inr (by rw[gZ,e,jK,<- e,j];rfl))
   ·rename_i z;refine g _ (h.imp_left fun h=>(zC h).elim (fun w=>absurd (show(q.2== .free)=true by rw[<- w];rfl) z) id)
  ·have i:(y,NameKind.free)∈r\/f.lookup y=some a:=h.imp_left fun h=>(zC h).elim (fun w=>absurd (congrArg Prod.fst w) e) id
   split
   ·exact g _ (i.imp_right fun h=>by rw[gZ,jt e];exact h)
   ·exact g _ i
structure Nl (sc:Scope):Prop where
 n:∀q∈sc.names,a8 q.1=true/\q.2≠ .cell/\sc.names.lookup q.1=some q.2
 kd:sc.kind= .function
 ge:sc.isGenerator=false
 co:sc.isCoroutine=false
theorem jl(h:bQ c=true):Nl c:=
 have h:=zB h;have a:=zB h.1;have b:=zB a.1
 ⟨fun q hq=>have z:=zB (zE b.1 q hq);have y:=zB z.1;⟨y.1,fun e=>sB ((show _=false from(pd _).mp y.2).symm.trans (beq_iff_eq.mpr e)),bh z.2⟩,bh b.2,(pd _).mp a.2,(pd _).mp h.2⟩
theorem Ck(h:f∈gL b):∃n,(n,NameKind.free)∈b.names/\aL n=f:=(zF h).elim fun q hq=>have z:=List.mem_filter.mp hq.1;⟨q.1,by rw[<- (show q.2= .free from bh z.2)];exact z.1,hq.2⟩
theorem CY(h:(n,NameKind.free)∈b.names):aL n∈gL b:=List.mem_map.mpr ⟨_,List.mem_filter.mpr ⟨h,rfl⟩,rfl⟩
theorem zH(h:rK b=true):b=⟨[],[],none,[],[],none,[]⟩:=by obtain⟨p,a,v,c,e,f,d⟩:=b;obtain⟨h,g⟩:=zB h;obtain⟨h,i⟩:=zB h;obtain⟨h,j⟩:=zB h;obtain⟨h,k⟩:=zB h;obtain⟨h,l⟩:=zB h;obtain⟨m,n⟩:=zB h;rw[show p=[]from List.isEmpty_iff.mp m,show a=[]from List.isEmpty_iff.mp n,show v=none from Option.isNone_iff_eq_none.mp l,show c=[]from List.isEmpty_iff.mp k,show e=[]from List.isEmpty_iff.mp j,show f=none from Option.isNone_iff_eq_none.mp i,show d=[]from List.isEmpty_iff.mp g]
theorem Hp(l:List (Addr×Obj)):(l.map (·.1)).Nodup->(d,o)∈l->UpdF d o l fun a=>l.map (rp d a):=by induction l with|nil=>exact fun _ h=>nomatch h|cons p r k=>
  intro f g;have f:=List.nodup_cons.mp f;rcases zC g with e|g
  ·have i:d=p.1:=congrArg Prod.fst e;rw[<- e,show(fun a=>((d,o)::r).map (rp d a))=fun a=>(d,a)::r from funext fun a=>by rw[iE,oP r (i▸f.1),show rp d a (d,o)=(d,a)from au rfl]];exact .head fun q hq e=>f.1 (List.mem_map.mpr ⟨q,hq,e.trans i⟩)
  ·have j:p.1≠d:=fun e=>f.1 (List.mem_map.mpr ⟨_,g,e.symm⟩);rw[show(fun a=>(p::r).map (rp d a))=fun a=>p::r.map (rp d a)from funext fun a=>by rw[iE,show rp d a p=p from aH j]];exact .tail j (k f.2 g)
theorem vm{e:Pos}(l:List Value)(h:TriplesOk l)(d:codeAmong p (l++[rawInt e.line,rawInt e.col,c])=some g):codeAmong p l=some g\/g=c:=by fun_induction TriplesOk l with
 |case1=>
  simp only[Ao,codeAmong,rawInt]at d
  split at d
  ·cases d;exact .inr rfl
  ·cases d|case2 a t b u x i k=>
  simp only[sA,codeAmong]at d ⊢
  split at d
  ·rename_i hc;rw[au hc];exact .inl d
  ·rename_i hc;rw[aH hc];exact k h d|case3 l m n=>exact h.elim
noncomputable def kl (P:Addr)(a:Array Value)(q:Addr×Array Value):Addr×Array Value:=if q.1=P then(P,a)else q
theorem wx (P:Addr)(a:Array Value)(q:Addr×Array Value):(kl P a q).1=q.1:=by unfold kl;split<;>rename_i h;exact h.symm;rfl
theorem oY{l:List (Addr×Array Value)}(h:q∈l.map (kl P b)):q=(P,b)\/q∈l:=(zF h).elim fun w a=>by
 rw[<- a.2];unfold kl
 split
 ·exact .inl rfl
 ·exact .inr a.1
theorem Gj (P:Addr)(a:Array Value)(l:List (Addr×Array Value)):(l.map fun q=>(q.1,tabObj q.2)).map (rp P (tabObj a))=(l.map (kl P a)).map fun q=>(q.1,tabObj q.2):=by
 rw[fQ,fQ];refine uL fun q _=>?_;show(if q.1=P then(P,tabObj a)else(q.1,tabObj q.2))=((if q.1=P then(P,a)else q).1,tabObj (if q.1=P then(P,a)else q).2)
 split<;>rfl
noncomputable abbrev Sg.tab (s:Sg)(P:Addr)(b:Array Value):Sg:={s with tabs:=s.tabs.map (kl P b)}
theorem ul{t:Sg}(o:(t.news.map (·.1)).Nodup)(p:(P,s)∈t.tabs):t.news.map (rp P (tabObj g))=(t.tab P g).news:=by
 have e:t.news=(t.frs.map (·.2)++(t.reps.flatMap iM.objs++(t.imm++t.its)))++t.tabs.map fun q=>(q.1,tabObj q.2):=by unfold Sg.news Sg.rest;rw[dU,dU,dU]
 have r:(t.tab P g).news=(t.frs.map (·.2)++(t.reps.flatMap iM.objs++(t.imm++t.its)))++(t.tabs.map (kl P g)).map fun q=>(q.1,tabObj q.2):=by unfold Sg.news Sg.rest;rw[dU,dU,dU]
 rw[e,bZ,qB]at o;have n:P∈ (t.tabs.map fun q=>(q.1,tabObj q.2)).map (·.1):=e7 (f:=Prod.fst) (e7 (f:=fun q:Addr×Array Value=>(q.1,tabObj q.2)) p);rw[e,r,bZ,oP _ fun q=>o.2.2 _ q _ n rfl,Gj]
structure Iy (σ:Sg)(sc:Scope)(env:Env)(cl:List (Str×Addr))(cells:List (Nat×Nat)):Prop where
 c:closureFor sc env=pure (f8 cl sc.names [])
 l:∀n l,aO n=true->(jH (gL sc) cells).lookup (aL n)=some l->∃a,(f8 cl sc.names []).lookup n=some a/\σ.adr l=some a
theorem q7 (h:Ok C k w x t L z m s)(y:bQ o=true)(hc:dh (gL o) t.cells=true):Iy z o (x.env w) x.cl t.cells:=by have u:=(jl y).n;have j:∀n,(n,NameKind.free)∈o.names->∃l a,t.cells.lookup (aL n)=some l/\x.cl.lookup n=some a/\z.adr l=some a:=fun n r=>(Option.isSome_iff_exists.mp (zE hc _ (CY r))).elim fun l hl=>(h.cells n l (bg (u _ r).1) hl).elim fun a e=>⟨l,a,hl,e⟩;refine⟨px fun n r=>(j n r).elim fun l q=>q.elim fun a q=>Option.isSome_iff_exists.mpr ⟨a,q.2.1⟩,fun n l A e=>?_⟩;obtain⟨B,D⟩:=jW (p:=fun a=>(gL o).contains a) _ e;obtain⟨F,i,G⟩:=Ck (List.contains_iff_mem.mp D);rw[show F=n from fV (bg (u _ i).1) A G]at i;obtain⟨M,a,H,I,J⟩:=j n i;exact⟨a,pu I _ _ (.inl i),e9 (H.symm.trans B)▸J⟩
theorem Ok.put_tab (h:Ok C k fi x mf ms u m s)(hP:(P,ps)∈u.tabs)(htq:C.tq.lookup P=some q){pos:Pos}(F:Fr C.G x.L h' m)
  (N:News C.G x.L h' ((f,kf)::(c',oc)::u.news.map (rp P (tabObj (ps++ #[rawInt pos.line,rawInt pos.col,.ref c']))))) (hd:oc.data= .fields vs) (hv:vs[1]?=some (.str q t)) (hlt:∀q∈u.news,q.1<c') (hcf:c'<f):
  ∃z:Sg,u.le z/\(f,kf)∈z.imm/\(c',oc)∈z.imm/\Ok C k fi x mf ms z m {s with heap:=h',toks:=tk}:=by
 have hsub:∀w∈u.imm,w∈ (f,kf)::(c',oc)::u.imm:=fun w hw=>.tail _ (.tail _ hw)
 have hsb:u.sub {(u.tab P (ps++ #[rawInt pos.line,rawInt pos.col,.ref c']))with imm:=(f,kf)::(c',oc)::u.imm}:=⟨fun _ _ e=>e,hsub⟩
 have tl:(ps++ #[rawInt pos.line,rawInt pos.col,.ref c']).toList=ps.toList++[rawInt pos.line,rawInt pos.col,.ref c']:=by rw[Array.toList_append]
 have nw:News C.G x.L h' ((f,kf)::(c',oc)::(u.tab P (ps++ #[rawInt pos.line,rawInt pos.col,.ref c'])).news):=ul h.nd hP▸N
 have key:(u.tab P (ps++ #[rawInt pos.line,rawInt pos.col,.ref c'])).news.map (·.1)=u.news.map (·.1):=by rw[<- ul h.nd hP,x4]
 have perm:(Sg.news {(u.tab P (ps++ #[rawInt pos.line,rawInt pos.col,.ref c']))with imm:=(f,kf)::(c',oc)::u.imm}).Perm ((f,kf)::(c',oc)::(u.tab P (ps++ #[rawInt pos.line,rawInt pos.col,.ref c'])).news):=
  (uH _ (List.perm_middle.trans ((sC).cons _))).trans (List.perm_middle.trans ((sC).cons _))
 refine⟨{(u.tab P (ps++ #[rawInt pos.line,rawInt pos.col,.ref c']))with imm:=(f,kf)::(c',oc)::u.imm},⟨rfl,fun _ _ e=>e,hsub,rfl⟩,.head _,.tail _ (.head _),h.stepT hsb rfl ⟨?_,fun P' ps0 hm=>?_,fun P' ps0 qq hm hq pos' cv ha=>?_⟩ F
  (fun p hp=>nw p (perm.mem_iff.mp hp)) ((perm.map (·.1)).nodup_iff.mpr ?_) h.len fun l o r e1 e2=>(h.reps l o r e1 e2).le hsb⟩
 ·rw[<- h.tabs.keys,fQ]
  exact uL fun q _=>wx ..
 ·rcases oY hm with e|hm
  ·rw[show ps0=_ from congrArg Prod.snd e,tl];exact TriplesOk_snoc _ _ _ _ (h.tabs.ok _ _ hP)
  ·exact h.tabs.ok _ _ hm
 ·rcases oY hm with e|hm
  ·rw[show P'=_ from congrArg Prod.fst e,htq]at hq
   rw[show ps0=_ from congrArg Prod.snd e,tl]at ha
   rw[<- e9 hq]
   exact(vm _ (h.tabs.ok _ _ hP) ha).elim (fun ha=>(h.tabs.q _ _ _ hP htq pos' cv ha).le hsub) fun ha=>⟨c',oc,vs,t,ha,.tail _ (.head _),hd,hv⟩
  ·exact(h.tabs.q _ _ _ hm hq pos' cv ha).le hsub
 ·rw[iE,iE,key]
  exact List.nodup_cons.mpr ⟨fun q=>(zC q).elim (fun e:f=c'=>fP hcf e) (h.above fun q hq=>pg (hlt q hq) hcf),List.nodup_cons.mpr ⟨h.above hlt,h.nd⟩⟩
theorem AT (H:KC C)(hl:wO C M)(ha:rK as=true)(hs:bQ R=true)(A:C.lam e b R)(hc:dh (gL R) mf.cells=true):ax C k M mf ms (.Lambda as b R B) (.ok (.lam e (jH (gL R) mf.cells))) ms:=bO.ok fun x g m s h Q E q=>by
 obtain⟨hcp,⟨c,P,cn,u,D,G,i⟩,⟨a,hf⟩⟩:=hl;rw[zH ha];have cp:=q7 h hs hc;have I:x.env M=envX cn M.scope x.L a M.cdv x.cl:=by unfold Fx.env;rw[hf,h.hfr hcp,i];rfl
 obtain⟨w,j,ew⟩:=zF (show P∈g.tabs.map (·.1) by rw[h.tabs.keys];exact e7 (f:=Prod.fst) (aw G));obtain⟨P',ps⟩:=w;rw[show P'=P from ew]at j;have o:(P,tabObj ps)∈g.news:=iD _ (iD _ (iD _ (iD _ (e7 (f:=fun q:Addr×Array Value=>(q.1,tabObj q.2)) j))));have J:=h.tabs.ok _ _ j;have v:C.tq.lookup P=some ((cn++".<locals>.")++"<lambda>"):=by rw[<- i];exact G
 refine kla_eval rfl ?_;have c1:=cp.c;rw[I]at c1 ⊢;refine El (codeAmong B ps.toList) ?_ ?_
 ·intro r;exact kla_nest h.F h.N H.T D u (Hp _ h.nd o) J r c1 fun f c' oc vs t ctv h' tk F' N' hd hv z hcf=>(h.put_tab (tk:=tk) j v F' N' hd hv z hcf).elim fun d p=>q d m _ _ p.1 p.2.2.2 ⟨_,_,_,_,_,_,_,f,c',oc,vs,t,rfl,A,p.2.1,p.2.2.1,hd,hv,fun y l gy e=>(cp.l y l gy e).imp fun a=>fo (p.1.adr _ _)⟩
 ·intro cv r;refine(h.tabs.q _ _ _ j v B cv r).elim fun c' z10=>z10.elim fun oc z11=>z11.elim fun vs z12=>z12.elim fun t z13=>z13.elim fun ec z14=>z14.elim fun a2 z15=>z15.elim fun a3 a4=>?_;rw[ec]at r;exact kla_hit h.F h.N H.T D u o J r c1 fun f ctv h' tk F' N' z=>
   have p:=h.put_imm (t:=tk) F' N' (h.above z)
   q _ m _ _ p.1 p.2 ⟨_,_,_,_,_,_,_,f,c',oc,vs,t,rfl,A,.head _,.tail _ a2,a3,a4,cp.l⟩
inductive iT:V->Prop
 |fn {i fn} (h:Ci i 0=some fn):iT (.fn i)
 |bi {b}:iT (.bi b)
 |ty {t}:iT (.ty t)
 |cls {c} (h:ie c=true):iT (.cls c)
 |lam {e cells}:iT (.lam e cells)
theorem A6 (H:KC C)(ho:sN fi o) (hb:∀(K:FI) (b:Expr) (n:Nat),K.cp=false->fc aZ n false K.scope b e->ax C k K ⟨[],p⟩ ms b o ms'):vj C (k+1) fi mf (.lam e p) [] ms o ms':=fun x j m s uf us h rf ra Q E hQ hE=>by
 rw[show us=[]from ra];refine rf.elim fun name z1=>z1.elim fun q z2=>z2.elim fun G z3=>z3.elim fun c z4=>z4.elim fun w z5=>z5.elim fun pm z6=>z6.elim fun ctv z7=>z7.elim fun f z8=>z8.elim fun c' z9=>z9.elim fun oc z10=>z10.elim fun vs z11=>z11.elim fun t z12=>z12.elim fun ef N=>?_;rw[ef];refine(H.lam _ _ _ N.h0).elim fun hsc z13=>z13.elim fun n tr=>?_;have so:=jl hsc;refine wpAny_call (lE (R:=K0 Q E) h ho rfl h.room (fun σ0 d L R' a b=>?_) hQ hE);have gf:=(d.news _ (nr (L.imm _ N.h1))).1;have gc:=(d.news _ (nr (L.imm _ N.h2))).1;refine kla_callFunE (cN (dn ..) (pg h.room.dep (by decide))) gf rfl so.co so.ge rfl ⟨c',oc,vs,t,rfl,gc,N.h3,N.h4⟩ ?_;rw[show bindArgs (kla_fn name q (default:Arguments) G c w pm (.ref c') ctv) ⟨[],[]⟩=pure []from rfl];refine aX (wpAny_newFunctionEnv (fun y hy=>(so.n y hy).2.1) (fun y hy=>nomatch hy) (fun h₁ hns hsb=>⟨((H.T.nolimit).keeps d.keep).fresh _ hsb,kla_codeExpr ?_⟩) so.kd);have M:∀b o,s.heap.get? b=some o->h₁.get? b=some o:=fun b o e=>hsb.extBut b o (eo (jL e)) (gY _ e);have hok:=d.enter (k:=k) (tk:=s.toks+([]:List (Str×Value)).length) (x:=⟨x.A.deeper (newEnv c s.heap.objs.size mainGlobals w (q++".<locals>.") (some f) (.ref c') none builtinsNs),s.heap.objs.size,w,some s.heap.objs.size⟩) (fi:=⟨c,q++".<locals>.",some f,.ref c',false⟩) (mf:=⟨[],p⟩) rfl M hns (by show Option.map _ x.A.frames=_;rw[d.st];rfl) (fun _=>rfl) so.kd h.room.deeper (fun n v g e=>nomatch e) fun n l g e=>(N.h5 n l g e).imp fun a=>fo (L.adr _ _);refine(hb _ G n rfl tr).thru (.refl _) hok (fun v ev σ' m' s' u le ok' r=>a v ev σ' s' u le (rM d le ok').1 r) fun z ez σ' m' s' e' le ex=>?_;exact ot ex rfl (rM d le ex.ok).2 h.room fun τ' s'' le' okc exa=>b z ez τ' s'' e' (le.trans le') okc exa
theorem Fo (H:KC C)(h:Ok C k M x N P b m s)(r:VR C b f a)(hf:iT f):AK (model C.prog C.w) s.heap a:=by have X:=H.X.keeps h.F.keep;cases hf with
 |fn e=>exact(show a=_ from r)▸keeps_K (H.keepF _ 0 _ e) _ X|bi=>exact(show a=_ from r)▸ik|ty=>exact(show a=_ from r)▸zp|cls e=>exact(show a=_ from r)▸keeps_K (H.make _ e).k _ X|lam=>
  refine r.elim fun n u=>u.elim fun o v=>v.elim fun p y=>y.elim fun c z=>z.elim fun q A=>A.elim fun pm B=>B.elim fun D G=>G.elim fun f I=>I.elim fun c' J=>J.elim fun oc d=>d.elim fun vs g=>g.elim fun t i=>i.elim fun K L=>?_;exact K▸keeps_F _ ⟨_,_,_,_,h.get_of (nr L.h1)⟩
theorem lK(h:(shape f !=2)=true):eval (.Call f c [] a) b=(do callWith a (<- eval f b) [] (backTo a (starEach c b)) []):=by cases f with|Attribute _ _ _=>exact Bool.noConfusion (show false=true from h)|_=>rfl
theorem yB (H:KC C)(j:(shape f !=2)=true)(n:p.all ay=true)(K:ax C k g r L f (.ok G) t)(N:fu C k g r t p c (.ok d) w) (hf:iT G) (P:vj C k g r G d w o y):ax C k g r L (.Call f p [] c) o y:=fun x a m s h Q E q R=>by
 show wpAny _ _ (eval (.Call f p [] c) (x.env g)) _ _ _;rw[lK j];exact aM (K.go h fun Y m' s' uf l o1 I=>cJ n (N.go o1 fun A m2 s2 us i J r2=>⟨Fo H J (I.sub i.sub) hf,P x A m2 s2 uf us J (I.sub i.sub) r2 Q E (fun v ev b B D u F=>q v ev b B D u ((l.trans i).trans F)) fun z ez b B D e F=>R z ez b B D e ((l.trans i).trans F)⟩))
theorem pi(c:(shape f !=2)=true)(d:g.all ay=true)(r:ax C k i p t f (.ok H) j)(u:fu C k i p j g b (.error z) n):ax C k i p t (.Call f g [] b) (.error z) n:=bO.err fun x a m s h Q E q=>by
 show wpAny _ _ (eval (.Call f g [] b) (x.env i)) _ _ _;rw[lK c];exact aM (r.go h fun w J K L l y M=>kA d (u.goE y fun o B D e F=>q o B D e (l.trans F)))
theorem jB(nc:(shape o !=1)=true)(hl:(c.endLine==b.line)=true)(hz:es.length<30)(hns:es.all ay=true):eval (.Call (.Attribute o n c) es [] b) a=(do
   let ov <- eval o a
   standAt c.atName;let (f,first) <- holding [ov] (getMethod ov n (do return (<- importBound o a).getD true))
   callWith b f first (backTo b (starEach es a)) []):=by
 show(do
  let ov <- attributeBase o n a (eval o a)
  standAt c.atName
  methodCall o n c b a ov (es.length+0) (backTo b (starEach es a)) (backToKw b (keywordEach [] a)))=_;rw[wY nc];have hform:methodCallForm (es.length+0) (backTo b (starEach es a)) (backToKw b (keywordEach [] a))=true:=by unfold methodCallForm;rw[kU es hns,vn];exact dD hz
 unfold methodCall;rw[hform];unfold calleeOf methodCallPos;rw[hl]
 rfl
structure wQ (o:Expr)(n:Str)(apos pos:Pos)(es:List Expr):Prop where
 g:aO n=true
 nc:(shape o !=1)=true
 hl:(apos.endLine==pos.line)=true
 hz:es.length<30
 hns:es.all ay=true
theorem pp (H:KC C)(ho:sN r o)(M:wQ N n d f P) (h1:ax C k r R ms N (.ok U) i) (hm:c9 i U (aL n)=some (.own c j)) (t:Ci c j=some fn) (h2:fu C k r R i P f (.ok p) w) (h3:yz C k c j (U::p) w o y):ax C k r R ms (.Call (.Attribute N n d) P [] f) o y:=fun x a m s h Q E q er=>MethodCall_ (h1.go h fun σ' m' s' uo l Y r1=>ow H.toKB Y M.g r1 _ hm _ _ (cJ M.hns (h2.go Y fun σ2 m2 s2 us B o2 r2=>⟨keeps_K (H.keepF c j fn t) _ (H.X.keeps o2.F.keep),x5 o2 ho h3 (.cons (r1.sub B.sub) r2) (fun v ev b J K u L=>q v ev b J K u ((l.trans B).trans L)) fun z ez b J K e L=>er z ez b J K e ((l.trans B).trans L)⟩))) (jB M.nc M.hl M.hz M.hns)
theorem qO (H:KC C)(M:wQ t n b c v) (F:ax C k w y G t (.ok z) d) (I:c9 d z (aL n)=some .bi) (J:fu C k w y d v c (.ok e) i) (K:iZ i z (aL n) e=some r):ax C k w y G (.Call (.Attribute t n b) v [] c) (.ok r.1) r.2:=bO.ok fun x a m s h Q E q=>MethodCall_ (F.go h fun N m' s' uo l A B=>ow H.toKB A M.g B _ I _ _ (cJ M.hns (J.go A fun P m2 s2 us D R U=>⟨ik,Bp R (B.sub D.sub) U _ K Q E fun p X Y u Z=>q p X Y u ((l.trans D).trans Z)⟩))) (jB M.nc M.hl M.hz M.hns)
theorem po (H:KC C)(M:wQ p n c d r) (y:ax C k u v A p (.ok B) f) (D:c9 f B (aL n)=some t) (F:fu C k u v f r d (.error z) i):ax C k u v A (.Call (.Attribute p n c) r [] d) (.error z) i:=bO.err fun x b m s h Q E q=>MethodCall_ (y.go h fun G U X Y l w I=>ow H.toKB w M.g I _ D _ _ (kA M.hns (F.goE w fun o K L e N=>q o K L e (l.trans N)))) (jB M.nc M.hl M.hz M.hns)
structure sM (o:Obj)(c:String)(fs:Array Value):Prop where
 c:o.cls= .type c
 d:o.data= .fields fs
noncomputable abbrev Ir (x left c:Int):Obj:={cls:=.type "range_iterator",dict:=none,data:=.fields #[rawInt x,rawInt left,rawInt c],slots:=#[]}
def HF (C:Cx)(s:Sg)(d:List V)(o:Obj):Prop:=∃(a:List Value) (t:Addr) (n i:Nat),C.has s t {cls:=.type "tuple",data:=.seq a.toArray n}/\VRs C s d (a.drop i)/\sM o "tuple_iterator" #[.ref t,.int i 0]
def Hy (e:List V)(o:Obj):Prop:=∃(b:List UInt8) (t:Tok) (i:Nat),e=(b.drop i).map (fun c:UInt8=>V.int c.toNat)/\sM o "bytes_iterator" #[.bytes b.toArray t,.int i 0]
def uO (C:Cx)(s:Sg)(i:It)(o:Obj):Prop:=i.casesOn (fun l i=>∃a,s.adr l=some a/\sM o "list_iterator" #[.ref a,.int i 0]) (fun l i n=>∃a,s.adr l=some a/\sM o "dict_keyiterator" #[.ref a,.int i 0,.int n 0,.int n 0]) (fun e=>HF C s e o\/Hy e o) (fun x left c=>o=Ir x left c)
theorem uO.le(l:s.sub u):uO C s i o->uO C u i o:=by cases i with|list _ _=>exact bq fun a=>k6 (l.adr _ _)|keys _ _ _=>exact bq fun a=>k6 (l.adr _ _)|seq b=>exact Or.imp_left (bq fun c=>bq fun t=>bq fun n=>bq fun i=>And.imp (·.le l) (k6 (VRs.sub l)))|rng _ _ _=>exact id
theorem sM.cls{c:String}(h:sM o c b)(hc:["enumerate","zip","dict_itemiterator","dict_reverseitemiterator","odict_iterator","itertools.zip_longest","itertools.pairwise"].contains c=false):∃n,o.cls= .type n/\["enumerate","zip","dict_itemiterator","dict_reverseitemiterator","odict_iterator","itertools.zip_longest","itertools.pairwise"].contains n=false:=⟨c,h.c,hc⟩
theorem uO.cls(h:uO C s i o):∃n,o.cls= .type n/\["enumerate","zip","dict_itemiterator","dict_reverseitemiterator","odict_iterator","itertools.zip_longest","itertools.pairwise"].contains n=false:=by cases i with|list _ _=>exact h.elim fun a h=>h.2.cls (by decide)|keys _ _ _=>exact h.elim fun a h=>h.2.cls (by decide)|seq c=>exact h.elim (fun h=>h.elim fun d h=>h.elim fun t h=>h.elim fun n h=>h.elim fun i h=>h.2.2.cls (by decide)) fun h=>h.elim fun b h=>h.elim fun t h=>h.elim fun i h=>h.2.cls (by decide)|rng _ _ _=>exact(show o=_ from h)▸ ⟨_,rfl,by decide⟩
theorem cC (s:Sg)(a:Addr)(o:Obj):s.sub (s.hold a o):=⟨fun _ _ e=>e,fun _ e=>e⟩
theorem iA (s:Sg)(a:Addr)(o:Obj):(s.hold a o).sub s:=⟨fun _ _ e=>e,fun _ e=>e⟩
theorem kH{s:Sg}(h:(s.hold a o).le u):∃d,u=d.hold a o/\s.le d:=by refine⟨{u with its:=s.its},?_,⟨h.frs,h.adr,h.imm,rfl⟩⟩;have:=h.its;obtain⟨f,r,i,t,tb⟩:=u;exact(show(a,o)::s.its=t from this)▸rfl
theorem dk (s:Sg)(a:Addr)(o:Obj):((s.hold a o).news.map (·.1)).Nodup ↔ a ∉ s.keys/\(s.news.map (·.1)).Nodup:=by rw[((bt s a o).map (·.1)).nodup_iff,iE];exact List.nodup_cons
theorem jE{s:Sg}(q:h.get? a=some o/\a≠L/\g.get? a=none)(N:News g L h s.news):News g L h (s.hold a o).news:=fun p d=>(zC ((bt s a o).mem_iff.mp d)).elim (fun e=>e▸q) (N p)
theorem Ok.hold{a:Addr}(h:Ok C k v x w y u m s)(hk:∀b o,s.heap.get? b=some o->q.get? b=some o)(n:s.heap.objs.size<=a)(z:q.get? a=some o):Ok C k v x w y (u.hold a o) m {s with heap:=q,toks:=t}:=
 have g:=h.grow t hk
 h.step (cC ..) rfl rfl g.F (jE ⟨z,h.fresh_L n,h.fresh_G n⟩ g.N) ((dk ..).mpr ⟨h.fresh n,h.nd⟩) h.len fun l b c A B=>(h.reps l b c A B).le (cC ..)
structure IC (C:Cx)(x:Fx)(σ:Sg)(h:Heap)(a:Addr)(o:Obj):Prop where
 g:h.get? a=some o
 L:a≠x.L
 G:C.G.get? a=none
 k:a ∉ σ.keys
theorem Ok.held (h:Ok C k d x e f (t.hold a o) m s):IC C x t s.heap a o:=
 have q:=h.N (a,o) ((bt t a o).mem_iff.mpr (.head _))
 ⟨q.1,q.2.1,q.2.2,((dk ..).mp h.nd).1⟩
theorem Ok.unhold (h:Ok C k A x B D (u.hold a o) m s)(he:Heap.ExtBut a s.heap h'):Ok C k A x B D u m {s with heap:=h',toks:=t}:=
 have q:=h.held
 h.step (iA ..) rfl rfl ⟨h.F.ns.extBut he (ci q.L),fun b r e=>he b r (fun z=>nomatch (z▸e).symm.trans q.G) (h.F.keep b r e),h.F.above⟩ (fun p v=>have z:=h.N p ((bt u a o).mem_iff.mpr (.tail _ v));⟨he _ _ (fun e=>q.k (e▸e7 v)) z.1,z.2⟩) ((dk ..).mp h.nd).2 h.len fun l b c H I=>(h.reps l b c H I).le (iA ..)
theorem Ok.rehold{z:Sg}(h:Ok C k n x p r (z.hold a o) m s)(he:Heap.SameBut a s.heap f)(u:f.get? a=some v):Ok C k n x p r (z.hold a v) m {s with heap:=f,toks:=t}:=
 have q:=h.held;have g:=h.unhold (t:=t) he.extBut
 g.step (cC ..) rfl rfl g.F (jE ⟨u,q.L,q.G⟩ g.N) ((dk ..).mpr ((dk ..).mp h.nd)) g.len fun l b c w y=>(g.reps l b c w y).le (cC ..)
theorem DR(h:0<=a/\a<1000000/\0<=b/\b<1000000/\0<c/\c<1000000):Builtin.Range.small a b c=true:=by
 have f:∀i:Int,-1000000000<=i->i<=1000000000->Builtin.Range.rangeFitsLong i=true:=fun i r s=>by
  clear h;unfold Builtin.Range.rangeFitsLong;simp;lia
 have g:∀i:Int,0<=i->i<=1000000->Builtin.Range.rangeFitsLong i=true:=fun i p q=>f i (pa (by decide) p) (pa q (by decide));obtain⟨t,u,l,m,j,n⟩:=h;have hz:0<=Builtin.Range.rangeSize a b c/\Builtin.Range.rangeSize a b c<=1000000:=by
  unfold Builtin.Range.rangeSize;rw[au (show c>0 from j)]
  clear f g
  split
  ·have o:0<=b-a-1:=by lia
   have r:=Int.ediv_nonneg o (mY j);have s:(b-a-1) / c<=b-a-1:=Int.ediv_le_self _ o;lia
  ·exact⟨Int.le_refl _,by decide⟩
 have v:0<=b+(c-1):=Int.add_nonneg l (Int.le_sub_one_of_lt j);have w:b+(c-1)<=1000000000:=pa (Int.add_le_add (mY m) (pa (Int.sub_le_self _ (by decide)) (mY n))) (by decide);unfold Builtin.Range.small;rw[g a t (mY u),g b l (mY m),g c (mY j) (mY n),g _ hz.1 hz.2,au (show c>0 from j),f (b+(c-1)) (pa (by decide) v) w];exact Bool.or_true _
abbrev wP (C:Cx)(k:Nat)(e:FI)(x:Fx)(f:MF)(g:MS)(t:Sg)(m:Str->Option Value)(s:Shared)(u:Value)(i:It):Prop:=∀(Q:Value->Shared->Prop) (E:Value->Shared->Prop),(∀a o b,Ok C k e x f g (t.hold a o) m b->uO C t i o->Q (.ref a) b)->wpAny (model C.prog C.w) x.A (pyIter u) Q E s
theorem oD (h:Ok C k d x f g u m s)(o:Obj)(hf:o.isFreed=false):Ok C k d x f g (u.hold s.heap.objs.size o) m {s with heap:=s.heap.push o}:=h.hold (t:=s.toks) (fun b i e=>gY _ e) (cc _) (Heap.get?_push_size _ hf)
theorem CF (H:KB C)(h:Ok C k j x t f z m s)(hl:f[l]?=some y)(r:VR C z (.loc l) u):av (H1 l y) (wP C k j x t f z m s u):=by have c:=r;cases y with|list A=>exact eJ (P:=fun u=>VR C z (.loc l) u->av (some (It.list l 0)) (wP C k j x t f z m s u)) h hl r (fun a B n o c=>ac fun Q E q=>wpAny_pyIter_list o.i (q _ _ _ (oD h _ rfl) (c.imp fun b e=>⟨e.2,rfl,by rw[mX e.1];rfl⟩))) c|dictS w=>exact dB (P:=fun u=>VR C z (.loc l) u->av (some (It.keys l 0 w.length)) (wP C k j x t f z m s u)) h hl r (fun a D o c=>ac fun Q E q=>o.at.elim fun F p=>wpAny_pyIter_dict (kP H h o.m) p.d (p.l.symm▸q _ _ _ (oD h _ rfl) (c.imp fun b e=>⟨e.2,rfl,by rw[mX e.1];rfl⟩))) c|_=>exact af
theorem xA (H:KB C)(h:Ok C k i x j d G m s)(r:VR C G v u):av (aA d v) (wP C k i x j d G m s u):=by cases v with
 |loc l=>exact al fun w hl=>CF H h hl r|tup y=>exact ac fun Q E q=>r.elim fun o t=>t.1.2.elim fun a g=>g.elim fun n g=>g.1▸wpAny_pyIter_tuple ⟨_,h.get_has g.2,rfl,n,rfl⟩ (q _ _ _ (oD h _ rfl) (.inl ⟨o,a,n,0,g.2,t.2,rfl,rfl⟩))|bytes b=>exact ac fun Q E q=>r.elim fun t e=>e.1▸KBw.pyIter_bytes (q _ _ _ (oD h _ rfl) (.inr ⟨b,t,0,rfl,rfl,rfl⟩))|rng a b c=>exact aB fun f=>ac fun Q E q=>r.elim fun t g=>g.elim fun z g=>g.elim fun p g=>g.elim fun A g=>g.1▸wpAny_pyIter_range (h.get_has g.2) (DR f) (by
   rw[rU f.2.2.2.2.1];exact q _ _ _ (oD h _ rfl) rfl)|_=>exact af
structure K7 (C:Cx)(k:Nat)(fi:FI)(x:Fx)(mf:MF)(ms:MS)(σ:Sg)(m:Str->Option Value)(s:Shared)(a:Addr)(r:Option (V×It))(Q:Option Value->Shared->Prop):Prop where
 one:∀v i' o' s' u,r=some (v,i')->Ok C k fi x mf ms (σ.hold a o') m s'->uO C σ i' o'->VR C σ v u->Q (some u) s'
 fin:∀s',r=none->Ok C k fi x mf ms σ m s'->Q none s'
abbrev mG (C:Cx)(k:Nat)(b:FI)(x:Fx)(c:MF)(d:MS)(t:Sg)(m:Str->Option Value)(s:Shared)(a:Addr)(r:Option (V×It)):Prop:=∀(Q:Option Value->Shared->Prop) (E:Value->Shared->Prop),K7 C k b x c d t m s a r Q->wpAny (model C.prog C.w) x.A (pyNext (.ref a)) Q E s
theorem Bc(r:VRs C s c d){j:Nat}(h:c[j]?=none):d.toArray[j]?=none:=by rw[List.getElem?_toArray,List.getElem?_eq_none_iff,<- r.length];exact List.getElem?_eq_none_iff.mp h
theorem zD (h:Ok C k F x G H (f.hold a o) m s){j:Nat}(hl:f.adr l=some b)(i:sM o "list_iterator" #[.ref b,.int j 0])(q:j1 C (f.hold a o) s.heap l z b M n):mG C k F x G H f m s a (z[j]?.bind fun v=>some (v,.list l (j+1))):=fun Q E p=>by
 refine El (z[j]?) ?_ ?_
 ·intro e;rw[e]at p;exact wpAny_pyNext_list_end h.room.hn ⟨o,h.held.g,i.c,i.d⟩ q.i (Bc q.r e) fun J he=>p.fin _ rfl (h.unhold (t:=s.toks) he)
 ·intro v e;rw[e]at p;exact(q.r.get' _ v e).elim fun u w=>wpAny_pyNext_list_item ⟨o,h.held.g,i.c,i.d⟩ q.i (x:=u) (List.getElem?_toArray.trans w.1) fun J g he=>g.elim fun K g=>p.one _ _ K _ u rfl (h.rehold (t:=s.toks) he g.1) ⟨b,hl,g.2.1,g.2.2⟩ (w.2.sub (iA ..))
theorem zA (h:Ok C k L x M N (z.hold a o) m s){j:Nat}(hl:z.adr l=some b)(i:sM o "dict_keyiterator" #[.ref b,.int j 0,.int f.length 0,.int f.length 0])(q:jx C (z.hold a o) s.heap l f b es):mG C k L x M N z m s a (f[j]?.bind fun p=>some (.str p.1,.keys l (j+1) f.length)):=fun Q E p=>by
 obtain⟨I,d⟩:=q.at;have A:s.heap.IsKeyIter a b j I.length f.length:=⟨o,h.held.g,i.c,by rw[d.l];exact i.d⟩;refine El (f[j]?) ?_ ?_
 ·intro e;rw[e]at p;exact wpAny_pyNext_dict_end h.room.hn A d.d (List.getElem?_eq_none_iff.mpr (d.l▸List.getElem?_eq_none_iff.mp e)) fun P he=>p.fin _ rfl (h.unhold (t:=s.toks) he)
 ·intro w e;rw[e]at p;have K:(I.map (·.1))[j]?=some (aN w.1):=by rw[d.k,uD,uD,e];rfl
  rw[uD]at K;refine(Option.map_eq_some_iff.mp K).elim fun pv z1=>z1.elim fun e1 e2=>?_;exact wpAny_pyNext_dict_item (k:=pv.1) (v:=pv.2) A d.d e1 fun key P u g he=>g.elim fun o' g=>by
   rw[e2]at u;obtain⟨t,et⟩:=CC u;rw[et];exact p.one _ _ o' _ _ rfl (h.rehold (t:=s.toks) he g.1) ⟨b,hl,g.2.1,by have:=g.2.2;rw[d.l]at this;exact this⟩ (.str _ _ (q.d.hk _ (uz e)))
theorem C7 (h:Ok C k H x I J (w.hold a o) m s)(i:HF C w D o):mG C k H x I J w m s a (D.casesOn none fun v r=>some (v,.seq r)):=fun Q E p=>by
 obtain⟨f,t,n,j,g,r,i⟩:=i;have l:s.heap.IsTuple t f.toArray:=⟨_,h.get_has (g.le (cC ..)),rfl,n,rfl⟩;cases D with
 |nil=>exact wpAny_pyNext_tuple_end h.room.hn ⟨o,h.held.g,i.c,i.d⟩ l (by
   have z:f.drop j=[]:=r;rw[List.getElem?_toArray,<- Nat.add_zero j,<- List.getElem?_drop,z];rfl) fun L he=>p.fin _ rfl (h.unhold (t:=s.toks) he)|cons v D=>
  have r0:=r;refine r.elim fun u M=>M.elim fun F N=>N.elim fun e P=>P.elim fun R U=>?_;have eu:f[j]?=some u:=by rw[<- Nat.add_zero j,<- List.getElem?_drop,e];rfl
  have e2:f.drop (j+1)=F:=by rw[<- List.drop_drop,e];rfl
  exact wpAny_pyNext_tuple_item ⟨o,h.held.g,i.c,i.d⟩ l (x:=u) (List.getElem?_toArray.trans eu) fun L y he=>y.elim fun o' y=>p.one _ _ o' _ u rfl (h.rehold (t:=s.toks) he y.1) (.inl ⟨f,t,n,j+1,g,e2▸U,y.2.1,y.2.2⟩) R
theorem C5 (h:Ok C k w x y z (u.hold a o) m s)(i:Hy A o):mG C k w x y z u m s a (A.casesOn none fun v r=>some (v,.seq r)):=fun Q E p=>by
 refine i.elim fun b D=>D.elim fun t F=>F.elim fun j G=>G.elim fun e i=>?_;refine El (b[j]?) ?_ ?_
 ·intro f;rw[e,List.drop_eq_nil_of_le (List.getElem?_eq_none_iff.mp f)]at p;exact KBw.next_end h.room.hn ⟨o,h.held.g,i.c,i.d⟩ (List.getElem?_toArray.trans f) fun H he=>p.fin _ rfl (h.unhold (t:=s.toks) he)
 ·intro c f;obtain⟨q,hc⟩:=List.getElem?_eq_some_iff.mp f;rw[e,List.drop_eq_getElem_cons q,hc]at p;exact KBw.next_item ⟨o,h.held.g,i.c,i.d⟩ (List.getElem?_toArray.trans f) fun H g he=>g.elim fun I g=>p.one _ _ I _ _ rfl (h.rehold (t:=s.toks+1) he g.1) (.inr ⟨b,t,j+1,rfl,g.2.1,g.2.2⟩) (.int _ _)
theorem C6 (h:Ok C k r x u v (w.hold a o) m s){n:Nat}(i:o=Ir y n c):mG C k r x u v w m s a (n.casesOn none fun n=>some (.int y,.rng (y+c) n c)):=fun Q E p=>by
 have l:=h.held.g;rw[i]at l;cases n with
 |zero=>exact wpAny_pyNext_range_end h.room.hn l (by decide) fun z he=>p.fin _ rfl (h.unhold (t:=s.toks) he)|succ n=>
  refine wpAny_pyNext_range_item l (Int.natCast_pos.mpr (jv n)) fun z A he=>p.one _ _ _ _ _ rfl (h.rehold (t:=s.toks+1) he A) ?_ (.int _ _);rw[show((n+1:Nat):Int)-1=(n:Int) by lia];exact rfl
theorem kN (h:Ok C k p x t g (w.hold a o) m s)(d:uO C w i o):av (next g i) (mG C k p x t g w m s a):=by cases i with
 |list l j=>exact d.elim fun b d=>nl (Q:=fun u r=>u= .ref b->mG C k p x t g w m s a r) h (.loc d.1) (fun A B us n hv q=>ac fun e=>zD h d.1 d.2 (mX e▸q))|>.mono fun r q=>q rfl|keys l j n=>
  refine d.elim fun b d=>al fun D hl=>?_;cases D with
  |dictS F=>exact aB fun z=>ac (dB (P:=fun u=>u= .ref b->mG C k p x t g w m s a _) h hl (.loc d.1) (fun B es q e=>z▸zA h d.1 (z▸d.2) (mX e▸q)) rfl)|_=>exact af
 |seq A=>exact ac (d.elim (C7 h) (C5 h))|rng y n c=>exact ac (C6 h d)
section
variable (C:Cx) (k:Nat) (fi:FI) (mf:MF) (ms:MS)
def lq (t:Expr)(v:V)(b:MF)(c:MS):Prop:=∀x z m s u,Ok C k fi x mf ms z m s->VR C z v u->∀(Q:Unit->Shared->Prop) (E:Value->Shared->Prop),(∀a f d,z.le a->Ok C k fi x b c a f d->Q () d)->wpAny (model C.prog C.w) x.A (assign t (x.env fi) u) Q E s
def vc (b:Expr)(d:List Stmt)(i:It)(f:Fl)(g:MF)(h:MS):Prop:=∀x u m s a o,Ok C k fi x mf ms (u.hold a o) m s->uO C u i o->∀R:Result->Shared->Prop,(∀c p j l,u.le c->Ok C k fi x g h c p j->IB C c f l->R (.ok l) j)->codeAny (model C.prog C.w) x.A (.forLoop b (.ref a) d [] (x.env fi)) R s
end
theorem tH{s:Shared} (h:wpAny (model a w) A (pyNext it) (fun r j=>match r with
   |none=>R (.ok .next) j|some v=>wpAny (model a w) A (letOwnedTupleGo b it v) (fun _ k=>wpAny (model a w) A (assign b c v) (fun _ s₂=>wpAny (model a w) A (execs l c) (fun f g=>match f with
     | .next| .cont=>codeAny (model a w) A (.forLoop b it l [] c) R g| .brk=>R (.ok .next) g| .ret v=>R (.ok (.ret v)) g) (notedBy (model a w) A c fun e s'=>R (.error e) s') s₂) (notedBy (model a w) A c fun e s'=>R (.error e) s') k) (notedBy (model a w) A c fun e s'=>R (.error e) s') j) (notedBy (model a w) A c fun e s'=>R (.error e) s') s):codeAny (model a w) A (.forLoop b it l [] c) R s:=by
 refine qG ?_;show wpAny _ A ((forTurn b it l [] c).onRaise (fun x=>do noteFrame x c;theTreesLotGoes x)) _ _ s;refine wpAny_noted ?_;simp only[forTurn];refine aM (mB (aM (wpAny_onRaise (e8 h (fun r j h₁=>?_) fun _ _ h'=>mB h'))));cases r with|none=>exact aX ⟨rfl,codeAny_block (wpAny_execs_nil h₁)⟩|some v=>
  refine aM (e8 h₁ (fun _ k h₁'=>aM (e8 h₁' (fun _ s₂ h₂=>aM (e8 h₂ (fun f g i=>?_) fun _ _ h'=>h')) fun _ _ h'=>h')) fun _ _ h'=>h');cases f with
  |next=>exact aX ⟨rfl,i⟩|cont=>exact aX ⟨rfl,i⟩|brk=>exact aX i|ret v=>exact aX i
theorem oE(h:ay d=true)(v:Value):foldedSetIterable d e v=pure v:=by cases d with|Set a b c=>exact(qr h _ _ _ rfl).elim|_=>rfl
theorem HV{E:Value->Shared->Prop}{s:Shared}{b:Addr}{vs:Option Value}(c:s.heap.get? a=some o)(hc:o.cls= .type n)(d:["enumerate","zip","dict_itemiterator","dict_reverseitemiterator","odict_iterator","itertools.zip_longest","itertools.pairwise"].contains n=false)(q:Q () s):wpAny M A (do
  let o <- load a match o.cls,o.data with
  | .type n,.fields vs=>
   if(["enumerate","zip","dict_itemiterator","dict_reverseitemiterator","odict_iterator","itertools.zip_longest","itertools.pairwise"].contains n&&vs[0]?==some (rawInt b))=true then do
    rule "for.unpacks-the-owned-tuple"
    updateField a 0 .none else pure ()|_,_=>pure ()) Q E s:=by
 refine aM (wpAny_load c ?_);rw[hc];cases o.data with
 |fields vs=>
  show wpAny M A (if(["enumerate","zip","dict_itemiterator","dict_reverseitemiterator","odict_iterator","itertools.zip_longest","itertools.pairwise"].contains n&&vs[0]?==some (rawInt b))=true then _ else _) _ _ _;rw[d];exact aX q|_=>exact aX q
theorem Jv(h:Ok C k l x p r (t.hold a o) m s)(f:uO C t i o){E:Value->Shared->Prop}(q:Q () s):wpAny (model C.prog C.w) x.A (letOwnedTupleGo b (.ref a) v) Q E s:=f.cls.elim fun n c=>by
 cases b with
 |Tuple es k p=>
  cases v with
  |ref z=>exact HV (vs:=none) h.held.g c.1 c.2 q
  |_=>exact aX q
 |List es k=>
  cases v with
  |ref z=>exact HV (vs:=none) h.held.g c.1 c.2 q
  |_=>exact aX q
 |_=>exact aX q
theorem AY(h:next d i=some none):vc C k p j d b f i .next j d:=fun x w m s a o l n R q=>tH (kN l n _ h _ _ ⟨fun v r t g u e=>(nomatch e),fun g _ c=>q w m g _ (.refl _) c rfl⟩)
theorem pW(h:next ms i=some (some (v,i')))(h1:lq C k t mf ms b v G H)(h2:dZ C k t G H g (.ok f) I J) (hf:∀x N m s a o d,Ok C k t x I J (N.hold a o) m s->uO C N i' o->IB C N f d->∀R:Result->Shared->Prop,(∀c K p d,N.le c->Ok C k t x L M c K p->IB C c f' d->R (.ok d) p)->match d with| .next| .cont=>codeAny (model C.prog C.w) x.A (.forLoop b (.ref a) g [] (x.env t)) R s| .brk=>R (.ok .next) s| .ret v=>R (.ok (.ret v)) s):vc C k t mf ms b g i f' L M:=fun x N m s a o n io R q=>tH (kN n io _ h _ _ ⟨fun w j o' p u e y z r=>by
  have ew:v=w:=congrArg Prod.fst (e9 e);have ej:i'=j:=congrArg Prod.snd (e9 e);refine Jv y z (h1 x _ _ _ u y (ew▸r.sub (cC ..)) _ _ fun σ1 m1 s1 l1 P=>h2.go P fun σ2 m2 s2 d l2 D Q=>?_);obtain⟨U,et,F⟩:=kH (l1.trans l2);rw[et]at D Q;exact hf x U m2 s2 a o' d D (ej▸z.le F.sub) (by cases f with|ret v=>exact Q.imp fun u=>fo (VR.sub (iA ..))|_=>exact Q) R fun c K p d l n r=>q c K p d (F.trans l) n r,fun p e=>(nomatch e)⟩)
theorem pV(h:next u i=some (some (v,y)))(z:lq C k d A u b v g j)(B:dZ C k d g j c (.ok f) l n)(hf:f= .next\/f= .cont)(D:vc C k d l n b c y F p t):vc C k d A u b c i F p t:=pW h z B fun x K m s a o G w H r R q=>by
  have next:=D x K m s a o w H R q;rcases hf with e|e<;>rw[e]at r<;>(rw[show G=_ from r];exact next)
theorem AZ(h:next z i=some (some (v,I)))(D:lq C k A F z b v j l)(G:dZ C k A j l c (.ok (.ret w)) p y):vc C k A F z b c i (.ret w) p y:=pW h D G fun x g m s a o H B J r R q=>by
  have d:=q g m s H (.refl _) (B.unhold (t:=s.toks) (Heap.ExtBut.refl a s.heap)) r;obtain⟨u,e,-⟩:=r;rw[e]at d ⊢;exact d
theorem A1 (H:KB C)(A:ay t=true)(B:ax C k w y D t (.ok v) c)(F:aA c v=some i)(G:vc C k w y c b d i f e g):d3 C k w y D (.For b t d [] I) (.ok f) e g:=bO.ok fun x z m s h Q E q=>wpAny_For (B.go h fun j J Y u K n L=>xA H n L _ F _ _ fun a o M p N=>G x j J M a o p N _ fun r P R U l=>q r P R U (K.trans l)) (oE A)
theorem A3(g:aO n=true)(hk:b.scope.names.lookup n=some .local):lq C k b c d (.Name n p) v (c.set (aL n) v) d:=fun x t m s u h r Q E q=>wpAny_assign_Name (g8 h g hk r fun f i=>q t f i (.refl _))
theorem yP(g:aO n=true)(hk:j.scope.names.lookup n=some .cell)(hl:o.cells.lookup (aL n)=some l)(I:A[l]?=some (.cell w)):lq C k j o A (.Name n p) v o (A.set l (.cell (some v))):=fun x c m s u h r Q E q=>by
 obtain⟨a,D,K,F,b,y,d,-⟩:=th h g hl I;refine wpAny_assign_Name (wpAny_storeName_cell (env:=x.env j) h.kd hk K ⟨D,h.get_of b,d⟩ fun P f L=>f.elim fun G f=>?_);have H:iM.adr (.cell a G)=iM.adr (.cell a D):=rfl;have p:=rS (t:=s.toks) (om:=.cell (some v)) h F rfl rfl H L f.1 ⟨a,G,rfl,_,f.2,fun z e=>⟨u,rfl,e9 e▸r.sub (iz F H)⟩⟩;exact q _ _ _ p.1 p.2
theorem yO (H:KB C)(g:aO f=true)(w:ax C k y n z o (.ok A) b)(e:fX b A (aL f) v=some c):lq C k y n z (.Attribute o f p) v n c:=fun x a m s u h r Q E q=>by
 rw[assign_Attribute];exact aM (iQ (w.go h fun B L M N t d D=>aM (mB (aM (iQ (wq H d g D (r.sub t.sub) _ e _ _ fun j F G _ I l _=>wpAny_release (q j F G (t.trans I) l)))))))
theorem A4 (H:KB C)(A:ax C k y c B o (.ok F) d)(G:ax C k y c d i (.ok I) f)(e:fY f F I v=some g):lq C k y c B (.Subscript o i p) v c g:=fun x b m s u h r Q E q=>by
 rw[assign_Subscript];exact aM (iQ (A.go h fun K m1 s1 uo z j L=>aM (iQ (G.go j fun M m2 s2 ui l n N=>aM (mB (aM (iQ (wr n (L.sub l.sub) N (r.sub (z.trans l).sub) _ e _ _ fun t P R _ U w _=>wpAny_release (q t P R ((z.trans l).trans U) w)))))))))
def s8 (C:Cx)(k:Nat)(b:FI)(j:MF)(l:MS)(e:List Expr)(f:List V)(c:MF)(d:MS):Prop:=∀x u m s g,Ok C k b x j l u m s->VRs C u f g->e.length=f.length/\∀(Q:Unit->Shared->Prop) (E:Value->Shared->Prop),(∀a n h,u.le a->Ok C k b x c d a n h->Q () h)->wpAny (model C.prog C.w) x.A (assignInOrder (e.map fun t=>assign t (x.env b)) g) Q E s
theorem yQ:s8 C k d a b [] [] a b:=fun x t m s c h r=>⟨rfl,fun Q E q=>(show c=[]from r)▸aX (q t m s (.refl _) h)⟩
theorem vh(hl:n.length=o.length)(y:lq C k p z A t v b c)(B:s8 C k p b c n o d f):s8 C k p z A (t::n) (v::o) d f:=fun x j m s M h r=>⟨congrArg (· +1) hl,fun Q E q=>by
 refine r.elim fun u D=>D.elim fun N F=>F.elim fun e G=>G.elim fun a r=>?_;rw[e];exact assignInOrder_cons (y x j m s _ h a _ _ fun g H I w i=>(B x g H I _ i (r.sub w.sub)).2 _ _ fun l J K L=>q l J K (w.trans L))⟩
theorem iY(a:List Expr):a.all ay=true->assignEach a env=a.map fun t=>(false,assign t env):=by induction a with
 |nil=>exact fun _=>rfl|cons t r b=>
  intro h;rw[iE,<- b (fw h).2];have:=(fw h).1;cases t with|Starred y p=>exact(oJ this _ _ rfl).elim|_=>rfl
theorem ze (b:List Expr)(a:Env):(b.map fun t=>(false,assign t a)).findIdx? (·.1)=none:=by rw[List.findIdx?_eq_none_iff];exact fun p d=>(zF d).elim fun t e=>e.2▸rfl
theorem vg(A:g.all ay=true)(hr:s8 C k n B D g F v w):lq C k n B D (.Tuple g G p) (.tup F) v w:=fun x d m s u h r Q E q=>r.elim fun y t=>t.1.at h (P:=fun u=>wpAny _ _ (assign (.Tuple g G p) (x.env n) u) Q E s) fun a i=>by
 have he:=iY (env:=x.env n) g A;have hl:=(hr x d m s y h t.2).1;refine wpAny_assign_Tuple h.room.hn i (by rw[he,b0,hl,t.2.length];rfl) (by rw[he];exact ze g _) fun z hx=>?_;rw[he,fQ];exact(hr x d m _ y (h.grow (h':=z) s.toks fun b o e=>hx b o (eo (jL e)) e) t.2).2 Q E q
theorem wT.env(h:wT d.scope e t p b)(x:Fx):swapsWith e t p.line (x.env d)=pure b:=(show swapsWith e t p.line (x.env d)=swapsWith e t p.line (vF d.scope)from rfl).trans h
theorem Eo.env(h:Eo b.scope t e r)(x:Fx):swappedStores [t] e (x.env b)=pure r:=(show swappedStores [t] e (x.env b)=swappedStores [t] e (vF b.scope)from rfl).trans h
theorem nM(h:ay t=true):(assignEach [t] a).map (·.2)=[assign t a]:=by rw[iY [t] (by rw[List.all_cons,h];rfl)];rfl
theorem qV(z:ax C k a w A e (.ok v) c)(B:lq C k a w c t v d f)(g:ay t=true)(D:wT a.scope e (some t) i false)(j:Eo a.scope t e none):d3 C k a w A (.Assign [t] e i) (.ok .next) d f:=bO.ok fun x r m s h Q E q=>wpAny_Assign_stores (z.go h fun l F G u H n I=>by
  rw[nM g];exact B x l F G u n I _ _ fun o J K L p=>q o J K _ (H.trans L) p rfl) (D.env x) (j.env x)
theorem qU(j:ax C k f g l e (.error z) c)(n:∀x:Fx,swapsWithSole [t] e d.line (x.env f)=pure false):d3 C k f g l (.Assign [t] e d) (.error z) g c:=bO.err fun x u m s h Q E q=>by
 rw[PySem.exec_Assign_arm];refine aM (mB ?_);rw[n x];refine aM (aX ?_);rw[aH (by decide)];exact aM (j.goE h q)
theorem jX(l:List (Nat×V)):∀b:List (Nat×V),(l.map (·.1)).Nodup->(fN l b).lookup y=(l.lookup y).or (b.lookup y):=by induction l with
 |nil=>exact fun _ _=>rfl|cons p r d=>
  intro b h;have h:=List.nodup_cons.mp h;show(fN r (az p.1 p.2 b)).lookup y=_;rw[d _ h.2,jg,gZ];by_cases q:y=p.1
  ·rw[q,jK,fL r h.1,au rfl];rfl
  ·rw[jt q,aH q]
theorem oR(l:List (Nat×V))(c:List (Nat×V))(h:(l.map (·.1)).Nodup):(fN l.reverse c).lookup y=(fN l c).lookup y:=by rw[jX _ _ h,jX _ _ (by rw[List.map_reverse];exact(List.reverse_perm _).nodup_iff.mpr h),oy y l h]
theorem Ok.vars_ext(h:Ok C k l x c o t m s)(e:∀y,vs.lookup y=c.vars.lookup y):Ok C k l x ⟨vs,c.cells⟩ o t m s:=⟨h.F,h.N,h.nd,h.st,h.hfr,h.kd,h.fok,h.room,h.gens,h.os,fun n v g q=>h.vars n v g ((e _).symm.trans q),h.cells,h.len,h.reps,h.tabs⟩
theorem Bl{E:Value->Shared->Prop}(r:VRs C g e j):∀{ns:List Str} {b:MF} {m:Str->Option Value} {s:Shared},Ok C k c x b o g m s->(∀n∈ns,aO n=true/\c.scope.names.lookup n=some .local)->ns.length=e.length->(∀l f,Ok C k c x ⟨fN ((ns.map aL).zip e) b.vars,b.cells⟩ o g l f->Q () f)->wpAny (model C.prog C.w) x.A (assignInOrder (ns.map fun n=>bindName (x.env c) n) j) Q E s:=VRs.ind (P:=fun e j=>∀{ns:List Str} {b:MF} {m:Str->Option Value} {s:Shared},Ok C k c x b o g m s->(∀n∈ns,aO n=true/\c.scope.names.lookup n=some .local)->ns.length=e.length->(∀l f,Ok C k c x ⟨fN ((ns.map aL).zip e) b.vars,b.cells⟩ o g l f->Q () f)->wpAny (model C.prog C.w) x.A (assignInOrder (ns.map fun n=>bindName (x.env c) n) j) Q E s) (fun {ns b m s} h _ hl q=>by
   rw[Ak hl]at q ⊢;exact aX (q m s h)) (fun v u e j a r z {ns b m s} h t hl q=>by
   cases ns with|nil=>exact nomatch hl|cons n ns=>exact assignInOrder_cons (wpAny_bindName (g8 h (t n (.head _)).1 (t n (.head _)).2 a fun l f B=>z B (fun n D=>t n (.tail _ D)) (Nat.succ.inj hl) q))) _ _ r
theorem VRs.reverse(h:VRs C s c d):VRs C s c.reverse d.reverse:=VRs.ind (P:=fun c d=>VRs C s c.reverse d.reverse) .nil (fun v u c d a r f=>by rw[uK,uK];exact f.append (.cons a .nil)) _ _ h
theorem y6{f:List Str}(g:∀n∈f,aO n=true)(h:f.Nodup):(f.map aL).Nodup:=by rw[List.nodup_iff_pairwise_ne,List.pairwise_map];exact List.Pairwise.imp_of_mem (fun {a b} j hb (k:a≠b) he=>k (fV (g a j) (g b hb) he)) h
theorem Ae (e:Expr)(c:List Expr)(d:Nat)(f:Pos)(a:Nat)(b:Env):swapsWithSole [.Tuple c d f] e a b=pure false:=by cases e<;>rfl
theorem qW(h1:ax C k fi H ms e (.ok (.tup v)) ms1)(hl:v.length=p.length)(hg:∀n∈p,aO n=true/\fi.scope.names.lookup n=some .local)(K:p.Nodup) (L:Eo fi.scope (.Tuple ts kk D) e (some p)):d3 C k fi H ms (.Assign [.Tuple ts kk D] e pos) (.ok .next) ⟨fN ((p.map aL).zip v) H.vars,H.cells⟩ ms1:=bO.ok fun x w m s h Q E q=>Assign_Tuple_swapped (h1.go h fun N m1 s1 u l1 z r1=>r1.elim fun us t=>t.1.at z (P:=fun u=>wpAny _ _ (unpackItems u p.length none) _ E s1) fun a i=>by
  rw[<- hl,t.2.length,<- wH];have hz:(p.reverse.map aL).zip v.reverse=((p.map aL).zip v).reverse:=by rw[List.map_reverse,List.zip_eq_zipWith,List.zip_eq_zipWith,List.reverse_zipWith (by rw[b0,hl])]
  have F:(((p.map aL).zip v).map (·.1)).Nodup:=by rw[uN _ _ (by rw[b0,hl])];exact y6 (fun n J=>(hg n J).1) K
  refine unpackItems_tuple z.room.hn i fun h' hx=>Bl (ns:=p.reverse) t.2.reverse (z.grow (h':=h') s1.toks fun b o e=>hx b o (eo (jL e)) e) (fun n J=>hg n (List.mem_reverse.mp J)) (by rw[List.length_reverse,List.length_reverse,hl]) fun m' s' ok'=>q N m' s' _ l1 (ok'.vars_ext (vs:=fN ((p.map aL).zip v) H.vars) fun y=>?_) rfl;rw[hz];exact(oR _ _ F).symm) (Ae ..) (L.env x)
theorem eQ.perm(h:eQ C k A m t s)(p:u.news.Perm t.news)(hf:u.frs=t.frs)(hr:u.reps=t.reps)(f:u.imm=t.imm)(n:u.tabs=t.tabs):eQ C k A m u s:=⟨h.keep,h.sz,fun q hq=>h.news q (p.mem_iff.mp hq),(p.map (·.1)).nodup_iff.mpr h.nd,by rw[hf];exact h.st,by rw[hf];exact h.fok,h.room,h.gens,h.os,by rw[hr];exact h.len,fun l o r w x=>(h.reps l o r w (hr▸x)).le ⟨fun l a e=>by unfold Sg.adr at e ⊢;rw[hr];exact e,fun q hq=>by rw[f];exact hq⟩,h.tabs.of n (by rw[f];exact fun _ q=>q)⟩
theorem xv (s:Sg)(c:FI)(x:Fx)(o:Obj)(a:Addr)(b:Obj):((s.hold a b).up c x o).news.Perm ((s.up c x o).hold a b).news:=(f6 _ c x o).trans (((bt s a b).cons _).trans (.trans (.swap ..) ((((f6 s c x o).symm).cons _).trans (bt (s.up c x o) a b).symm)))
theorem vV (s:Sg)(d:FI)(x:Fx)(o:Obj)(a:Addr)(b:Obj):((s.hold a b).up d x o).frs=((s.up d x o).hold a b).frs/\((s.hold a b).up d x o).reps=((s.up d x o).hold a b).reps/\((s.hold a b).up d x o).imm=((s.up d x o).hold a b).imm/\((s.hold a b).up d x o).tabs=((s.up d x o).hold a b).tabs:=by unfold Sg.up;split<;>exact⟨rfl,rfl,rfl,rfl⟩
theorem eQ.hold_swap{t:Sg}:eQ C k A f ((t.hold a b).up d x o) s ↔ eQ C k A f ((t.up d x o).hold a b) s:=
 have e:=vV t d x o a b
 ⟨fun h=>h.perm (xv ..).symm e.1.symm e.2.1.symm e.2.2.1.symm e.2.2.2.symm,fun h=>h.perm (xv ..) e.1 e.2.1 e.2.2.1 e.2.2.2⟩
theorem F9(h:Ok C k p x r u (G.hold a o) m s)(f:uO C G i o){E:Value->Shared->Prop}(q:Q (.ref a) s):wpAny (model C.prog C.w) x.A (pyIter (.ref a)) Q E s:=by have e:=h.held.g;cases i with|list l j=>exact f.elim fun b i=>wpAny_pyIter_listiter ⟨o,e,i.2.c,i.2.d⟩ q|keys l j n=>exact f.elim fun b i=>wpAny_pyIter_keyiter ⟨o,e,i.2.c,i.2.d⟩ q|seq v=>exact f.elim (fun i=>i.elim fun z i=>i.elim fun t i=>i.elim fun n i=>i.elim fun j i=>wpAny_pyIter_tupleiter ⟨o,e,i.2.2.c,i.2.2.d⟩ q) fun i=>i.elim fun b i=>i.elim fun t i=>i.elim fun j i=>KBw.pyIter_self ⟨o,e,i.2.c,i.2.d⟩ q|rng y n c=>rw[show o=_ from f]at e;exact wpAny_pyIter_rangeiter e q
noncomputable abbrev q9 (b:FI)(a:Scope):FI:=⟨bo a b.scope,b.qual,none,b.cdv,true⟩
section
variable (C:Cx) (k:Nat) (fi:FI) (mf:MF) (ms:MS)
def gx (e:Expr)(l:Nat)(i:It)(f:MS):Prop:=∀x u m s a o c,Ok C k fi x mf ms (u.hold a o) m s->uO C u i o->u.adr l=some c->∀R:Result->Shared->Prop,(∀d p g j,u.le d->Ok C k fi x g f d p j->R (.ok .next) j)->codeAny (model C.prog C.w) x.A (.compLoop e 0 (.ref a) (.ref c) (x.env fi)) R s
def mH (a:List Expr)(b:Bool)(d:MS):Prop:=(a=[]/\b=true/\d=ms)\/∃c,a=[c]/\cy C k fi mf ms c (.ok b) d
end
noncomputable abbrev nC (d:List Expr)(b:Env):Sem Bool:=forIn d true fun c r=>if r=true then do let e <- isTrue c b (eval c b);pure (ForInStep.yield e)else pure (ForInStep.yield r)
abbrev ft (a:Program)(w:World)(A:Around)(b:Env)(R:Result->Shared->Prop):Value->Shared->Prop:=notedBy (model a w) A b fun e d=>R (.error e) d
theorem lW{aA:Expr}(ht:∀v,letOwnedTupleGo b it v=pure ()) (h:wpAny (model a w) A (pyNext it) (fun r g=>r.elim (R (.ok .next) g) fun v=>wpAny (model a w) A (assign b d v) (fun _ n=>wpAny (model a w) A (nC j d) (fun ok i=>if ok=true then wpAny (model a w) A (eval k d) (fun x o=>wpAny (model a w) A (call (.builtin "list.append") [l,x]) (fun _ p=>codeAny (model a w) A (.compLoop (.ListComp k [⟨b,aA,j,0⟩] f u) 0 it l d) R p) (ft a w A d R) o) (ft a w A d R) i else codeAny (model a w) A (.compLoop (.ListComp k [⟨b,aA,j,0⟩] f u) 0 it l d) R i) (ft a w A d R) n) (ft a w A d R) g) (ft a w A d R) s):codeAny (model a w) A (.compLoop (.ListComp k [⟨b,aA,j,0⟩] f u) 0 it l d) R s:=by
 refine qG ?_;show wpAny _ A ((compTurn (.ListComp k [⟨b,aA,j,0⟩] f u) 0 it l d).onRaise (fun x=>do noteFrame x d;theTreesLotGoes x)) _ _ s;refine wpAny_noted ?_;rw[compTurn_list];refine aM (mB (aM (e8 h (fun r g q=>?_) fun _ _ m=>m)));cases r with
 |none=>exact aX q|some v=>
  refine aM (iR (ht v) (aM (e8 q (fun _ n h₂=>aM (e8 h₂ (fun ok i t=>?_) fun _ _ m=>m)) fun _ _ m=>m)));cases ok with|false=>exact aX ⟨rfl,t⟩|true=>exact aM (aM (e8 t (fun x o h₄=>aM (e8 h₄ (fun _ p h₅=>aX (aX ⟨rfl,h₅⟩)) fun _ _ m=>m)) fun _ _ m=>m))
theorem lJ{aA:Expr}(ht:∀v,letOwnedTupleGo b it v=pure ()) (h:wpAny (model a w) A (pyNext it) (fun r f=>r.elim (R (.ok .next) f) fun v=>wpAny (model a w) A (assign b c v) (fun _ k=>wpAny (model a w) A (nC j c) (fun ok g=>if ok=true then wpAny (model a w) A (eval kx c) (fun kv l=>wpAny (model a w) A (eval vx c) (fun vv m=>wpAny (model a w) A (dictSet D kv vv) (fun _ n=>codeAny (model a w) A (.compLoop (.DictComp kx vx [⟨b,aA,j,0⟩] e q) 0 it (.ref D) c) R n) (ft a w A c R) m) (ft a w A c R) l) (ft a w A c R) g else codeAny (model a w) A (.compLoop (.DictComp kx vx [⟨b,aA,j,0⟩] e q) 0 it (.ref D) c) R g) (ft a w A c R) k) (ft a w A c R) f) (ft a w A c R) s):codeAny (model a w) A (.compLoop (.DictComp kx vx [⟨b,aA,j,0⟩] e q) 0 it (.ref D) c) R s:=by
 refine qG ?_;show wpAny _ A ((compTurn (.DictComp kx vx [⟨b,aA,j,0⟩] e q) 0 it (.ref D) c).onRaise (fun x=>do noteFrame x c;theTreesLotGoes x)) _ _ s;refine wpAny_noted ?_;rw[compTurn_dict];refine aM (mB (aM (e8 h (fun r f o=>?_) fun _ _ i=>i)));cases r with
 |none=>exact aX o|some v=>
  refine aM (iR (ht v) (aM (e8 o (fun _ k h₂=>aM (e8 h₂ (fun ok g p=>?_) fun _ _ i=>i)) fun _ _ i=>i)));cases ok with|false=>exact aX ⟨rfl,p⟩|true=>exact aM (aM (e8 p (fun kv l h₄=>aM (iQ (e8 h₄ (fun vv m h₅=>aM (mB (iQ (e8 h₅ (fun _ n h₆=>aX ⟨rfl,h₆⟩) fun _ _ i=>i)))) fun _ _ i=>i))) fun _ _ i=>i))
theorem mH.go(h:mH C k g p y i b j)(t:Ok C k g x p y u m s){E:Value->Shared->Prop} (q:∀d n f,u.le d->Ok C k g x p j d n f->Q b f):wpAny (model C.prog C.w) x.A (nC i (x.env g)) Q E s:=by
 rcases h with ⟨B,D,F⟩|⟨c,e,h⟩
 ·rw[D,F]at q;rw[B];exact wpAny_tests_nil (q u m s (.refl _) t)
 ·rw[e];exact wpAny_tests_one (h.go t fun d n f a l o r=>by
   rw[show a=b from r];exact q d n f l o)
theorem sZ{aA:Expr}(h:next d i=some none):gx C k A j d (.ListComp n [⟨.Name y B,aA,p,0⟩] c r) l i d:=fun x b m s a o t w z D R q=>lW (fun v=>rfl) (kN w z _ h _ _ ⟨fun v F G g u e=>(nomatch e),fun g _=>q b m j g (.refl _)⟩)
theorem sY{aA:Expr}(h:next d i=some none):gx C k z j d (.DictComp A B [⟨.Name y D,aA,n,0⟩] c p) l i d:=fun x b m s a o r t w F R q=>lJ (fun v=>rfl) (kN t w _ h _ _ ⟨fun v G H g u e=>(nomatch e),fun g _=>q b m j g (.refl _)⟩)
theorem nD(g:aO y=true)(hk:n.scope.names.lookup y=some .local)(h:next ms i=some (some (v,i')))(h1:mH C k n (mf.set (aL y) v) ms B b D)(ok:Ok C k n x mf ms (d.hold a o) m s)(io:uO C d i o)(ad:d.adr l=some F) {K:Bool->Shared->Prop}{E:Value->Shared->Prop}(hQ:∀u c,wpAny (model C.prog C.w) x.A (assign (.Name y yp) (x.env n) u) (fun _ t=>wpAny (model C.prog C.w) x.A (nC B (x.env n)) K E2 t) E1 c->Q (some u) c) (q:∀p m' c z,d.le p->Ok C k n x (mf.set (aL y) v) D (p.hold a z) m' c->uO C p i' z->p.adr l=some F->K b c):wpAny (model C.prog C.w) x.A (pyNext (.ref a)) Q E s:=kN ok io _ h _ _ ⟨fun w j z c u e H I r=>by
  have ew:v=w:=congrArg Prod.fst (e9 e);have ej:i'=j:=congrArg Prod.snd (e9 e);rw[<- ew]at r;refine hQ u c (wpAny_assign_Name (g8 H g hk (r.sub (cC ..)) fun m1 s1 M=>h1.go M fun σ2 m2 s2 l2 ok2=>?_));obtain⟨τ2,et,f⟩:=kH l2;exact q τ2 m2 s2 z f (et▸ok2) (ej▸I.le f.sub) (f.adr _ _ ad),fun c e=>(nomatch e)⟩
theorem qR{aA:Expr}(g:aO y=true)(hk:f.scope.names.lookup y=some .local)(h:next G i=some (some (v,J)))(K:mH C k f (H.set (aL y) v) G d false n) (L:gx C k f (H.set (aL y) v) n (.ListComp p [⟨.Name y M,aA,d,0⟩] c r) l J t):gx C k f H G (.ListComp p [⟨.Name y M,aA,d,0⟩] c r) l i t:=fun x b m s a o w N P Q R q=>lW (fun v=>rfl) (nD g hk h K N P Q (fun u I h=>h) fun j U X Y Z z A B=>by
  rw[aH (by decide)];exact L x j U X a Y w z A B R fun D m' F I l=>q D m' F I (Z.trans l))
theorem qQ{aA:Expr}(g:aO y=true)(hk:f.scope.names.lookup y=some .local)(h:next F i=some (some (v,I)))(J:mH C k f (G.set (aL y) v) F d false n) (K:gx C k f (G.set (aL y) v) n (.DictComp L M [⟨.Name y N,aA,d,0⟩] c p) l I r):gx C k f G F (.DictComp L M [⟨.Name y N,aA,d,0⟩] c p) l i r:=fun x b m s a o t P Q U R q=>lJ (fun v=>rfl) (nD g hk h J P Q U (fun u H h=>h) fun j X Y Z le w z A=>by
  rw[aH (by decide)];exact K x j X Y a Z t w z A R fun B m' D H l=>q B m' D H (le.trans l))
theorem qT{aA:Expr}(g:aO y=true)(hk:D.scope.names.lookup y=some .local)(h:next Y i=some (some (v,i')))(h1:mH C k D (F.set (aL y) v) Y r true G) (h2:ax C k D (F.set (aL y) v) G t (.ok u) b) (hl:aC b (.loc l)=some p) (z:p.length<1000000) (h3:gx C k D (F.set (aL y) v) (b.set l (.list (p++[u]))) (.ListComp t [⟨.Name y yp,aA,r,0⟩] d H) l i' I):gx C k D F Y (.ListComp t [⟨.Name y yp,aA,r,0⟩] d H) l i I:=fun x w m s a o J Z io ad R q=>lW (fun v=>rfl) (nD g hk h h1 Z io ad (fun u s' h=>h) fun c m2 s2 o' le K L B=>by
  rw[au rfl];refine h2.go K fun σ3 m3 s3 uu l3 M r3=>?_;have e:qY b l [u]=some (.none,b.set l (.list (p++[u]))):=by show((aC b (.loc l)).bind fun p=>if p.length<1000000 then some (V.none,b.set l (.list (p++[u])))else none)=_;rw[hl];exact au z
  refine nN M (.loc (l3.adr _ _ B)) (.cons r3 .nil) _ e _ _ fun σ4 m4 s4 u4 l4 P r4=>?_;obtain⟨Q,et,n⟩:=kH (l3.trans l4);exact h3 x Q m4 s4 a o' J (et▸P) (L.le n.sub) (n.adr _ _ B) R fun U m' X s' l=>q U m' X s' ((le.trans n).trans l))
theorem qS{aA:Expr}(g:aO y=true)(hk:D.scope.names.lookup y=some .local)(h:next ms i=some (some (v,i')))(h1:mH C k D (L.set (aL y) v) ms F true M) (h2:ax C k D (L.set (aL y) v) M ka (.ok (.str U)) X) (h2':ax C k D (L.set (aL y) v) X va (.ok w) G) (hl:G[l]?=some (.dictS r)) (n:r.length<1000000) (h3:gx C k D (L.set (aL y) v) (G.set l (.dictS (ee U w r))) (.DictComp ka va [⟨.Name y yp,aA,F,0⟩] c pos) l i' ms4):gx C k D L ms (.DictComp ka va [⟨.Name y yp,aA,F,0⟩] c pos) l i ms4:=fun x b m s a o z N io ad R q=>lJ (fun v=>rfl) (nD g hk h h1 N io ad (fun u s' h=>h) fun j m2 s2 o' le ok2 io2 I=>by
  rw[au rfl];refine h2.go ok2 fun σ3 m3 s3 uk l3 ok3 r3=>h2'.go ok3 fun σ4 m4 s4 uv l4 J r4=>?_;obtain⟨t,et,hs⟩:=r3;rw[et];have K:=l3.trans l4;refine dB (P:=fun u=>u= .ref z->wpAny (model C.prog C.w) x.A (dictSet z (.str (aN U) t) uv) _ _ s4) J hl (.loc (K.adr _ _ I)) (fun aa es d e0=>?_) rfl;rw[<- mX e0];refine nf (om:=.dictS (ee U w r)) J d.e d.d.h (by rw[b0];exact n) (strKind_is ..) r4 (fun j n' es' sb hn hr=>qc d.d n hs hn hr) fun σ5 s5 l5 ok5=>?_;obtain⟨τ5,e5,B⟩:=kH (K.trans l5);rw[mX e0];exact h3 x τ5 m4 s5 a o' z (e5▸ok5) (io2.le B.sub) (B.adr _ _ I) R fun σ' m' mf' s' l=>q σ' m' mf' s' ((le.trans B).trans l))
def Made (C:Cx)(k:Nat)(d:FI)(e:MF)(c:MS)(t:Sem Value)(h:ah):Prop:=∀x u m s,Ok C k d x e c u m s->∀(Q:Value->Shared->Prop) (E:Value->Shared->Prop),(∀b f a,u.le b->Ok C k d x e (c++[h]) b m f->b.adr c.length=some a->Q (.ref a) f)->wpAny (model C.prog C.w) x.A t Q E s
theorem pR:Made C k b c d (newList []) (.list []):=fun x u m s h Q E q=>newList_N h.F h.N (fun e F N=>
  have p:=h.put_rep (t:=s.toks) (r:=.list s.heap.objs.size [] 0) (o:=.list []) F N (jF (C:=C) (h.fresh (cc _)) _) (gQ _ _) ⟨_,_,_,rfl,.nil,jw _⟩
  q _ _ _ p.1 p.2.1 p.2.2) (jw _)
theorem oB(hr:∀(u:Sg) a,iV C u g (.dict a [] 0))(h:Ok C k l x n i u m s):∃b,u.le b/\Ok C k l x n (i++[g]) b m {s with heap:=s.heap.push (dictOf [] 0),toks:=t}/\b.adr i.length=some s.heap.objs.size:=⟨_,h.put_rep (t:=t) (r:=.dict s.heap.objs.size [] 0) (o:=g) (h.F.push (dictOf [] 0)) (h.N.push h.F (dictOf [] 0)) (jF (C:=C) (h.fresh (cc _)) _) (gQ _ _) (hr _ _)⟩
theorem Ip (s:Sg)(a:Addr):iV C s (.dictS []) (.dict a [] 0):=⟨a,[],rfl,.nil,sE,jw _,fun _ h=>nomatch h⟩
theorem MI (s:Sg)(a:Addr):iV C s (.dictB []) (.dict a [] 0):=⟨a,[],0,rfl,.nil,sE,jw _⟩
theorem pQ:Made C k c d e newDict (.dictS []):=fun x u m s h Q E q=>by
 unfold newDict;refine wpAny_newObj_type ?_ (by size_fits);exact(oB (t:=s.toks) Ip h).elim fun b p=>q _ _ _ p.1 p.2.1 p.2.2
structure g5 (C:Cx)(k:Nat)(fi:FI)(mf:MF)(ms:MS)(e:Expr)(scope:Scope)(aA:Expr)(v:V)(i:It)(om:ah)(ms1 ms2:MS):Prop where
 cl:∃target ifs,clausesOf e=[⟨target,aA,ifs,0⟩]
 hn:ay aA=true
 hs:bQ scope=true
 hc:dh (gL scope) mf.cells=true
 st:∀(A:Around) (R:Result->Shared->Prop) (s:Shared) (it acc:Value) (env:Env),codeAny (model C.prog C.w) A (.compLoop e 0 it acc env) R s->wpAny (model C.prog C.w) A (pyIter it) (fun it' s'=>codeAny (model C.prog C.w) A (.compLoop e 0 it' acc env) R s') (notedBy (model C.prog C.w) A env fun x s'=>R (.error x) s') s->
   codeAny (model C.prog C.w) A (.compStart e 0 it acc env) R s
 h1:ax C k fi mf ms aA (.ok v) ms1
 hi:Internal.aA ms1 v=some i
 h2:gx C k (q9 fi scope) ⟨[],jH (gL scope) mf.cells⟩ (ms1++[om]) e ms1.length i ms2
theorem tj (H:KC C){aA:Expr}(c:g5 C k p mf ms e d aA v i om ms1 ms2)(hm:Made C k p mf ms1 z om) (h:Ok C k p x mf ms r m s){E:Value->Shared->Prop} (q:∀f m1 s' j L oL,r.le f->f.adr ms1.length=some j->Ok C k p x mf ms2 (f.hold L oL) m1 s'->(∃m',s'.heap.Ns L m')->compPost (model C.prog C.w) x.A E use Q (.ref j) L (.ok .next) s'):wpAny (model C.prog C.w) x.A (comprehension e d (x.env p) pos z false (eval aA (x.env p)) use) Q E s:=by
 obtain⟨target,ifs,hcl⟩:=c.cl;have so:=jl c.hs;refine wpAny_comprehension_free hcl (oE c.hn) (q7 h c.hs c.hc).c so.kd (fun y hy hl=>by rw[(so.n y hy).2.2,hl]) (c.h1.go h fun σ1 m1 s1 u l1 ok1 r1=>xA H.toKB ok1 r1 _ c.hi _ _ fun a o s2 ok2 io=>hm x _ m1 s2 ok2 _ _ fun σ3 s3 j l3 G ad=>?_);obtain⟨I,e3,l3'⟩:=kH l3;rw[e3]at G ad;obtain⟨oL,hoL,okc⟩:=G.toC;have t:=eQ.hold_swap.mp okc;refine wpAny_newFunctionEnv (fun y hy=>(so.n y hy).2.1) (fun y hy=>nomatch hy) (fun h₁ hns hsb=>?_) so.kd;have io3:uO C (I.up p x oL) i o:=io.le (l3'.sub.trans (mq ..));have hok:=t.enter (tk:=s3.toks+([]:List (Str×Value)).length) (x:=⟨x.A,s3.heap.objs.size,f8 x.cl d.names [],x.fr⟩) (fi:=q9 p d) (mf:=⟨[],jH (gL d) mf.cells⟩) rfl (fun b o e=>hsb.extBut b o (eo (jL e)) (gY _ e)) hns t.st (fun e=>nomatch e) so.kd t.room (fun n v g e=>nomatch e) fun n l g e=>((q7 G c.hs c.hc).l n l g e).imp fun b=>fo ((mq I p x oL).adr _ _);have J:=c.h2 _ (I.up p x oL) _ _ a o j hok io3 ((mq I p x oL).adr _ _ ad) (compPost (model C.prog C.w) x.A E use Q (.ref j) s3.heap.objs.size) fun σ' m' mf' s' le ok=>by
  obtain⟨oC,hoC,K⟩:=ok.toC;rw[Sg.up_t rfl]at K;obtain⟨τ',oL',et,hd,lp⟩:=Iv le;rw[et]at K;exact q τ' m1 s' j _ oC (l1.trans (l3'.trans lp)) (lp.adr _ _ ad) (eQ.down G hoL hd (τ':=τ'.hold s3.heap.objs.size oC) ⟨lp.adr,lp.imm⟩ (eQ.hold_swap.mpr K)) ⟨m',ok.F.ns⟩
 exact c.st _ _ _ _ _ _ J (F9 hok io3 J)
theorem BB{aA:Expr}(o:ax C k b j p aA (.error z) f)(h:Ok C k b x j p t m s){E:Value->Shared->Prop} (q:∀a r l e,t.le a->Ap C k b x j f a r z e l->E (.ref e) l):wpAny (model C.prog C.w) x.A (comprehension e g (x.env b) u c false (eval aA (x.env b)) v) Q E s:=by unfold comprehension;exact aM (o.goE h q)
theorem nU{aA:Expr}(H:KC C)(c:g5 C k f n y e b aA v i z d o)(A:Made C k f n d a z):bO C k f n y (VR C) (fun x=>comprehension e b (x.env f) pos a false (eval aA (x.env f)) none) (.ok (.loc d.length)) n o:=bO.ok fun x u m s h Q E q=>tj H c A h fun g B D F L J l G r w=>w.imp fun K w=>⟨w,fun M I=>q g B _ _ l (r.unhold (t:=D.toks) I.extBut) (.loc G)⟩
theorem yC{aA:Expr}(H:KC C)(c:g5 C k n o p (.ListComp g [⟨d,aA,h,0⟩] b e) b aA v i (.list []) j l):ax C k n o p (.ListComp g [⟨d,aA,h,0⟩] b e) (.ok (.loc j.length)) l:=nU (pos:=aA.pos) H c pR
theorem u6{aA:Expr}(H:KC C)(c:g5 C k m n o (.DictComp p q [⟨d,aA,g,0⟩] b e) b aA v i (.dictS []) j l):ax C k m n o (.DictComp p q [⟨d,aA,g,0⟩] b e) (.ok (.loc j.length)) l:=nU (pos:=aA.pos) H c pQ
theorem pj{aA:Expr}(n:ax C k f o p aA (.error z) g):ax C k f o p (.ListComp i [⟨c,aA,j,0⟩] b e) (.error z) g:=bO.err fun x t m s h Q E q=>by
 show wpAny _ _ (comprehension (.ListComp i [⟨c,aA,j,0⟩] b e) b (x.env f) aA.pos (newList []) false (eval aA (x.env f)) none) _ _ _;exact BB n h q
theorem Ef(g:aO y=true)(hk:h.scope.names.lookup y=some .local)(u:s.adr l=some i)(o:Ok C k h x v z (s.hold L oL) m1 r)(j:∃c,r.heap.Ns L c){Q:Value->Shared->Prop}{E:Value->Shared->Prop} (q:∀c a,Ok C k h x (v.set (aL y) (.loc l)) z s c a->Q .none a):wpAny (model C.prog C.w) x.A (assign (.Name y py) (x.env h) (.ref i)) (fun _ a=>∃c,a.heap.Ns L c/\∀n,Heap.SameBut L a.heap n->Q .none {a with heap:=n}) E r:=j.elim fun c j=>wpAny_assign_Name (g8 o g hk (.loc u) fun H I e=>⟨c,oF j o.held.g e.held.g rfl,fun n J=>q H _ (e.unhold (t:=I.toks) J.extBut)⟩)
theorem qa{aA:Expr}(H:KC C)(g:aO y=true)(hk:b.scope.names.lookup y=some .local)(c:g5 C k b r D e a aA v i F f t)(G:Made C k b r f d F)(u:wT b.scope e (some (.Name y w)) j true) (he:∀x:Fx,evalThenUse e (x.env b) (assign (.Name y w) (x.env b))=(do let _ <- comprehension e a (x.env b) pos d false (eval aA (x.env b)) (some (assign (.Name y w) (x.env b))))):d3 C k b r D (.Assign [.Name y w] e j) (.ok .next) (r.set (aL y) (.loc f.length)) t:=bO.ok fun x p m s h Q E q=>by
 rw[exec_Assign_Name_used _ _ _ _ (u.env x),he];exact aM (mB (aM (aM (e8 (tj (Q:=fun _ n=>Q .next n) (E:=E) H c G h fun K m1 n acc L oL l ad z ns=>Ef (Q:=fun _ n=>Q .next n) g hk ad z ns fun m' A B=>q K m' A _ l B rfl) (fun _ n hq=>aX (aX hq)) fun _ _ e=>e))))
theorem nJ{aA:Expr}(H:KC C)(g:aO y=true)(hk:o.scope.names.lookup y=some .local)(c:g5 C k o s u (.ListComp f [⟨d,aA,h,0⟩] a e) a aA v i (.list []) p q)(r:wT o.scope (.ListComp f [⟨d,aA,h,0⟩] a e) (some (.Name y w)) l true):d3 C k o s u (.Assign [.Name y w] (.ListComp f [⟨d,aA,h,0⟩] a e) l) (.ok .next) (s.set (aL y) (.loc p.length)) q:=qa (pos:=aA.pos) H g hk c pR r fun x=>rfl
theorem mQ{aA:Expr}(H:KC C)(g:aO y=true)(hk:n.scope.names.lookup y=some .local)(c:g5 C k n s w (.DictComp t u [⟨d,aA,f,0⟩] a e) a aA v i (.dictS []) p q)(r:wT n.scope (.DictComp t u [⟨d,aA,f,0⟩] a e) (some (.Name y z)) j true):d3 C k n s w (.Assign [.Name y z] (.DictComp t u [⟨d,aA,f,0⟩] a e) j) (.ok .next) (s.set (aL y) (.loc p.length)) q:=qa (pos:=aA.pos) H g hk c pQ r fun x=>rfl
theorem bj.length{l:List s}{r:List t}(h:bj R l r):l.length=r.length:=by induction h with|nil=>rfl|cons _ _ a=>exact congrArg (· +1) a
theorem bj.imp{c:s->t->Prop}(d:∀a b,R a b->c a b)(h:bj R l r):bj c l r:=by induction h with|nil=>exact .nil|cons h _ e=>exact .cons (d _ _ h) e
theorem bj.nil_of{R:s->t->Prop}(h:bj R [] r):r=[]:=by cases h;rfl
theorem bj.of_nil{R:s->t->Prop}(h:bj R l []):l=[]:=by cases h;rfl
inductive iU (C:Cx)(k:Nat)(fi:FI)(mf:MF):List Expr->MS->List V->MS->Prop
 |nil {ms:MS}:iU C k fi mf [] ms [] ms
 |cons {e:Expr} {r:List Expr} {ms ms1 ms2:MS} {v:V} {vs:List V} (h1:ax C k fi mf ms e (.ok v) ms1) (h2:iU C k fi mf r ms1 vs ms2):iU C k fi mf (e::r) ms (v::vs) ms2
def yw (C:Cx)(s:Sg)(p:List UInt8×V)(q:Value×Value):Prop:=∃t,q.1= .bytes p.1.toArray t/\VR C s p.2 q.2
theorem iU.length(h:iU C k e f a g b c):a.length=b.length:=by induction h with|nil=>rfl|cons _ _ d=>exact congrArg (· +1) d
theorem yw.sub(l:s.sub u)(p:List UInt8×V)(q:Value×Value):yw C s p q->yw C u p q:=bq fun t=>fo (VR.sub l)
theorem DM{s:Type}(l:List s){a:s}(h:l[i]?=some a):l.set i a=l:=(List.getElem?_eq_some_iff.mp h).elim fun hl e=>e▸List.set_getElem_self hl
theorem z0(c:List (List UInt8×V)):∀{j:List (Value×Value)} {b:List (List UInt8×V)} {y:MS} {z:Sg} {s:Shared},Ok C k fi x mf y z m s->y[l]?=some (.dictB b)->z.adr l=some d->bj (yw C z) c j->b.length+c.length<1000000->∀{Q:PUnit->Shared->Prop} {E:Value->Shared->Prop},(∀f B,z.le f->Ok C k fi x mf (y.set l (.dictB (c.foldl (fun a q=>ee q.1 q.2 a) b))) f m B->Q ⟨⟩ B)->wpAny (model C.prog C.w) x.A (storeAll d j) Q E s:=by induction c with
 |nil=>
  intro j b y z s h hl ad r D Q E q;rw[r.nil_of];exact aX (q z s (.refl _) (by rw[List.foldl_nil,DM _ hl];exact h))|cons p c ih=>
  intro j b y z s h hl ad r D Q E q;cases r with|cons a r=>
   rename_i F j;obtain⟨t,e,hv⟩:=a;show wpAny _ _ (forIn (F::j) PUnit.unit _) _ _ _;rw[List.forIn_cons];show wpAny _ _ ((dictSet d F.1 F.2>>=_)>>=_) _ _ _;rw[e];rw[fj]at D;have hk:b.length<1000000:=cN (dn ..) D;refine aM (aM (gN (P:=fun u=>u= .ref d->wpAny (model C.prog C.w) x.A (dictSet d _ F.2) _ _ s) h hl (.loc ad) (fun aa es n o e0=>?_) rfl));rw[<- mX e0];refine nf (om:=.dictB (ee p.1 p.2 b)) h o.e o.d.h hk (bytesKind_is ..) hv (fun g n' es' sb hn' hr'=>qb o.d hk hr') fun σ1 s1 l1 ok1=>aX ?_;rw[mX e0];refine ih ok1 (by rw[List.getElem?_set,au rfl,au (List.getElem?_eq_some_iff.mp hl).1]) (l1.adr _ _ ad) (r.imp (yw.sub l1.sub)) (cN (Nat.add_le_add_right (iq ..) _) (by rw[pf,k8 1];exact D)) fun f B le ok=>?_;rw[List.set_set]at ok;exact q f B (l1.trans le) ok
theorem Dn(h:iU C k c mf t ms vs u):∀{d:List (Option Expr)} {i:List (List UInt8)},bj qM d i->d.length=t.length->∀x l m s,Ok C k c x mf ms l m s->∀(Q:List (Value×Value)->Shared->Prop) (E:Value->Shared->Prop),(∀f m' j g,l.le f->Ok C k c x mf u f m' j->bj (yw C f) (i.zip vs) g->Q g j)->wpAny (model C.prog C.w) x.A (evalPairs (pairTrees d t (x.env c) o)) Q E s:=by induction h with
 |nil=>
  intro d i hk hl x l m s h Q E q;rw[Ak hl];exact aX (q l m s _ (.refl _) h (by rw[List.zip_nil_right];exact .nil))|cons h1 h2 ih=>
  intro d i hk hl x l m s h Q E q
  rename_i e t _ ms1 _ v vs;cases hk with|nil=>exact nomatch hl|cons a r=>
   rename_i kx b d i;obtain⟨n,p,ek⟩:=a;rw[ek];show wpAny _ _ (evalPairs ((eval (.Constant (.bytes b) n p) (x.env c),do let y <- eval e (x.env c);standAt o;pure y)::pairTrees d t (x.env c) o)) _ _ _;unfold evalPairs;have hb:wpAny (model C.prog C.w) x.A (eval (.Constant (.bytes b) n p) (x.env c)) (fun v j=>v= .bytes b.toArray s.toks/\j={s with toks:=s.toks+1}) E s:=by
    show wpAny _ _ (constValue _ (.bytes b)) _ _ _;exact fun Γ p hΓ=>⟨rfl,rfl⟩
   refine aM (e8 hb (fun kv j w=>?_) fun _ _ e=>e);rw[w.1,w.2];refine aM (iQ (aM (h1.go (h.toks (s.toks+1)) fun z m2 s2 uv l2 ok2 r2=>aM (mB (aX (aM (iQ ?_)))))));exact ih r (Nat.succ.inj hl) x z m2 s2 ok2 _ E fun σ3 m3 s3 g l3 ok3 r3=>aX (q σ3 m3 s3 _ (l2.trans l3) ok3 (.cons ⟨_,rfl,r2.sub l3.sub⟩ r3))
theorem u7:ax C k j l d (.Dict [] [] f) (.ok (.loc d.length)) (d++[.dictS []]):=bO.ok fun x u m s h Q E q=>wpAny_Dict_empty ((oB (t:=s.toks) Ip h).elim fun i p=>q _ m _ _ p.1 p.2.1 (.loc p.2.2))
theorem zq(h:bj qM l d):l.all (·.isSome)=true:=by induction h with|nil=>rfl|cons a _ c=>obtain⟨n,p,e⟩:=a;rw[e];exact c
theorem yD(F:iU C k N P G (v++[.dictB []]) H r)(hk:bj qM (I::J) w)(hl:w.length=H.length)(g:w.length<15) (R:r[v.length]?=some (.dictB [])):ax C k N P v (.Dict (I::J) G U) (.ok (.loc v.length)) (r.set v.length (.dictB (kD (w.zip H)))):=bO.ok fun x u m s h Q E q=>by
 have L:(I::J).length=G.length:=hk.length.trans (hl.trans F.length.symm);refine wpAny_Dict_any (zq hk) L (uF _ _) (hk.length▸ju (k9 g (by decide))) ?_;obtain⟨σ1,p⟩:=oB (t:=s.toks) MI h;exact Dn F hk L x _ m _ p.2.1 _ E fun σ2 m2 s2 prs z A r2=>z0 _ A R (z.adr _ _ p.2.2) r2 (by rw[List.length_zip,fm,iF];exact cN (Nat.min_le_left ..) (pg g (by decide))) fun B s3 M D=>q B m2 s3 _ ((p.1.trans z).trans M) D (.loc (M.adr _ _ (z.adr _ _ p.2.2)))
structure KD (C:Cx):Prop extends KC C where
 exm:exmOne C.K (.ref (C.ca Bu)) (.ref (C.ca Bu))=some true
 sfg:C.mg aU=some (.ref (C.ca Bu))
theorem tS(n y:Nat)(l:List (Nat×s)):(LK n l).lookup y=if y=n then none else l.lookup y:=by induction l with|nil=>exact(ite_self _).symm|cons p r b=>
  show(List.filter _ (p::r)).lookup y=_;rw[qE];by_cases h:p.1=n
  ·rw[h,jK,Bool.not_true,aH sB];refine b.trans ?_;by_cases q:y=n
   ·rw[au q,au q]
   ·rw[aH q,aH q,gZ,h,jt q]
  ·rw[jt h,Bool.not_false,au rfl,gZ,gZ,show List.lookup y (List.filter _ r)=_ from b];by_cases q:y=p.1
   ·rw[q,jK];exact(aH h).symm
   ·rw[jt q]
theorem Ok.setRaw(h:Ok C k j x l o u m s)(g:aO n=true)(p:∀y,y≠n->b y=m y)(F:Fr C.G x.L h' b)(N:News C.G x.L h' u.news):Ok C k j x (l.del (aL n)) o u b {s with heap:=h',toks:=t}:=⟨F,N,h.nd,h.st,h.hfr,h.kd,h.fok,h.room,h.gens,h.os,fun y w A e=>by
  rw[tS]at e;by_cases q:aL y=aL n
  ·rw[au q]at e;exact nomatch e
  ·rw[aH q]at e;exact(h.vars y w A e).imp fun z=>k6 fun B=>(p y fun z=>q (congrArg aL z)).trans B,h.cells,h.len,h.reps,h.tabs⟩
theorem MF.del_del (b:MF)(n:Nat):(b.del n).del n=b.del n:=by show(⟨List.filter _ (List.filter _ _),_⟩:MF)=_;rw[List.filter_filter];exact congrArg (MF.mk · _) (congrArg (List.filter · _) (funext fun _=>Bool.and_self _))
theorem A2{hd:ExceptHandler}(i:dZ C k j n o b (.ok f) d e):d3 C k j n o (.Try b [hd] [] [] t) (.ok f) d e:=bO.ok fun x w m s h Q E q=>wpAny_Try_except (i.go h fun g u v a l c r=>by
  have:=q g u v a l c r;cases a with|next=>exact wpAny_execs_nil this|_=>exact this)
theorem tg (H:KD C){rp:Pos}(hh:nH C k b x mf ms r m z e s)(gy:a8 y=true)(hy:b.scope.names.lookup y=some .local)(hw:w.cps.toList.length<=1000000){E:Value->Shared->Prop} (hpl:((x.env b).scope.kind== .class||((x.env b).scope.kind== .module&&(x.env b).locals !=(x.env b).globals))=false)(hn5:h5.Ns x.L fun v=>if v=y then some (.ref e)else m v) (hs5:Heap.SameBut x.L s.heap h5) (q:∀σ' m' s' u,r.le σ'->Ok C k b x (mf.del (aL y)) ms σ' m' s'->VR C σ' (.tup [.str w.cps.toList,.int z]) u->Q (.ret u) s'):wpAny (model C.prog C.w) A (execs [.Return (some (.Tuple [.Constant (.str w) kw p0,.Attribute (.Name y yp) (Str.ofString "at") ap] kk tp)) rp] (x.env b)) Q E {s with heap:=h5,toks:=s.toks+1}:=by
 obtain⟨dx,⟨vs,sl,xb,-⟩,es,n,x2,x3⟩:=hh.ex;have i:Ok C k b x (mf.del (aL y)) ms r (fun v=>if v=y then some (.ref e)else m v) {s with heap:=h5,toks:=s.toks+1}:=hh.ok.setRaw (bg gy) (fun v hv=>aH hv) (hh.ok.F.set hn5 hs5) (hh.ok.N.set hs5);have g1:h5.get? e=some {cls:=.ref (C.ca Bu),dict:=some dx,data:=.fields vs,slots:=sl}:=(hs5.2 e fun q=>xb.nk (by rw[q];exact .head _)).trans xb.he;have c:=H.excGet;obtain⟨attr,a⟩:=c.a;obtain⟨t3,f⟩:=tc x3;refine wJ (wpAny_Return_some (Tuple_ ?_));show wpAny _ _ (spliced (backTo tp ((false,eval (.Constant (.str w) kw p0) (x.env b))::(false,eval (.Attribute (.Name y yp) (Str.ofString "at") ap) (x.env b))::[]))) _ _ _;refine k7 (Calls.Constant_str (pos:=p0) (k:=kw) (k7 (Attribute_any_ (wpAny_Name (wpAny_loadName_local (env:=x.env b) i.kd hy hn5 (au rfl) ?_) (cL gy)) (wV rfl))));refine xr (H.X.keeps (i.toks _).F.keep) (I:=⟨g1,rfl,rfl,i.get_has x2⟩) c.g c.h c.m (findObj_own (od:=dictOf es n) c.d a.1 a.2 (v:=.int z t3) f) rfl (spliced_nil ?_);have ok6:=i.toks (s.toks+1+1+1);exact newTuple_N ok6.F ok6.N (fun h' F N=>
  have p:=ok6.put_imm (t:=s.toks+1+1+1) F N (ok6.fresh (cc _))
  q _ _ _ _ p.1 p.2 (.tup (.inr (.head _)) (.cons (.str _ _ hw) (.cons (.int _ _) .nil)) (show 2<=1000000 by decide))) (show 2<=sizeLine by decide)
theorem FE{x:Fx}(hk:d.scope.kind= .function):((x.env d).scope.kind== .class||((x.env d).scope.kind== .module&&(x.env d).locals !=(x.env d).globals))=false:=by show(d.scope.kind== .class||(d.scope.kind== .module&&x.L !=mainGlobals))=false;rw[hk];rfl
theorem s6 (H:KD C){rp:Pos}(h1:dZ C k f mf ms b (.error z) p A)(hg:f.scope.names.lookup aU=some .globalImplicit)(gy:a8 y=true)(B:f.scope.names.lookup y=some .local)(hw:w.cps.toList.length<=1000000):d3 C k f mf ms (.Try b [yh np p0 yp ap tp rp hp kw kk y w] [] [] pos) (.ok (.ret (.tup [.str w.cps.toList,.int z]))) (p.del (aL y)) A:=bO.ok fun x d m s h Q E q=>by
 refine wpAny_Try_except (h1.goE h fun σ1 m1 s1 e l1 LR=>xK LR fun σ2 s2 l2 G=>lQ G none (.inl rfl) fun I s3 l3 c=>?_);have hle:d.le I:=(l1.trans l2).trans l3;refine wpAny_handleBy_cons (codeAny_handlers_test ?_) (fun q=>nomatch q);obtain⟨dx0,⟨vs0,sl0,xb,-⟩,-⟩:=c.ex;refine uA (env:=x.env f) c.ok.kd hg (loadGlobal_global (env:=x.env f) (H.R.g.keeps c.ok.F.keep) H.sfg ?_) (by decide+kernel);refine(exm_one (H.X.keeps c.ok.F.keep) ((Looks.ld xb.he).andThen .now) H.exm).here ?_;refine codeAny_handlers_suite_as (lQ c none (.inl rfl) fun σ4 s4 l4 j=>?_);have l:=FE (x:=x) j.ok.kd;refine wpAny_storeName_local (env:=x.env f) B j.ok.F.ns (fun h5 hn5 hs5=>?_) l;refine tg H j gy B hw l hn5 hs5 ?_;intro σ' m' s' u le a r;refine wpAny_nameGoes_keeps (env:=x.env f) B a.F.ns l fun h8 v8 hn8 n=>?_;have o:=a.setRaw (h':=h8) (t:=s'.toks+1) (bg gy) (fun v hv=>aH hv) (a.F.set hn8 n) (a.N.set n);rw[MF.del_del]at o;exact q _ _ _ _ ((hle.trans l4).trans le) o ⟨u,rfl,r⟩
structure KX (C:Cx):Prop extends KD C where
 raise:∀(k:Nat) (fi:FI) (mf:MF) (ms ms1:MS) (z:Int) (w:Str) (a:Expr) (np p0 cp rp:Pos) (kw:Nat),fi.cp=false->fi.scope.names.lookup aU=some .globalImplicit->ay a=true->ax C (k+1) fi mf ms a (.ok (.int z)) ms1->
  d3 C (k+1) fi mf ms (.Raise (some (.Call (.Name aU np) [.Constant (.str w) kw p0,a] [] cp)) none rp) (.error z) mf ms1
theorem fc.plain(h:fc b n c d a e):ay a=true:=by cases n with|zero=>exact(show False from h).elim|succ n=>exact h.1
theorem ly(h:bj (fc d n e f) b g):b.all ay=true:=by induction h with|nil=>rfl|cons h _ c=>rw[List.all_cons,h.plain,c];rfl
theorem d0:cG C false a:=fun e=>nomatch e
theorem sN.err(h:sN b (.error z:Except Int s)):sN b (.error z:Except Int t):=.inl (h.cp rfl)
section
variable (C:Cx) (k:Nat) (mf:MF)
def P1 (e:E)(f:MS)(r:Except Int V×MS):Prop:=∀d b n a,fc aZ n d b.scope a e->cG C d b->sN b r.1->ax C k b mf f a r.1 r.2
def PU (e:E)(j:MS)(r:Except Int V×MS):Prop:=∀h d n b v,fc aZ n h d.scope b e->cG C h d->shape b=6->r.1= .ok v->∀y i c,aO y=true->d.scope.names.lookup y=some .local->wT d.scope b (some (.Name y i)) c true->d3 C k d mf j (.Assign [.Name y i] b c) (.ok .next) (mf.set (aL y) v) r.2
def P4 (e:E)(f:MS)(r:Bool×MS):Prop:=∀d b n a,fc aZ n d b.scope a e->cG C d b->cy C k b mf f a (.ok r.1) r.2
structure K2 (fi:FI)(n:Nat)(y:Str)(x:Nat)(ifs:List Expr)(c:List E):Prop where
 x:aL y=x
 g:aO y=true
 hk:fi.scope.names.lookup y=some .local
 t:bj (fc aZ n false fi.scope) ifs c
 l:ifs.length<2
def P9 (x:Nat)(c:List E)(e:E)(l:Nat)(j:It)(m:MS)(r:MS):Prop:=∀g n y o aA d f a h,K2 g n y x d c->fc aZ n false g.scope f e->gx C k g mf m (.ListComp f [⟨.Name y o,aA,d,0⟩] a h) l j r
def P2 (x:Nat)(c:List E)(a b:E)(l:Nat)(o:It)(p:MS)(r:MS):Prop:=∀g n y q aA f i j d h,K2 g n y x f c->fc aZ n false g.scope i a->fc aZ n false g.scope j b->gx C k g mf p (.DictComp i j [⟨.Name y q,aA,f,0⟩] d h) l o r
def M8 (i j:Nat)(a:List V)(b:MS)(r:Except Int V×MS):Prop:=(∃c,Ci i j=some c)/\yz C k i j a b r.1 r.2
def OJ (s:S)(e:MS)(r:Except Int Fl×MF×MS):Prop:=∀d b n a,HE aZ d b.scope n a s->cG C d b->b.cp=false->d3 C k b mf e a r.1 r.2.1 r.2.2
def OM (t:E)(b:List S)(g:MS)(r:Except Int Fl×MF×MS):Prop:=∀f e n a c,eR aZ f e.scope a t->bj (HE aZ f e.scope n) c b->cG C f e->e.cp=false->vk C k e mf g a c r.1 r.2.1 r.2.2
def OK (t:T)(b:List S)(g:It)(h:MS)(r:Fl×MF×MS):Prop:=∀f d n e c,iW (eR aZ f d.scope) d.scope e t->bj (HE aZ f d.scope n) c b->cG C f d->d.cp=false->vc C k d mf h e c g r.1 r.2.1 r.2.2
def OL (t:T)(v:V)(e:MS)(r:MF×MS):Prop:=∀d b c,iW (eR aZ d b.scope) b.scope c t->cG C d b->b.cp=false->lq C k b mf e c v r.1 r.2
end
structure bH (C:Cx)(I:nI):Prop where
 ev:∀k mf e ms,av (I.ev k mf e ms) (P1 C k mf e ms)
 used:∀k mf e ms,av (I.ev k mf e ms) (PU C k mf e ms)
 evB:∀k mf e ms,av (I.evB k mf e ms) (P4 C k mf e ms)
 callF:∀k i j args ms,av (I.callF k i j args ms) (M8 C k i j args ms)
 ex:∀k mf s ms,av (I.ex k mf s ms) (OJ C k mf s ms)
 exW:∀k mf t b ms,av (I.exW k mf t b ms) (OM C k mf t b ms)
 exF:∀k mf t b it ms,av (I.exF k mf t b it ms) (OK C k mf t b it ms)
 compL:∀k mf x c e l it ms,av (I.compL k mf x c e l it ms) (P9 C k mf x c e l it ms)
 dcompL:∀k mf x c a b l it ms,av (I.dcompL k mf x c a b l it ms) (P2 C k mf x c a b l it ms)
 store:∀k mf t v ms,av (I.store k mf t v ms) (OL C k mf t v ms)
theorem xN{x:Rv s}{f:s->MS->Option t}(h:av x R)(k:∀v a,R (.ok v,a)->av (f v a) P):av (dm x f) P:=ak h fun q r=>by
 obtain⟨o,a⟩:=q;cases o with|error z=>exact af|ok v=>exact k v a r
theorem tE{x:Rv s}{P:Except Int t×MS->Prop}(h:av x R)(k:∀v a,R (.ok v,a)->av (f v a) P)(e:∀z a,R (.error z,a)->P (.error z,a)):av (vH x f) P:=ak h fun q r=>by
 obtain⟨o,a⟩:=q;cases o with|error z=>exact ac (e z a r)|ok v=>exact k v a r
theorem LS{x:Rv s}(h:av x R)(k:∀v a,R (.ok v,a)->av (f v a) P)(e:∀z a,R (.error z,a)->P (.error z,b,a)):av (HS x b f) P:=ak h fun q r=>by
 obtain⟨o,a⟩:=q;cases o with|error z=>exact ac (e z a r)|ok v=>exact k v a r
theorem mI{f:MS->Option s}(h:av x R)(b:∀a,R (true,a)->av (t a) P)(c:∀a,R (false,a)->av (f a) P):av (Bq x t f) P:=ak h fun q r=>by
 obtain⟨o,a⟩:=q;cases o with|false=>exact c a r|true=>exact b a r
theorem bH.e (G:bH C I)(t:fc aZ n c b.scope a d)(hf:cG C c b):av (I.ev k f d g) fun r=>sN b r.1->ax C k b f g a r.1 r.2:=(G.ev k f d g).mono fun r p=>p c b n a t hf
theorem mT (G:bH C I)(t:fc aZ n d c.scope a g)(hf:cG C d c){P:s->Prop}(q:∀v b,ax C k c h i a (.ok v) b->av (f v b) P):av (dm (I.ev k h g i) f) P:=xN (G.e t hf) fun v b r=>q v b (r (.inr ⟨v,rfl⟩))
theorem KW (G:bH C I)(t:eR aZ d c.scope a e)(hf:cG C d c){P:s->Prop}(q:∀v b,ax C k c g h a (.ok v) b->av (f v b) P):av (dm (I.ev k g e h) f) P:=t.elim fun n t=>mT G t hf q
theorem bH.b (G:bH C I)(t:fc aZ n d c.scope a a')(hf:cG C d c):av (I.evB k mf a' ms) fun r=>cy C k c mf ms a (.ok r.1) r.2:=(G.evB k mf a' ms).mono fun r p=>p d c n a t hf
structure EE (C:Cx)(k:Nat)(fi:FI)(mf:MF)(ms:MS)(asts:List Expr)(r:Except Int (List V)×MS):Prop where
 es:∀p,fu C k fi mf ms asts p r.1 r.2
 each:∀vs,r.1= .ok vs->iU C k fi mf asts ms vs r.2
theorem B2 (G:bH C I)(hf:cG C B i)(h:bj (fc aZ n B i.scope) c d):∀b,av (vG I k l d b) fun r=>sN i r.1->EE C k i l b c r:=by induction h with
 |nil=>exact fun b=>ac fun _=>⟨fun p=>yI,fun m e=>sF e▸ .nil⟩|cons t r D=>
  intro b
  rename_i a e H d;show av (vH (I.ev k l e b) fun v b=>vH (vG I k l d b) fun m b=>some (.ok (v::m),b)) _;refine tE (G.e t hf) (fun v f g=>tE (D f) (fun m o q=>ac fun _=>?_) fun z o q s=>⟨fun p=>sX t.plain (g (.inr ⟨_,rfl⟩)) ((q s).es p),fun w e=>nomatch e⟩) fun z f g s=>⟨fun p=>yH t.plain (g s.err),fun w e=>nomatch e⟩;have x:=g (.inr ⟨_,rfl⟩);have y:=q (.inr ⟨_,rfl⟩);exact⟨fun p=>u9 t.plain x (y.es p),fun w e=>sF e▸ .cons x (y.each _ rfl)⟩
theorem Mu (G:bH C I)(hf:cG C i d)(h:bj (fc aZ n i d.scope) b j){P:s->Prop}(q:∀e a,EE C k d l g b (.ok e,a)->av (f e a) P):av (dm (vG I k l j g) f) P:=xN (B2 G hf h g) fun v a r=>q v a (r (.inr ⟨v,rfl⟩))
theorem Jd (G:bH C I)(hf:cG C l d)(h:bj (fc aZ n l d.scope) b m){P:Except Int V×MS->Prop}(q:∀i a,EE C k d j g b (.ok i,a)->av (f i a) fun r=>sN d r.1->P r) (o:∀z a,EE C k d j g b (.error z,a)->P (.error z,a)):av (vH (vG I k j m g) f) fun r=>sN d r.1->P r:=tE (B2 G hf h g) (fun v a r=>q v a (r (.inr ⟨v,rfl⟩))) fun z a r p=>o z a (r p.err)
theorem BZ (G:bH C I)(hf:cG C g d)(h:sO (fc aZ n g d.scope) o x):av (KN I k f x b) fun r=>A0 C k d f b o r.1 r.2:=by cases h with
 |none=>exact ac yJ| @some a e t=>
  show av (dm (I.ev k f e b) fun v b=>some (some v,b)) _;exact mT G t hf fun v i h=>ac (yK h)
theorem BV (G:bH C I)(hf:cG C s o)(h:bj (fc aZ n s o.scope) d f):∀c,av (tD I k j f c) fun r=>ax C k o j c (.BoolOp .And d pos) (.ok r.1) r.2:=by induction h with|nil=>exact fun c=>af|cons t r u=>
  intro c
  rename_i a e x f;show av (dm (I.ev k j e c) fun v c=>f.isEmpty.casesOn ((cD c v).bind fun b=>b.casesOn (some (v,c)) (tD I k j f c)) (some (v,c))) _;refine mT G t hf fun v l m=>?_;cases r with|nil=>exact ac (jN m)|cons z A=>
   refine al fun b e=>?_;cases b with|false=>exact ac (u0 m e)|true=>exact(u l).mono fun q p=>u2 m e p
theorem E9 (G:bH C I)(hf:cG C s o)(h:bj (fc aZ n s o.scope) d f):∀c,av (B0 I k j f c) fun r=>ax C k o j c (.BoolOp .Or d pos) (.ok r.1) r.2:=by induction h with|nil=>exact fun c=>af|cons t r u=>
  intro c
  rename_i a e x f;show av (dm (I.ev k j e c) fun v c=>f.isEmpty.casesOn ((cD c v).bind fun b=>b.casesOn (B0 I k j f c) (some (v,c))) (some (v,c))) _;refine mT G t hf fun v l m=>?_;cases r with|nil=>exact ac (jN m)|cons z A=>
   refine al fun b e=>?_;cases b with|true=>exact ac (yG m e)|false=>exact(u l).mono fun q p=>yF m e p
theorem BU (G:bH C I)(hf:cG C s o)(h:bj (fc aZ n s o.scope) d j):∀c,av (xf I k l j c) fun r=>cy C k o l c (.BoolOp .And d u) (.ok r.1) r.2:=by induction h with|nil=>exact fun c=>ac qN|cons t r v=>
  intro c
  rename_i a e y j;show av (Bq (I.evB k l e c) (xf I k l j) fun c=>some (false,c)) _;exact mI (G.b t hf) (fun f m=>(v f).mono fun q p=>uY m p) fun f m=>ac (uX m)
theorem BW (G:bH C I)(hf:cG C s o)(h:bj (fc aZ n s o.scope) d j):∀c,av (xg I k l j c) fun r=>cy C k o l c (.BoolOp .Or d u) (.ok r.1) r.2:=by induction h with|nil=>exact fun c=>ac sT|cons t r v=>
  intro c
  rename_i a e y j;show av (Bq (I.evB k l e c) (fun c=>some (true,c)) (xg I k l j)) _;exact mI (G.b t hf) (fun f m=>ac (yy m)) fun f m=>(v f).mono fun q p=>yx m p
structure K3 (C:Cx)(k:Nat)(fi:FI)(mf:MF)(ms:MS)(e:Expr)(r:Bool×MS):Prop where
 v:ax C k fi mf ms e (.ok (.bool r.1)) r.2
 b:cy C k fi mf ms e (.ok r.1) r.2
theorem BX (H:KX C)(G:bH C I)(hf:cG C i g)(m:fc aZ n i g.scope a q)(h:fc aZ n i g.scope b s):av (NT I k t q (sJ o) s u) (K3 C k g t u (.Compare a [o] [b] p)):=mT G m hf fun x v j=>mT G h hf fun y w l=>al fun r e=>ac ⟨AS H.toKB h.plain j l e,AO H.toKB h.plain j l e⟩
theorem xh (H:KX C)(G:bH C I)(hf:cG C m i)(t:fc aZ n m i.scope a u)(v:fc aZ n m i.scope b w)(g:fc aZ n m i.scope c x):av (Ja I k y u (sJ o) w (sJ z) x A) (K3 C k i y A (.Compare a [o,z] [b,c] p)):=mT G t hf fun J B j=>mT G v hf fun K D l=>al fun r e=>by
  cases r with|false=>exact ac ⟨sU H.toKB g.plain j l e,sQ H.toKB g.plain j l e⟩|true=>exact mT G g hf fun L F q=>al fun r s=>ac ⟨sV H.toKB g.plain j l e q s,sR H.toKB g.plain j l e q s⟩
theorem B1 (G:bH C I)(hf:cG C i g)(h:bj (fc aZ n i g.scope) d c)(hl:d.length<2):av (Na I k j c l) fun r=>mH C k g j l d r.1 r.2:=by cases h with|nil=>exact ac (.inl ⟨rfl,rfl,rfl⟩)|cons t r=>
  cases r with|nil=>exact(G.b t hf).mono fun r p=>.inr ⟨_,rfl,p⟩|cons _ _=>exact absurd hl (Nat.not_lt.mpr (pe 2 _))
theorem za(g:a8 x=true)(hk:a.scope.names.lookup x=some .cell\/a.scope.names.lookup x=some .free):av (bn c (aL x) d) fun r=>ax C k a c d (.Name x p) r.1 r.2:=al fun l e=>al fun m f=>by
 cases m with|cell o=>exact al fun v h=>ac (EB hk g e (h▸f))|_=>exact af
theorem AD(t:mC c v):Ev C k a b d (.Constant c n p) v:=by cases t with|none=>exact ED _ _|bool=>exact EA _ _ _|int=>exact Iz _ _ _|str h=>exact IA _ _ _ h|bytes h=>exact AC _ _ _ h
theorem Bv (G:bH C I):av (w6 I k t o f a b) fun r=>t.casesOn (fun c j=>M8 C k c j (o::a) b r) (∃q,iZ b o f a=some q/\r=(.ok q.1,q.2)):=by cases t with|own c j=>exact G.callF _ _ _ _ _|bi=>exact al fun q e=>ac ⟨q,e,rfl⟩
structure K1 (C:Cx)(k:Nat)(f:V)(args:List V)(ms:MS)(r:Except Int V×MS):Prop where
 c:iT f
 r:∀fi mf,sN fi r.1->vj C k fi mf f args ms r.1 r.2
theorem Bw (H:KX C)(G:bH C I):av (w7 I k f a s) (K1 C k f a s):=by cases f with
 |fn i=>exact(G.callF _ _ _ _ _).mono fun r p=>p.1.elim fun fn e=>⟨.fn e,fun h j l=>EJ l p.2⟩|bi b=>exact al fun q e=>ac ⟨.bi,fun h j _=>EI H.toKB e⟩|ty t=>exact al fun q e=>ac ⟨.ty,fun h j _=>EK H.toKB e⟩|cls c=>
  cases k with
  |zero=>exact af|succ k=>exact xN (G.callF _ _ _ _ _) fun v u p=>aB fun g=>ac (by
    have g:=zB g;have w:v= .none:=by cases v with|none=>rfl|_=>exact Bool.noConfusion (show false=true from g.1)
    rw[w]at p;exact⟨.cls g.2,fun h j _=>A5 H.toKC g.2 p.2⟩)
 |lam e m=>
  cases k with|zero=>exact af|succ k=>cases a with
   |nil=>exact(G.ev _ _ _ _).mono fun r p=>⟨.lam,fun h j l=>A6 H.toKC l fun o b n hc x=>p false o n b x d0 (.inl hc)⟩|cons _ _=>exact af
 |_=>exact af
theorem HU{x:Rs}{c:V->MF->MS->Option s}(h:av x R)(he:∀z a b,R (.error z,a,b)->av (e z a b) P)(d:∀a b,R (.ok .next,a,b)->av (g a b) P)(hc:∀a b,R (.ok .cont,a,b)->av (i a b) P) (hr:∀v a b,R (.ok (.ret v),a,b)->av (c v a b) P):av (N0 x e g i c) P:=ak h fun q r=>by
 obtain⟨o,a,b⟩:=q;cases o with
 |error z=>exact he z a b r|ok f=>cases f with|next=>exact d a b r|brk=>exact af|cont=>exact hc a b r|ret v=>exact hr v a b r
theorem Do (G:bH C I)(hf:cG C g f)(t:fc aZ n g f.scope c e)(h:∀d a,isTrue c d a=(do let v <- a;standAt c.pos;holding [v] (truthy v))):av (rq I k mf e ms) fun r=>cy C k f mf ms c (.ok r.1) r.2:=by refine mT G t hf ?_;exact fun v j l=>al fun b e=>ac (uZ l e h)
theorem E8 (H:KX C)(G:bH C I)(k:Nat)(i:MF)(e:E)(d:MS):av (I9 I k i e d) (P4 C k i e d):=fun r h v w n l j hf=>by revert r h;show av _ _;cases n with
 |zero=>exact(show False from j).elim|succ n=>
  have a:=Do (k:=k) (mf:=i) (ms:=d) G hf j;have x:aR aZ (fc aZ n) v w.scope l e:=j.2
  clear j
  revert a;cases x with
  |not t=>
   intro a;refine ak (G.b t hf) ?_;exact fun q p=>ac (AP p)|and t=>exact fun a=> BU G hf t d|or t=>exact fun a=> BW G hf t d|ite f g m=>
   intro a;refine mI (G.b f hf) (fun o s=>?_) fun o s=>?_
   ·exact(G.b g hf).mono fun q p=>sS s p
   ·exact(G.b m hf).mono fun q p=>sS s p|cmp f g=>exact fun a=> (BX H G hf f g).mono fun q p=>p.b|cmp2 f g m=>exact fun a=> (xh H G hf f g m).mono fun q p=>p.b|name t=>cases t<;>exact fun a=>a fun u c=>rfl|_=>exact fun a=>a fun u c=>rfl
theorem y1 (G:bH C I)(k:Nat)(D:MF)(x:Nat)(c:List E)(e:E)(l:Nat)(F:It)(H:MS):av (vt I k D x c e l F H) (P9 C k D x c e l F H):=fun r h L n y M aA f i b j a J=>by
 revert r h;show av _ _;have R:=fun m s v=>(G.compL k m x c e l v s).mono fun r p=>p L n y M aA f i b j a J;have K:=a.x;refine al fun o z=>?_;cases o with|none=>exact ac (sZ z)|some p=>
  refine mI (B1 G d0 a.t a.l) (fun A B=>mT G J d0 fun u N P=>al fun Q hl=>aB fun d=>?_) fun A B=>?_
  ·exact(R _ _ _).mono fun r q=>by subst K;exact qT a.g a.hk z B P hl d q
  ·exact(R _ _ _).mono fun r q=>by subst K;exact qR a.g a.hk z B q
theorem vz (G:bH C I)(k:Nat)(L:MF)(x:Nat)(c:List E)(a b:E)(l:Nat)(M:It)(N:MS):av (re I k L x c a b l M N) (P2 C k L x c a b l M N):=fun r h fi n y yp aA s ka va e v d P Q=>by
 revert r h;show av _ _;have R:=fun A B D=>(G.dcompL k A x c a b l D B).mono fun r p=>p fi n y yp aA s ka va e v d P Q;have U:=d.x;refine al fun o F=>?_;cases o with
 |none=>exact ac (sY F)|some p=>
  refine mI (B1 G d0 d.t d.l) (fun H J=>mT G P d0 fun u ms2 h2=>mT G Q d0 fun w ms3 h3=>al fun X e1=>al fun m hl=>al fun f e2=>aB fun i=>?_) fun H J=>?_
  ·refine(R _ _ _).mono fun r q=>?_;subst U;have hu:u= .str X:=by cases u with|str z=>exact congrArg V.str (e9 e1)|_=>exact nomatch (show none=some X from e1)
   have hm:m= .dictS f:=by cases m with|dictS z=>exact congrArg ah.dictS (e9 e2)|_=>exact nomatch (show none=some f from e2)
   exact qS d.g d.hk F J (hu▸h2) h3 (hm▸hl) i q
  ·exact(R _ _ _).mono fun r q=>by subst U;exact qQ d.g d.hk F J q
theorem lL (G:bH C I)(hf:cG C l fi)(hc:fi.cp=false)(h:bj (HE aZ l fi.scope n) a m):∀b c,av (Fc I k m b c) fun r=>dZ C k fi b c a r.1 r.2.1 r.2.2:=by induction h with|nil=>exact fun b c=>ac yN|cons t r s=>
  intro b c;refine ak ((G.ex k b _ c).mono fun r p=>p l fi n _ t hf hc) ?_;intro q d;obtain⟨o,i,j⟩:=q;cases o with|error z=>exact ac (yM d)|ok f=>cases f with|next=>exact(s i j).mono fun r p=>ve d p|brk=>exact ac (j2 d fun e=>nomatch e)|cont=>exact ac (j2 d fun e=>nomatch e)|ret v=>exact ac (j2 d fun e=>nomatch e)
theorem yY (H:KX C)(G:bH C I)(k i j:Nat)(a:List V)(d:MS):av (q5 I k i j a d) (M8 C k i j a d):=by cases k with
 |zero=>exact af|succ k=>
  refine al fun e f=>aB fun b=>?_;have F:=H.fns i j e f;obtain⟨m,t,c⟩:=F.tr;refine ak (lL (fi:=C.fi i j) G c rfl (Kg t) _ _) ?_;exact fun q l=>ac ⟨⟨e,f⟩,Ji H.toKB F b l⟩
theorem Fb (G:bH C I)(k:Nat)(j:MF)(t:E)(b:List S)(u:MS):av (Jf I k j t b u) (OM C k j t b u):=fun r h y A n f g w x hf hc=>by
 revert r h;show av _ _;obtain⟨m,l⟩:=id w;have R:=fun o s=>(G.exW k o t b s).mono fun r p=>p y A n f g w x hf hc;refine mI (G.b l hf) (fun i e=>HU (lL G hf hc x j i) (fun z a c d=>?_) (fun a c d=>?_) (fun a c d=>?_) fun v a c d=>?_) fun i e=>?_
 ·exact ac (A7 e d)
 ·exact(R _ _).mono fun r q=>pX e d (.inl rfl) q
 ·exact(R _ _).mono fun r q=>pX e d (.inr rfl) q
 ·exact ac (A8 e d)
 ·exact ac (vl e)
theorem Fa (G:bH C I)(k:Nat)(i:MF)(t:T)(b:List S)(x:It)(j:MS):av (Je I k i t b x j) (OK C k i t b x j):=fun r h y A n e f B D hf hc=>by
 revert r h;show av _ _;have R:=fun l m s=>(G.exF k l t b s m).mono fun r p=>p y A n e f B D hf hc;refine al fun o g=>?_;cases o with
 |none=>exact ac (AY g)|some p=>
  refine ak ((G.store k i t p.1 j).mono fun r q=>q y A e B hf hc) fun q w=>HU (lL G hf hc D q.1 q.2) (fun z a c d=>?_) (fun a c d=>?_) (fun a c d=>?_) fun v a c d=>?_
  ·exact af
  ·exact(R _ _ _).mono fun r q=>pV g w d (.inl rfl) q
  ·exact(R _ _ _).mono fun r q=>pV g w d (.inr rfl) q
  ·exact ac (AZ g w d)
theorem Aa (G:bH C I)(hf:cG C i d)(hc:d.cp=false)(h:bj (Ep (eR aZ i d.scope) d.scope) a l):a.all ay=true->∀b e f,av (wv I k l b e f) fun r=>a.length=b.length/\s8 C k d e f a b r.1 r.2:=by induction h with
 |nil=>
  intro _ b e f;cases b with|nil=>exact ac ⟨rfl,yQ⟩|cons _ _=>exact af
 |cons t r m=>
  intro j b e f;cases b with|nil=>exact af|cons v b=>
   refine ak ((G.store k e _ v f).mono fun r p=>p i d _ (.one (fw j).1 t) hf hc) ?_;exact fun q o=>(m (fw j).2 b q.1 q.2).mono fun r p=>⟨congrArg (· +1) p.1,vh p.1 o p.2⟩
theorem zX(g:a8 x=true)(hk:b.scope.names.lookup x=some .cell):av (iy c (aL x) v d) fun r=>lq C k b c d (.Name x p) v r.1 r.2:=al fun l e=>al fun m f=>by
 cases m with|cell o=>exact ac (yP (bg g) hk e f)|_=>exact af
theorem zY (H:KX C)(G:bH C I)(hf:cG C q f)(h:Ep (eR aZ q f.scope) f.scope j t):av (se I k c t v a) fun r=>lq C k f c a j v r.1 r.2:=by cases h with
 |loc g=>exact ac (A3 (bg (zB g).1) (bh (zB g).2))|cell g=>exact zX (zB g).1 (bh (zB g).2)|attr g t=>
  show av (dm (I.ev k c _ a) fun o a=>(fX a o _ v).bind fun a=>some (c,a)) _;refine KW G t hf ?_;exact fun o l m=>al fun n e=>ac (yO H.toKB g m e)|sub s u=>
  show av (dm (I.ev k c _ a) fun o a=>dm (I.ev k c _ a) fun i a=>(fY a o i v).bind fun a=>some (c,a)) _;refine KW G s hf ?_;intro o l m;refine KW G u hf ?_;exact fun i n w=>al fun x e=>ac (A4 H.toKB m w e)
theorem yi(h:mV v=some a):v= .tup a:=by cases v with|tup z=>exact congrArg V.tup (e9 h)|_=>exact nomatch (show none=some a from h)
theorem zZ (H:KX C)(G:bH C I)(k:Nat)(a:MF)(t:T)(v:V)(b:MS):av (se I k a t v b) (OL C k a t v b):=fun r h i j d f hf hc=>by
 revert r h;show av _ _;cases f with
 |one l t=>exact zY H G hf t|tup c h=>
  refine al fun g e=>?_;rw[yi e];exact(Aa G hf hc h c g a b).mono fun r p=>vg c p.2
theorem jp(h:a.names.lookup y=some .local):(bo a e).names.lookup y=some .local:=lookup_relabel_local (env:={scope:=e,locals:=0,globals:=0,cells:=[]}) h
structure Az (scope:Scope)(y:Str)(ifs:List Expr):Prop where
 s:bQ scope=true
 g:a8 y=true
 hk:scope.names.lookup y=some .local
 l:ifs.length<2
theorem w8(h:(bQ a&&a8 y&&a.names.lookup y==some .local&&decide (c.length<2))=true):Az a y c:=
 have d:=zB h;have e:=zB d.1;have f:=zB e.1
 ⟨f.1,f.2,bh e.2,eP d.2⟩
abbrev EP (C:Cx)(k:Nat)(b:FI)(c:MF)(d:MS)(a:Expr)(r:Except Int V×MS):Prop:=sN b r.1->ax C k b c d a r.1 r.2
theorem w9 (G:bH C I)(g:Az c x o)(J:ay t=true)(K:ax C k u w L t (.ok v) f)(M:bj (fc aZ n false (bo c u.scope)) o D)(N:fc aZ n false (bo c u.scope) e F):av ((aA f v).bind fun i=>if dh (gL c) w.cells=true then(I.compL k ⟨[],jH (gL c) w.cells⟩ (aL x) D F f.length i (f++[.list []])).bind fun y=>some (Except.ok (ε:=Int) (V.loc f.length),y)else none) fun r=>∃i h,r=(.ok (.loc f.length),h)/\g5 C k u w L (.ListComp e [⟨.Name x X,t,o,0⟩] c p) c t v i (.list []) f h:=al fun i P=>aB fun hc=>ak (G.compL k _ _ D F f.length i _) fun h p=>ac ⟨i,h,rfl,⟨_,_,rfl⟩,J,g.s,hc,fun A R s t Q U a b=>codeAny_compStart_list a b,K,P,p (q9 u c) n x _ _ _ _ _ _ ⟨rfl,bg g.g,jp g.hk,M,g.l⟩ N⟩
theorem tm (G:bH C I)(g:Az c x o)(J:ay t=true)(K:ax C k q u L t (.ok v) e)(M:bj (fc aZ n false (bo c q.scope)) o B)(N:fc aZ n false (bo c q.scope) a D)(P:fc aZ n false (bo c q.scope) b F):av ((aA e v).bind fun i=>if dh (gL c) u.cells=true then(I.dcompL k ⟨[],jH (gL c) u.cells⟩ (aL x) B D F e.length i (e++[.dictS []])).bind fun w=>some (Except.ok (ε:=Int) (V.loc e.length),w)else none) fun r=>∃i h,r=(.ok (.loc e.length),h)/\g5 C k q u L (.DictComp a b [⟨.Name x Y,t,o,0⟩] c p) c t v i (.dictS []) e h:=al fun i Q=>aB fun hc=>ak (G.dcompL k _ _ B D F e.length i _) fun h p=>ac ⟨i,h,rfl,⟨_,_,rfl⟩,J,g.s,hc,fun A R s t U X a b=>codeAny_compStart_dict a b,K,Q,p (q9 q c) n x _ _ _ _ _ _ _ ⟨rfl,bg g.g,jp g.hk,M,g.l⟩ N P⟩
theorem zb (G:bH C I)(hf:cG C q h)(r:bj qM (s::t) f)(u:bj (fc aZ n q h.scope) b i):av (BY I k j f i c) (EP C k h j c (.Dict (s::t) b p)):=by show av (α:=Except Int V×MS) (dm (vG I k j i (c++[.dictB []])) fun b d=>(d[c.length]?).bind fun m=>(rj m).bind fun a=>if a.length=0/\f.length<15/\f.length=b.length then some (.ok (.loc c.length),d.set c.length (.dictB (kD (f.zip b))))else none) _;refine Mu G hf u ?_;exact fun b y A=>al fun m B=>al fun a e=>aB fun hc=>ac fun _=>yD (A.each _ rfl) r hc.2.2 hc.2.1 (B.trans (congrArg some (by
  cases m with|dictB z=>rw[show z=a from e9 e,Ak hc.1]|_=>exact nomatch (show none=some a from e))))
theorem Mo (H:KX C)(t:pU aZ a.scope x e):av (HQ I k b e c) (EP C k a b c (.Name x p)):=by cases t with|loc g hk=>exact al fun v e=>ac fun _=>AE hk (bg g) e (cL g)|cell g hk=>exact(za g hk).mono fun r p _=>p|val g hk e=>exact ac fun _=>EC H.toKB hk g e
theorem Mm{j:FI}(g:(aO f&&shape o !=1&&a.endLine==p.line&&decide (d.length<30))=true)(t:bj (fc aZ n l j.scope) d k):wQ o f a p d:=
 have e:=zB g;have h:=zB e.1;have i:=zB h.1
 ⟨i.1,i.2,h.2,eP e.2,ly t⟩
theorem Fz (H:KX C)(G:bH C I)(hf:cG C D s)(g:(aO f&&shape o !=1&&b.endLine==p.line&&decide (l.length<30))=true)(N:fc aZ n D s.scope o F)(J:bj (fc aZ n D s.scope) l m):av (HQ I k v (.meth F (aL f) m) d) (EP C k s v d (.Call (.Attribute o f b) l [] p)):=by show av (α:=Except Int V×MS) (dm (I.ev k v F d) fun o d=>(c9 d o (aL f)).bind fun t=>vH (vG I k v m d) fun x d=>w6 I k t o (aL f) x d) _;have M:=Mm g J;refine mT G N hf fun L Q A=>al fun R e=>Jd (P:=fun r=>ax C k s v d (.Call (.Attribute o f b) l [] p) r.1 r.2) G hf J (fun x i y=>(Bv G).mono fun r q U=>?_) fun z i y=>po H.toKC M A e (y.es p);cases R with|own c j=>exact(show M8 C k c j (L::x) i r from q).1.elim fun Y B=>pp H.toKC U M A e B (y.es p) q.2|bi=>exact(show ∃w,iZ i L (aL f) x=some w/\r=(.ok w.1,w.2)from q).elim fun w q=>q.2▸qO H.toKC M A e (y.es p) q.1
theorem I8 (H:KX C)(G:bH C I)(k:Nat)(s:MF)(e:E)(d:MS):av (HQ I k s e d) (P1 C k s e d):=fun r h la fi n ast tr hf=>by revert r h;show av _ (EP C k fi s d ast);cases n with|zero=>exact(show False from tr).elim|succ n=>
  have tv:aR aZ (fc aZ n) la fi.scope ast e:=tr.2
  clear tr;cases tv with
  |const t=>exact ac fun _=>AD t|name t=>exact Mo H t|tup t=>
   show av (α:=Except Int V×MS) (vH (vG I k s _ d) fun D d=>if D.length<=1000000 then some (.ok (.tup D),d)else none) _;refine Jd (P:=fun r=>ax C k fi s d _ r.1 r.2) G hf t ?_ ?_
   ·exact fun D m l=>aB fun hl=>ac fun _=>AX (l.es _) hl
   ·exact fun z m l=>qP (l.es _)|list t=>
   show av (α:=Except Int V×MS) (dm (vG I k s _ d) fun D d=>if D.length<=1000000 then some (.ok (.loc d.length),d++[.list D])else none) _;refine Mu G hf t ?_;exact fun D m l=>aB fun hl=>ac fun _=>yE (l.es _) hl
  |bin x w A=>
   show av (α:=Except Int V×MS) (dm (I.ev k s _ d) fun a d=>dm (I.ev k s _ d) fun b d=>(c8 d _ a b).bind fun q=>some (.ok q.1,q.2)) _
   refine mT G x hf ?_
   intro va m l
   refine mT G A hf ?_
   exact fun vb B K=>al fun q e=>ac fun _=>AR w l K e
  |neg t=>
   show av (α:=Except Int V×MS) (dm (I.ev k s _ d) fun a d=>(KS a).bind fun v=>some (.ok v,d)) _
   refine mT G t hf ?_
   exact fun va m l=>al fun v e=>ac fun _=>AU l e
  |not t=>
   show av (α:=Except Int V×MS) (dm (I.ev k s _ d) fun a d=>(cD d a).bind fun b=>some (.ok (.bool !b),d)) _
   refine mT G t hf ?_
   exact fun va m l=>al fun b e=>ac fun _=>AV l e
  | @and es p xs t=>
   refine ak (BV (pos:=p) G hf t d) ?_
   exact fun q p=>ac fun _=>p
  | @or es p xs t=>
   refine ak (E9 (pos:=p) G hf t d) ?_
   exact fun q p=>ac fun _=>p
  |ite x w A=>
   refine mI (G.b x hf) (fun m l=>?_) fun m l=>?_
   ·exact(G.e w hf).mono fun r p ho=>sW l (p ho)
   ·exact(G.e A hf).mono fun r p ho=>sW l (p ho)
  | @cmp a o b p a' b' x w=>
   refine ak (BX (p:=p) H G hf x w) ?_
   exact fun q p=>ac fun _=>p.v
  | @cmp2 a o b o' c p a' b' c' x w A=>
   refine ak (xh (p:=p) H G hf x w A) ?_
   exact fun q p=>ac fun _=>p.v
  |attr g nc t=>
   show av (α:=Except Int V×MS) (dm (I.ev k s _ d) fun v d=>(aY d v _).bind fun u=>some (.ok u,d)) _
   refine mT G t hf ?_
   exact fun va m l=>al fun v e=>ac fun _=>yA H.toKB nc g l e
  |slice x w A=>
   show av (α:=Except Int V×MS) (dm (I.ev k s _ d) fun v d=>(KN I k s _ d).bind fun lo=>(KN I k s _ lo.2).bind fun hi=>(bV hi.2 v lo.1 hi.1).bind fun q=>some (.ok q.1,q.2)) _
   refine mT G x hf ?_
   intro va m l
   refine ak (BZ G hf w) ?_
   intro lo K
   refine ak (BZ G hf A) ?_
   exact fun hi h3=>al fun q e=>ac fun _=>u8 l K h3 e
  |sub x w=>
   show av (α:=Except Int V×MS) (dm (I.ev k s _ d) fun v d=>dm (I.ev k s _ d) fun i d=>(br d v i).bind fun u=>some (.ok u,d)) _
   refine mT G x hf ?_
   intro va m l
   refine mT G w hf ?_
   exact fun vi B K=>al fun v e=>ac fun _=>AW w.plain l K e
  |meth g x w=>exact Fz H G hf g x w
  |call hna x w=>
   show av (α:=Except Int V×MS) (dm (I.ev k s _ d) fun f d=>vH (vG I k s _ d) fun D d=>w7 I k f D d) _
   refine mT G x hf ?_
   intro vf m l
   refine Jd (P:=fun r=>ax C k fi s d _ r.1 r.2) G hf w ?_ ?_
   ·exact fun D B K=>(Bw H G).mono fun r q ho=>yB H.toKC hna (ly w) l (K.es _) q.c (q.r fi s ho)
   ·exact fun z B K=>pi hna (ly w) l (K.es _)
  |comp g x w A=>
   show av (α:=Except Int V×MS) (vH (I.ev k s _ d) fun v d=>(aA d v).bind fun i=>if dh _ s.cells=true then(I.compL k ⟨[],jH _ s.cells⟩ _ _ _ d.length i (d++[.list []])).bind fun ms'=>some (.ok (.loc d.length),ms')else none) _
   refine tE (G.e x hf) ?_ ?_
   ·exact fun v m l=>(w9 G (w8 g) x.plain (l (.inr ⟨_,rfl⟩)) w A).mono fun r q _=>q.elim fun i q=>q.elim fun B q=>q.1▸yC H.toKC q.2
   ·exact fun z m l ho=>pj (l ho)
  |dcomp g x w A t4=>
   show av (α:=Except Int V×MS) (dm (I.ev k s _ d) fun v d=>(aA d v).bind fun i=>if dh _ s.cells=true then(I.dcompL k ⟨[],jH _ s.cells⟩ _ _ _ _ d.length i (d++[.dictS []])).bind fun ms'=>some (.ok (.loc d.length),ms')else none) _
   refine mT G x hf ?_
   exact fun v m l=>(tm G (w8 g) x.plain l w A t4).mono fun r q _=>q.elim fun i q=>q.elim fun B q=>q.1▸u6 H.toKC q.2
  |sdict=>exact ac fun _=>u7
  |dict x w=>exact zb G hf x w
  |lam g t=>
   have g1:=zB g
   have g2:=zB g1.1
   exact aB fun hc=>ac fun _=>AT H.toKC (hf g2.1) g2.2 g1.2 (H.mkLam _ _ _ n g1.2 t) hc
theorem BS (H:KX C)(G:bH C I)(k:Nat)(d:MF)(e:E)(b:MS):av (HQ I k d e b) (PU C k d e b):=fun r h la F n j v J hf A hv y U m X hk s=>by revert r h;show ∀r,HQ I k d e b=some r->r.1= .ok v->d3 C k F d b (.Assign [.Name y U] j m) (.ok .next) (d.set (aL y) v) r.2;show av (HQ I k d e b) fun r=>r.1= .ok v->d3 C k F d b (.Assign [.Name y U] j m) (.ok .next) (d.set (aL y) v) r.2;cases n with|zero=>exact(show False from J).elim|succ n=>
  have tv:aR aZ (fc aZ n) la F.scope j e:=J.2;have hb:Nat.beq (shape j) 6=true:=congrArg (Nat.beq · 6) A
  clear J A
  revert hb;cases tv with
  |comp g u M N=>
   intro _;show av (α:=Except Int V×MS) (vH (I.ev k d _ b) fun v b=>(aA b v).bind fun i=>if dh _ d.cells=true then(I.compL k ⟨[],jH _ d.cells⟩ _ _ _ b.length i (b++[.list []])).bind fun p=>some (.ok (.loc b.length),p)else none) _;refine tE (G.e u hf) ?_ ?_
   ·exact fun w x B=>(w9 G (w8 g) u.plain (B (.inr ⟨_,rfl⟩)) M N).mono fun r q e=>q.elim fun i q=>q.elim fun R q=>by
     rw[q.1]at e ⊢;exact sF e▸nJ H.toKC X hk q.2 s
   ·exact fun z x B e=>nomatch e|dcomp g u M N t4=>
   intro _;show av (α:=Except Int V×MS) (dm (I.ev k d _ b) fun v b=>(aA b v).bind fun i=>if dh _ d.cells=true then(I.dcompL k ⟨[],jH _ d.cells⟩ _ _ _ _ b.length i (b++[.dictS []])).bind fun p=>some (.ok (.loc b.length),p)else none) _;refine mT G u hf ?_
   exact fun w x B=>(tm G (w8 g) u.plain B M N t4).mono fun r q e=>q.elim fun i q=>q.elim fun R q=>by
    rw[q.1]at e ⊢
    exact sF e▸mQ H.toKC X hk q.2 s
  |_=>exact fun A=>(sB A).elim
theorem NU (G:bH C I)(t:eR aZ i d.scope a j)(hf:cG C i d)(hc:d.cp=false)(q:∀v b,ax C k d g h a (.ok v) b->av (f v b) P)(l:∀z b,ax C k d g h a (.error z) b->P (.error z,g,b)):av (HS (I.ev k g j h) g f) P:=t.elim fun n t=>LS (G.e t hf) (fun v b r=>q v b (r (.inl hc))) fun z b r=>l z b (r (.inl hc))
theorem bH.bx (G:bH C I)(t:eR aZ d c.scope a a')(hf:cG C d c):av (I.evB k f a' g) fun r=>cy C k c f g a (.ok r.1) r.2:=t.elim fun n t=>G.b t hf
theorem eR.plain(t:eR aZ b c a d):ay a=true:=t.elim fun n t=>fc.plain t
theorem iW.plain(h:iW R b t c):ay t=true:=by cases h with|one a _=>exact a|tup _ _=>rfl
abbrev SP (C:Cx)(k:Nat)(b:FI)(c:MF)(d:MS)(a:Stmt)(r:Except Int Fl×MF×MS):Prop:=d3 C k b c d a r.1 r.2.1 r.2.2
theorem Cz(h:bl v=some i):v= .int i:=by cases v with|int z=>exact congrArg V.int (e9 h)|_=>exact nomatch (show none=some i from h)
theorem IL (G:bH C I)(hf:cG C h b)(hc:b.cp=false)(l:wT b.scope e (some t) p false)(o:Eo b.scope t e none)(m:iW (eR aZ h b.scope) b.scope t n)(u:eR aZ h b.scope e w):av (HS (I.ev k f w i) f fun v i=>(I.store k f n v i).bind fun q=>some (.ok .next,q.1,q.2)) (SP C k b f i (.Assign [t] e p)):=NU G u hf hc (fun v d r=>ak ((G.store k f n v d).mono fun q p=>p h b t m hf hc) fun q s=>ac (qV r s m.plain l o)) fun z d r=>qU r fun x=>l.env x
theorem Gf (G:bH C I)(hf:cG C l a)(m:Eo a.scope (.Tuple o q s) e (some b))(g:(b.all (fun n=>aO n&&a.scope.names.lookup n==some .local)&&decide b.Nodup)=true)(u:eR aZ l a.scope e x):av (dm (I.ev k c x d) fun v d=>(mV v).bind fun f=>if f.length=(b.map aL).length then some (Except.ok (ε:=Int) Fl.next,(⟨fN ((b.map aL).zip f) c.vars,c.cells⟩:MF),d)else none) (SP C k a c d (.Assign [.Tuple o q s] e p)):=by have g:=zB g;refine KW G u hf ?_;exact fun v y r=>al fun f j=>aB fun hl=>ac (qW (yi j▸r) (hl.trans (b0 ..)) (fun n z=>have w:=zB (zE g.1 n z);⟨w.1,bh w.2⟩) (eP g.2) m)
theorem Jb (H:KX C)(G:bH C I)(k:Nat)(c:MF)(s:S)(b:MS):av (LR I k c s b) (OJ C k c s b):=fun r h la w n ast tr hf hc=>by revert r h;show av _ (SP C k w c b ast);cases n with|zero=>exact(show False from tr).elim|succ n=>
  have tv:aF aZ (HE aZ la w.scope n) la w.scope ast s:=tr
  clear tr;cases tv with
  |assign l h2 d j=>exact IL G hf hc l h2 d j|asgc l g j=>
   have g1:=zB g;have g2:=zB g1.1;obtain⟨m,j⟩:=j;show av (α:=Except Int Fl×MF×MS) (dm (I.ev k c _ b) fun v b=>some (.ok .next,c.set _ v,b)) _;refine xN (G.used k c _ b) ?_;exact fun v a q=>ac (q la w m _ v j hf (bh g1.2) rfl _ _ _ (bg g2.1) (bh g2.2) l)|swap h2 g j=>exact Gf G hf h2 g j|expr l d=>
   show av (α:=Except Int Fl×MF×MS) (HS (I.ev k c _ b) c fun _ b=>some (.ok .next,c,b)) _;refine NU G d hf hc ?_ ?_
   ·exact fun v a r=>ac (yL r l.env)
   ·exact fun z a r=>pt r l.env|ret d=>
   cases d with|none=>exact ac lj|some t=>
    show av (α:=Except Int Fl×MF×MS) (HS (I.ev k c _ b) c fun v b=>some (.ok (.ret v),c,b)) _;exact NU G t hf hc (fun v a r=>ac (s7 r)) fun z a r=>mR r
  |ite d j t3=>
   refine mI (G.bx d hf) (fun a l=>?_) fun a l=>?_
   ·exact(lL G hf hc j c a).mono fun r p=>wS l p
   ·exact(lL G hf hc t3 c a).mono fun r p=>wS l p|«while» d j=>exact(G.exW k c _ _ b).mono fun r p=>vd (p la w n _ _ d j hf hc)|«for» d j t3=>
   show av (α:=Except Int Fl×MF×MS) (dm (I.ev k c _ b) fun v b=>(aA b v).bind fun i=>(I.exF k c _ _ i b).bind fun q=>some (.ok q.1,q.2)) _;refine KW G j hf ?_;exact fun v a r=>al fun i hi=>ak ((G.exF k c _ _ i a).mono fun q p=>p la w n _ _ d t3 hf hc) fun q p=>ac (A1 H.toKB j.plain r hi p)|cont=>exact ac pq|raise hg d=>
   cases k with
   |zero=>exact af
   |succ k=>
    show av (α:=Except Int Fl×MF×MS) (dm (I.ev (k+1) c _ b) fun v b=>(bl v).bind fun z=>some (.error z,c,b)) _
    refine KW G d hf ?_
    exact fun v a r=>al fun z e=>ac (H.raise _ _ _ _ _ _ _ _ _ _ _ _ _ hc (bh hg) d.plain (Cz e▸r))
  |stuck=>exact af
  |«try» g d=>
   have g1:=zB g
   have g2:=zB g1.1
   have g3:=zB g2.1
   refine ak (lL G hf hc d c b) ?_
   intro q l
   obtain⟨o,mf1,a⟩:=q
   cases o with
   |ok f=>exact ac (A2 l)
   |error z=>exact ac (s6 H.toKD l (bh g3.1) g3.2 (bh g2.2) (eP g1.2))
theorem bH.next (H:KX C)(G:bH C I):bH C I.next:=⟨I8 H G,BS H G,E8 H G,yY H G,Jb H G,Fb G,Fa G,y1 G,vz G,zZ H G⟩
theorem MN (H:KX C)(n:Nat):bH C (Nb n):=by induction n with|zero=>exact⟨fun _ _ _ _=>af,fun _ _ _ _=>af,fun _ _ _ _=>af,fun _ _ _ _ _=>af,fun _ _ _ _=>af,fun _ _ _ _ _=>af,fun _ _ _ _ _ _=>af,fun _ _ _ _ _ _ _ _=>af,fun _ _ _ _ _ _ _ _ _=>af,fun _ _ _ _ _=>af⟩|succ n a=>exact a.next H
noncomputable abbrev n8 (C t:Addr):Obj:={cls:=.ref C,data:=.fields #[.ref t,.none,.none,.none,.bool false,.none]}
theorem zc{h:Heap}{g:Array GenState}{d:Drawn}{t:Nat}{os:OsState}{nm q:Str}{C N:Addr}{bs bm bmB:List Value}{hdct:Bool}{sn:List Str}{sub:List Value}{ab:Bool}{col:Option Bool}{dd:Option Addr}{k0 k1 k2 k3 k5:Option Value}{B newId initId:String}{A:Around}{E:Value->Shared->Prop}{M:Model}(F:ExcBaseFacts B newId initId bmB)(hB:bm.contains (.type B)=true){rest:List Value}{Q:Unit->Shared->Prop}(hC:h.get? C=some (excClassObj nm q C N bs bm hdct sn sub ab col dd k0 k1 k2 k3 k5 newId)) (hq:Q () ⟨h,g,d,t,os⟩):wpAny M A (checkBuiltinCall newId ⟨.ref C::rest,[]⟩) Q E ⟨h,g,d,t,os⟩:=by
 have hcont:(Value.ref C::bm).contains (.type B)=true:=by rw[wG,hB,Bool.or_true]
 have hstar:=F.noStar;unfold checkBuiltinCall;rw[F.newRow,F.newKind,F.newSplit];dsimp only
 repeat (first|refine pI hC ?_|(refine uB hC ?_;rw[hcont])|refine wpAny_staticBase_exc hC ?_|refine wpAny_madeBy_exc hC ?_|simp only[bne_self_eq_false,Bool.false_eq_true,if_false]|wp_step)
 exact hq
theorem B5{h:Heap}{g:Array GenState}{d:Drawn}{t:Nat}{os:OsState}{nm q:Str}{C N:Addr}{bs bm bmB:List Value}{hdct:Bool}{sn:List Str}{sub:List Value}{ab:Bool}{col:Option Bool}{dd:Option Addr}{k0 k1 k2 k3 k5:Option Value}{B newId initId:String}{prog:Program}{w:World}{A:Around}(F:ExcBaseFacts B newId initId bmB)(hB:bm.contains (.type B)=true)(hA:bm.contains (.type "AttributeError")=false)(hN:bm.contains (.type "NameError")=false){R:Result->Shared->Prop}{rest:List Value}(hC:h.get? C=some (excClassObj nm q C N bs bm hdct sn sub ab col dd k0 k1 k2 k3 k5 newId)) (hq:R (.ok (.ret (.ref (h.objs.size+1)))) ⟨(h.push {cls:=.type "tuple",data:=.seq rest.toArray}).push (n8 C h.objs.size),g,d,t,os⟩) (hrest:rest.length<=sizeLine):codeAny (model prog w) A (.builtin newId ⟨.ref C::rest,[]⟩) R ⟨h,g,d,t,os⟩:=by
 have hends:=F.ends;have hcB:(Value.ref C::bm).contains (.type B)=true:=by rw[wG,hB,Bool.or_true]
 have hcA:(Value.ref C::bm).contains (.type "AttributeError")=false:=by rw[wG,hA];rfl
 have hcN:(Value.ref C::bm).contains (.type "NameError")=false:=by rw[wG,hN];rfl
 refine codeAny_builtinAt F.entry ?_
 unfold Builtin.«BaseException.__new__»
 refine PySem.wpAt_bind ?_
 show PySem.wpAt _ _ _ (stack>>=_) _ _ _
 refine PySem.wpAt_bind (PySem.wpAt_stack fun p below=>PySem.wpAt_of_wpAny ?_)
 wp_walk
 refine PySem.wpAt_of_wpAny ?_
 rw[F.owner]
 repeat (first|with_reducible refine wpAny_madeHere_exc F.canon hC ?_|with_reducible refine pI hC ?_|(with_reducible refine uB hC ?_;first|rw[hcB]|rw[hcA]|rw[hcN])|wp_step)
 show R _ _
 rw[Heap.size_push]
 exact hq
theorem B3{h:Heap}{g:Array GenState}{d:Drawn}{t:Nat}{os:OsState}{nm q:Str}{C N:Addr}{bs bm bmB:List Value}{hdct:Bool}{sn:List Str}{sub:List Value}{ab:Bool}{col:Option Bool}{dd:Option Addr}{k0 k1 k2 k3 k5:Option Value}{B newId initId:String}{prog:Program}{w:World}{A:Around}{E:Value->Shared->Prop}{K:Frag}(X:K.In h)(F:ExcBaseFacts B newId initId bmB)(hB:bm.contains (.type B)=true)(hA:bm.contains (.type "AttributeError")=false)(hN:bm.contains (.type "NameError")=false){rest:List Value}{fI:Addr}{oI:Obj}{Q:Value->Shared->Prop} (hC:h.get? C=some (excClassObj nm q C N bs bm hdct sn sub ab col dd k0 k1 k2 k3 k5 newId)) (hi:findIn K (.ref C) "__init__" =some (some (.ref fI))) (hfI:h.get? fI=some oI) (hfc:oI.cls= .type "function") (hq:∀h',(∀b o,h.get? b=some o->h'.get? b=some o)->h'.get? (h.objs.size+1)=some (n8 C h.objs.size)->wpAny (model prog w) (A.under (.builtin "type.__call__" ⟨.ref C::rest,[]⟩)) (call (.ref fI) (.ref (h.objs.size+1)::rest)) (fun r s'=>r= .none/\Q (.ref (h.objs.size+1)) s') E ⟨h',g,d,t,os⟩) (hrest:rest.length<=sizeLine):wpAny (model prog w) A (call (.ref C) rest) Q E ⟨h,g,d,t,os⟩:=by
 have f1:=tc_lookup;have f2:=tc_bind (.ref C);have hT:(⟨h,g,d,t,os⟩:Shared).TypeIs (.ref C) "type":=⟨_,hC,rfl⟩;refine wpAny_call (qG ?_);show wpAny _ _ (callAny (.ref C) _) _ _ _
 repeat (any_goals (first|assumption|with_reducible refine pI hC ?_|wp_step))
 refine⟨rfl,?_⟩
 refine codeAny_call_builtin_at (Code.quiet_builtin _ (by decide+kernel)) entry_typeCall (wpAny_check_type_call_sub hC ?_)
 repeat (first|with_reducible refine pI hC ?_|with_reducible refine wpAny_madeBy_exc hC ?_|wp_step)
 refine codeAny_call_builtin_code (Code.quiet_builtin _ F.quiet) (zc F hB hC ?_)
 refine B5 F hB hA hN hC ?_ hrest
 show wpAny _ _ _ _ _ _
 have hk:∀b o,h.get? b=some o->((h.push {cls:=.type "tuple",data:=.seq rest.toArray}).push (n8 C h.objs.size)).get? b=some o:=fun b o e=>gY _ (gY _ e)
 have hC₁:=hk _ _ hC
 have hfI₁:=hk _ _ hfI
 have hget:((h.push {cls:=.type "tuple",data:=.seq rest.toArray}).push (n8 C h.objs.size)).get? (h.objs.size+1)=some (n8 C h.objs.size):=by heap_get
 have hcC:(Value.ref C::bm).contains (.ref C)=true:=by simp
 unfold isInstance
 repeat (first|with_reducible refine pI hget ?_|wp_step)
 show wpAny _ _ (isSubtype (.ref C) (.ref C)) _ _ _
 refine uB hC₁ ?_
 rw[hcC]
 repeat (first|with_reducible refine pI hget ?_|wp_step)
 show wpAny _ _ (typeLookup (.ref C) _) _ _ _
 refine(looks_findIn (X.keeps hk) hi).here ?_
 refine iQ (aM ?_)
 unfold bindSpecial
 refine aM (wpAny_typeOf (T:="function") ⟨_,hfI₁,hfc⟩ ?_)
 rw[au (by decide)]
 refine aX (aM (e8 (hq _ hk hget) (fun r s' hr=>?_) fun _ _ x=>x))
 obtain⟨rfl,hQ⟩:=hr
 wp_walk
 exact hQ
theorem zd (K:Frag):findCls K (.type "Exception") (.type "type") "__init__" =some (.val (.builtin "Exception.__init__")):=by kernel_rfl
theorem n9{h:Heap}{g:Array GenState}{d:Drawn}{t:Nat}{os:OsState}{nm q:Str}{C N:Addr}{bs bm bmB:List Value}{hdct:Bool}{sn:List Str}{sub:List Value}{ab:Bool}{col:Option Bool}{dd:Option Addr}{k0 k1 k2 k3 k5:Option Value}{B newId initId:String}{A:Around}{E:Value->Shared->Prop}{M:Model}(F:ExcBaseFacts B newId initId bmB)(hB:bm.contains (.type B)=true){e:Addr}{oe:Obj}{rest:List Value}{Q:Unit->Shared->Prop} (hC:h.get? C=some (excClassObj nm q C N bs bm hdct sn sub ab col dd k0 k1 k2 k3 k5 newId)) (he:h.get? e=some oe) (hcls:oe.cls= .ref C) (hq:Q () ⟨h,g,d,t,os⟩):wpAny M A (checkBuiltinCall initId ⟨.ref e::rest,[]⟩) Q E ⟨h,g,d,t,os⟩:=by
 have hcB:(Value.ref C::bm).contains (.type B)=true:=by rw[wG,hB,Bool.or_true]
 have hshort:=F.noStar;simp only[checkBuiltinCall,F.initKind,F.initSplit,F.initRow];repeat (first|(with_reducible refine pI he ?_;rw[hcls])|with_reducible refine pI hC ?_|(with_reducible refine uB hC ?_;rw[hcB])|wp_step)
 refine wpAny_onRaise ?_
 rw[show ∀(a b:String) (n:Nat),Bind.check ⟨.positional,"*",B,.self,[⟨"args",.varPos,false⟩]⟩ a b n (List.map (fun x=>x.fst) ({pos:=Value.ref e::rest}:Args).kw)=pure ()from
  fun a b n=>check_star_args _ _ _ _ _ _]
 exact aX hq
theorem B4{h:Heap}{g:Array GenState}{d:Drawn}{t:Nat}{os:OsState}{nm q:Str}{C N:Addr}{bs bm bmB:List Value}{hdct:Bool}{sn:List Str}{sub:List Value}{ab:Bool}{col:Option Bool}{dd:Option Addr}{k0 k1 k2 k3 k5:Option Value}{B newId initId:String}{prog:Program}{w:World}{A:Around}{E:Value->Shared->Prop}(F:ExcBaseFacts B newId initId bmB)(hB:bm.contains (.type B)=true){e:Addr}{sl:Array (Option Value)}{dx:Option Addr}{vs:Array Value}{t0:Addr}{x:Value}{Q:Value->Shared->Prop} (hC:h.get? C=some (excClassObj nm q C N bs bm hdct sn sub ab col dd k0 k1 k2 k3 k5 newId)) (he:h.get? e=some {cls:=.ref C,dict:=dx,data:=.fields vs,slots:=sl}) (hv:vs[0]?=some (.ref t0)) (hq:Q .none ⟨(h.push {cls:=.type "tuple",data:=.seq #[x]}).update e (Obj.mapFields (·.setIfInBounds 0 (.ref h.objs.size))),g,d,t,os⟩):wpAny (model prog w) A (call (.builtin initId) [.ref e,x]) Q E ⟨h,g,d,t,os⟩:=by
 have he':=gY {cls:=.type "tuple",data:=.seq #[x]} he;refine wpAny_call (codeAny_call_builtin F.init.plain F.initEntry (n9 F hB hC he rfl ?_))
 wp_walk;rw[hv];refine aX ?_
 refine aM (wpAny_setField he' rfl (Array.getElem?_eq_some_iff.mp hv).1 ?_)
 wp_walk
 exact hq
theorem zR{E:Value->Shared->Prop}{s:Shared}{K:Frag}(X:K.In s.heap)(hx:s.heap.get? x=some {cls:=.ref C,dict:=none,data:=.fields vs,slots:=sl})(hs:findIn K (.ref C) "__setattr__" =some (some (.builtin "object.__setattr__")))(hp:kS K C=true)(ht:takerIn K C f=some none)(hh:hasDictIn K C=true) (q:∀h',(∀b o,b≠x->s.heap.get? b=some o->h'.get? b=some o)->h'.get? x=some {cls:=.ref C,dict:=some s.heap.objs.size,data:=.fields vs,slots:=sl}->h'.get? s.heap.objs.size=some (dictOf [⟨PyData.keyHash w.params f,.str f (s.toks+1),v⟩] 1)->Q () {s with heap:=h',toks:=s.toks+2}):wpAny (model prog w) A (setAttr (.ref x) f v) Q E s:=by
 have I:InstAt s.heap x {cls:=.ref C,dict:=none,data:=.fields vs,slots:=sl} C none:=⟨hx,rfl,rfl,trivial⟩;refine set_plain X I hs (Ij (s:={s with toks:=s.toks+1}) X I hp ht fun b=>?_);obtain⟨cd,hc,hd'⟩:=any_some hh;refine aM (aX (aM (aM (wpAny_loadPart hx (aM ((looks_clsIn (h:=s.heap) X hc) _ _ _ _ (fun _ _ e=>e) ?_))))));rw[hd'];show wpAny _ _ (do
  let d <- alloc {cls:=.type "dict",data:=.dict #[]}
  update x fun o=>{o with dict:=some d}
  dictMade (.ref C) x d) _ _ _;refine aM (wpAny_alloc (aM (wpAny_update (gY _ hx) ?_)));have hlt:=jL hx;have ne:x≠s.heap.objs.size:=eo hlt;generalize hH:((s.heap.push {cls:=.type "dict",data:=.dict #[]}).update x fun o=>{o with dict:=some s.heap.objs.size})=H2;have D:H2.get? s.heap.objs.size=some (dictOf [] 0):=by rw[<- hH,km _ _ ne];exact Heap.get?_push_size _ rfl
 have DX:H2.get? x=some {cls:=.ref C,dict:=some s.heap.objs.size,data:=.fields vs,slots:=sl}:=by rw[<- hH];exact uI _ (gY _ hx) rfl
 have DO:∀b o,b≠x->s.heap.get? b=some o->H2.get? b=some o:=fun b o hb e=>by rw[<- hH,km _ _ (ci hb)];exact gY _ e
 refine aX (a:=some s.heap.objs.size) (aM (aX (aM ?_)));unfold nsSet;refine aM (aM (wpAny_askSetting (aX (aM (wpAny_mkText (aM (wpAny_loadPart D ?_)))))));have D':(H2.update s.heap.objs.size (Obj.putName f (PyData.keyHash w.params f) (.str f (s.toks+1)) v)).get? s.heap.objs.size=some (dictOf [⟨PyData.keyHash w.params f,.str f (s.toks+1),v⟩] 1):=by
  have e:=putName_dict f (PyData.keyHash w.params f) (.str f (s.toks+1)) v [] 0;have e':dictOf (putL f (PyData.keyHash w.params f) (.str f (s.toks+1)) v []) (putN f [] 0)=dictOf [⟨PyData.keyHash w.params f,.str f (s.toks+1),v⟩] 1:=rfl;rw[uI _ D (by rw[e];rfl),e,e']
 dsimp only;rw[aRefKeyMayBeTheName_at,show(!(#[]:Array DictEntry).any (·.key.isStr f)&&(#[]:Array DictEntry).any (·.refKey))=false by simp];refine wpAny_updatePart D ?_;refine aM (wpAny_lookBehind D' (by exact pastItsLine_dict (by rw[wH,sizeLine_eq];simp)) ?_);refine aX (q _ (fun b o hb e=>?_) ?_ D')
 ·rw[km _ _ (ci (eo (jL e)))];exact DO b o hb e
 ·rw[km _ _ (ci ne)];exact DX
theorem wm{E:Value->Shared->Prop}{sub:List Value}{ab:Bool}{col:Option Bool}{dd:Option Addr}{k0 k1 k2 k3 k5:Option Value}{newId:String}{x:Sem Value}{Q:Flow->Shared->Prop}(hbase:bm.contains (.type "BaseException")=true)(hh:A.handled=none) (h:wpAny M A x (fun v s₁=>∃e t dx,v= .ref e/\s₁.heap.get? C=some (excClassObj nm q C N bs bm hdct sn sub ab col dd k0 k1 k2 k3 k5 newId)/\s₁.heap.get? e=some {cls:=.ref C,dict:=some dx,data:=.fields #[.ref t,.none,.none,.none,.bool false,.none]}/\E (.ref e) s₁) E s):wpAny M A (raiseStmt env (some x) none) Q E s:=by
 have hcB:(Value.ref C::bm).contains (.type "BaseException")=true:=by rw[wG,hbase,Bool.or_true]
 unfold raiseStmt
 refine aM (e8 h (fun v s₁ h₁=>?_) fun _ _ x=>x)
 obtain⟨e,t,dx,rfl,hC,he,hE⟩:=h₁
 obtain⟨hp,g,d,tk,os⟩:=s₁
 repeat (first|with_reducible refine pI he ?_|with_reducible refine pI hC ?_|(with_reducible refine uB hC ?_;rw[hcB])|wp_step)
 exact wpAny_raiseNew_none hh hE
theorem Ok.take (h:Ok C k f x g i u m s)(j:a≠x.L)(n:C.G.get? a=none)(hk:a ∉ u.keys)(p:s.heap.get? a=some o):Ok C k f x g i (u.hold a o) m s:=h.step (t:=s.toks) (cC ..) rfl rfl h.F (jE ⟨p,j,n⟩ h.N) ((dk ..).mpr ⟨hk,h.nd⟩) h.len fun l b c q r=>(h.reps l b c q r).le (cC ..)
theorem zl (s:Sg)(a:Addr)(o p:Obj):(s.hold a o).keys=(s.hold a p).keys:=by simp only[Sg.keys,Sg.news,Sg.rest,Sg.hold,bZ,iE]
theorem qx (s:Sg)(a b:Addr)(o p:Obj):((s.hold b p).hold a o).news.Perm ((s.hold a o).hold b p).news:=(bt ..).trans (((bt ..).cons _).trans ((List.Perm.swap ..).trans ((((bt ..).symm).cons _).trans (bt ..).symm)))
theorem Ok.swap{u:Sg}(h:Ok C k g x i j ((u.hold a o).hold b p) m s):Ok C k g x i j ((u.hold b p).hold a o) m s:=h.step (t:=s.toks) ⟨fun _ _ e=>e,fun _ e=>e⟩ rfl rfl h.F (fun q hq=>h.N q ((qx u a b o p).mem_iff.mp hq)) (((qx u a b o p).map (·.1)).nodup_iff.mpr h.nd) h.len fun l b c n r=>(h.reps l b c n r).le (show((u.hold a o).hold _ p).sub ((u.hold _ p).hold a o)from⟨fun _ _ e=>e,fun _ e=>e⟩)
theorem Ok.let (h:Ok C k c x d e (u.hold a o) m s):Ok C k c x d e u m s:=h.unhold (t:=s.toks) (Heap.ExtBut.refl a s.heap)
theorem Ok.leave(a:Ok C k t x u j w m s)(hA:A.frames=some (w.frs.map (·.1)))(hr:iN o A):eQ C o A j w s:=⟨a.F.keep,bR a.F.above (ju a.F.ns.lt),fun p f=>⟨(a.N p f).1,(a.N p f).2.2⟩,a.nd,hA,a.fok,hr,a.gens,a.os,a.len,a.reps,a.tabs⟩
noncomputable abbrev dK:Str:=Str.ofString "self"
noncomputable abbrev ch:Str:=Str.ofString "what"
noncomputable abbrev sI:Str:=Str.ofString "at"
noncomputable abbrev Aq (C:Cx):Addr:=C.ca Bu
structure La (C:Cx)(nm q:Str)(N:Addr)(bs bm:List Value)(hdct:Bool)(sn:List Str)(sub:List Value)(ab:Bool)(col:Option Bool)(dd:Option Addr)(k0 k1 k2 k3 k5:Option Value):Prop where
 o:C.G.get? (Aq C)=some (excClassObj nm q (Aq C) N bs bm hdct sn sub ab col dd k0 k1 k2 k3 k5 "Exception.__new__")
 e:bm.contains (.type "Exception")=true
 b:bm.contains (.type "BaseException")=true
 a:bm.contains (.type "AttributeError")=false
 n:bm.contains (.type "NameError")=false
structure Ey (C:Cx)(n:Str):Prop where
 s:findIn C.K (.ref (Aq C)) "__setattr__" =some (some (.builtin "object.__setattr__"))
 p:kS C.K (Aq C)=true
 t:takerIn C.K (Aq C) n=some none
 d:hasDictIn C.K (Aq C)=true
structure KY (C:Cx):Prop extends KD C where
 cls:∃nm q N bs bm hdct sn sub ab col dd k0 k1 k2 k3 k5,La C nm q N bs bm hdct sn sub ab col dd k0 k1 k2 k3 k5
 ini:findIn C.K (.ref (Aq C)) "__init__" =some (some (.ref (C.fa 13 1)))
 fn:∃dV kV doc pm an ct sl,C.K.lookup (C.fa 13 1)=some ⟨.type "function",none,.func (fnOf (eY 13 1) (dN 13 1) (eK 13 1) (am 13 1) (ae 13 1) dV kV doc pm an (C.cdv 13 1) ct),sl⟩/\
  ∀s u v w,C.K.In s.heap->BindsTo s (fnOf (eY 13 1) (dN 13 1) (eK 13 1) (am 13 1) (ae 13 1) dV kV doc pm an (C.cdv 13 1) ct) ⟨[u,v,w],[]⟩ [(dK,u),(ch,v),(sI,w)]
 cd:codeIn C.K (C.cdv 13 1) (dN 13 1)=true
 set:∀n,n=ch\/n=sI->Ey C n
 kp:keepIn C.K (.ref (Aq C))=true
 exg:C.mg (Str.ofString "Exception")=none/\C.mb (Str.ofString "Exception")=some (.type "Exception")
theorem bL:(ae 13 1).names.lookup dK=some .local/\(ae 13 1).names.lookup ch=some .local/\(ae 13 1).names.lookup sI=some .local/\(ae 13 1).names.lookup (Str.ofString "Exception")=some .globalImplicit:=⟨rfl,rfl,rfl,rfl⟩
theorem fJ:(ae 13 1).kind= .function/\(ae 13 1).isCoroutine=false/\(ae 13 1).isGenerator=false/\(ae 13 1).names.all (fun q=>q.2 != .cell)=true:=⟨rfl,rfl,rfl,rfl⟩
theorem zm:∃m k n o l p q r s f g h i j,am 13 1=[.Expr (.Call (.Attribute (.Name (Str.ofString "Exception") m) (Str.ofString "__init__") k) [.Name dK n,.Name ch o] [] l) p,.Assign [.Attribute (.Name dK q) ch r] (.Name ch s) f,.Assign [.Attribute (.Name dK g) sI h] (.Name sI i) j]/\(k.endLine==l.line)=true:=⟨_,_,_,_,_,_,_,_,_,_,_,_,_,_,rfl,rfl⟩
noncomputable abbrev cV (C:Cx)(d:Option Addr)(t:Addr):Obj:={cls:=.ref (Aq C),dict:=d,data:=.fields #[.ref t,.none,.none,.none,.bool false,.none],slots:=#[]}
theorem xW(hk:e.key.isStr n=false):putL n h k v [e]=[e,⟨h,k,v⟩]:=by show(if e.key.isStr n=true then _ else e::[⟨h,k,v⟩])=_;rw[hk];rfl
theorem nu (h:Ok C k a x c d t m s)(hk:a.scope.names.lookup y=some .local)(b:m y=some u)(hd:(y==("__debug__":Str))=false){E:Value->Shared->Prop}(q:Q u s):wpAny (model C.prog C.w) x.A (eval (.Name y p) (x.env a)) Q E s:=wpAny_Name (wpAny_loadName_local (env:=x.env a) h.kd hk h.F.ns b q) hd
theorem oQ (h:Ok C k a x o p t m s)(c:a.scope.names.lookup dK=some .local)(d:a.scope.names.lookup y=some .local)(g:m dK=some (.ref e))(i:m y=some u)(hd:(y==("__debug__":Str))=false){E:Value->Shared->Prop} (q:wpAny (model C.prog C.w) x.A (setAttr (.ref e) f u) (fun _ b=>Q .next b) E s):wpAny (model C.prog C.w) x.A (exec (.Assign [.Attribute (.Name dK j) f l] (.Name y r) n) (x.env a)) Q E s:=wpAny_Assign_stores (nu h d i hd (by
  show wpAny _ _ (assign (.Attribute (.Name dK j) f l) (x.env a) u) _ _ _;rw[assign_Attribute];exact aM (iQ (nu h c g (by decide+kernel) (aM (mB (aM (iQ (e8 q (fun _ b hq=>wpAny_release hq) fun _ _ z=>z))))))))) rfl rfl
theorem B7:typeOf (.type "Exception")=pure (.type "type"):=by kernel_rfl
theorem B6:Manifest.isStub "Exception" =false:=by kernel_rfl
abbrev HD (C:Cx)(k:Nat)(x:Fx)(a:MF)(b:MS)(t:Sg)(m:Str->Option Value)(s:Shared):Prop:=Ok C k (C.fi 13 1) x a b t m s
theorem JZ{C:Cx}{k:Nat}{x:Fx}{mf:MF}{ms:MS}{z:Sg}{m:Str->Option Value}{s:Shared}{e t0:Addr}{Q:Flow->Shared->Prop}{E:Value->Shared->Prop}(H:KY C){u:Value}{p1 p2 p3 p4 p5 p6:Pos}(hl:(p2.endLine==p5.line)=true)(h:HD C k x mf ms (z.hold e (cV C none t0)) m s)(h1:m dK=some (.ref e))(h2:m ch=some u)
  (q:∀s' t',HD C k x mf ms (z.hold e (cV C none t')) m s'->Q .next s'):wpAny (model C.prog C.w) x.A (exec (.Expr (.Call (.Attribute (.Name (Str.ofString "Exception") p1) (Str.ofString "__init__") p2) [.Name dK p3,.Name ch p4] [] p5) p6) (x.env (C.fi 13 1))) Q E s:=by
 obtain⟨nm,qn,N,bs,bm,hdct,sn,sub,ab,col,dd,k0,k1,k2,k3,k5,c⟩:=H.cls
 refine wpAny_Expr_any (MethodCall_ ?_ (jB rfl hl (show 2<30 by decide) rfl)) (eX h.kd) rfl
 refine uA (env:=x.env (C.fi 13 1)) h.kd bL.2.2.2 (loadGlobal_builtin (env:=x.env (C.fi 13 1)) (H.R.g.keeps h.F.keep) H.exg.1 (H.R.b.keeps h.F.keep) H.exg.2 ?_) (by decide+kernel)
 refine method_type h.F H.X B7 B6 (zd _) rfl (cJ rfl ?_)
 have ht:=h.toks (s.toks+1)
 show wpAny _ _ (spliced (backTo p5 ((false,eval (.Name dK p3) (x.env (C.fi 13 1)))::(false,eval (.Name ch p4) (x.env (C.fi 13 1)))::[]))) _ _ _
 refine k7 (nu ht bL.1 h1 (by decide+kernel) (k7 (nu ht bL.2.1 h2 (by decide+kernel) (spliced_nil ⟨ik,?_⟩))))
 refine B4 F.excBase_Exception c.e (h.F.keep _ _ c.o) h.held.g rfl ?_
 have g:=h.grow (h':=s.heap.push {cls:=.type "tuple",data:=.seq #[u]}) (s.toks+1) fun b o e=>gY _ e
 exact q _ s.heap.objs.size (g.rehold (t:=s.toks+1) (Heap.SameBut.update ..) ((uI _ g.held.g rfl).trans rfl))
theorem J0{a:Sg}{E:Value->Shared->Prop}(H:KY C)(h:HD C k x r ms (a.hold e (cV C none i)) m s)(h1:m dK=some (.ref e))(h2:m ch=some u) (q:∀j d w h t,HD C k x r ms ((a.hold e (cV C (some d) i)).hold d (dictOf [⟨h,.str ch t,w⟩] 1)) m j->Q .next j):wpAny (model C.prog C.w) x.A (exec (.Assign [.Attribute (.Name dK p7) ch p8] (.Name ch p9) p10) (x.env (C.fi 13 1))) Q E s:=by have c:=H.set ch (.inl rfl);refine oQ h bL.1 bL.2.1 h1 h2 (by decide+kernel) (zR (H.X.keeps h.F.keep) h.held.g c.s c.p c.t c.d fun n hk hx hd=>?_);have w:=h.held;have lt:=jL w.g;have f:=(h.unhold (t:=s.toks+2) (h':=n) fun b o hb=>hk b o hb).take w.L w.G w.k hx;exact q _ s.heap.objs.size _ _ _ (f.take (h.fresh_L (cc _)) (h.fresh_G (cc _)) (fun z=>h.fresh (cc _) (zl a e _ (cV C none i)▸z)) hd)
theorem J1{u:Sg}{E:Value->Shared->Prop}(H:KY C)(h:HD C k x mf ms ((u.hold e (cV C (some d) t0)).hold d (dictOf [⟨j,.str ch f,o⟩] 1)) m s)(h1:m dK=some (.ref e))(h2:m sI=some (.int z tz)) (q:∀s' es n,g7 z es->HD C k x mf ms ((u.hold e (cV C (some d) t0)).hold d (dictOf es n)) m s'->Q .next s'):wpAny (model C.prog C.w) x.A (exec (.Assign [.Attribute (.Name dK p7) sI p8] (.Name sI p9) p10) (x.env (C.fi 13 1))) Q E s:=by
 have c:=H.set sI (.inr rfl);have hd:=h.held;have he:=h.swap.held;have ne:e≠d:=fun q=>by rw[q]at he;exact nomatch (e9 (he.g.symm.trans hd.g))
 have wk:(Value.str ch f).isStr sI=false:=by rw[gT,kR];decide
 have md:(d,dictOf [⟨j,.str ch f,o⟩] 1)∈ ((u.hold e (cV C (some d) t0)).hold d (dictOf [⟨j,.str ch f,o⟩] 1)).news:=(bt ..).mem_iff.mpr (.head _);refine oQ h bL.1 bL.2.2.1 h1 h2 (by decide+kernel) (zQ h.F H.X h.N (es:=[⟨j,.str ch f,o⟩]) ⟨he.g,rfl,rfl,hd.g⟩ rfl c.s c.p c.t c.d ?_ rfl (wF _ h.nd md) (by rw[xW wk];exact bR (by decide:2<=10) (by decide)) fun h' F' N'=>?_)
 ·unfold getL;simp[wk]
  rfl
 ·rw[xW wk]at N';refine q _ [⟨j,.str ch f,o⟩,⟨PyData.keyHash C.w.params sI,.str sI (s.toks+1),.int z tz⟩] (putN sI [⟨j,.str ch f,o⟩] 1) ⟨_,_,_,_,_,_,rfl⟩ ?_;exact h.let.step (t:=s.toks+2) (cC ..) rfl rfl F' (jE ⟨(N' (d,_) (List.mem_map.mpr ⟨_,md,au rfl⟩)).1,hd.L,hd.G⟩ fun p hp=>by
   have np:p.1≠d:=fun q=>hd.k (List.mem_map.mpr ⟨p,hp,q⟩);exact N' p (List.mem_map.mpr ⟨p,(bt ..).mem_iff.mpr (.tail _ hp),aH np⟩)) ((dk ..).mpr ⟨hd.k,h.let.nd⟩) h.let.len fun l b c e1 e2=>(h.let.reps l b c e1 e2).le (cC ..)
theorem Cu{g:Sg}{E:Value->Shared->Prop}(H:KY C)(h:HD C k x mf ms (g.hold e (cV C none t0)) m s)(h1:m dK=some (.ref e))(h2:m ch=some u)(h3:m sI=some (.int z tz)) (q:∀s' t d es n,g7 z es->HD C k x mf ms ((g.hold e (cV C (some d) t)).hold d (dictOf es n)) m s'->Q .next s'):wpAny (model C.prog C.w) x.A (execs (am 13 1) (x.env (C.fi 13 1))) Q E s:=by refine zm.elim fun p1 z1=>z1.elim fun p2 z2=>z2.elim fun p3 z3=>z3.elim fun p4 z4=>z4.elim fun p5 z5=>z5.elim fun p6 z6=>z6.elim fun p7 z7=>z7.elim fun p8 z8=>z8.elim fun p9 z9=>z9.elim fun p10 z10=>z10.elim fun p11 z11=>z11.elim fun p12 z12=>z12.elim fun p13 z13=>z13.elim fun p14 z14=>z14.elim fun eb hl=>?_;rw[eb];exact wJ (JZ H hl h h1 h2 fun s1 t1 o1=>wJ (J0 H o1 h1 h2 fun s2 d w hh t o2=>wJ (J1 H o2 h1 h3 fun s3 es n ha o3=>wpAny_execs_nil (q s3 t1 d es n ha o3))))
theorem iN.inner(h:iN (k+1) A)(hu:(A.under c).depth<=A.depth+1/\(A.under c).units<=A.units+1/\(A.under c).handled=A.handled):iN k ((A.under c).deeper b):=⟨by have:=h.dep;have:=hu.1;show(A.under c).depth+1+4*k<960;lia,by have:=h.uni;have:=hu.2.1;show(A.under c).units+3+32*k<9600;lia,hu.2.2.trans h.hn⟩
theorem Ok.hold_imm{u:Sg}(h:Ok C k f x i j (u.hold a o) m s):u.le {u with imm:=(a,o)::u.imm}/\Ok C k f x i j {u with imm:=(a,o)::u.imm} m s:=
 have q:=h.held
 h.let.put_imm (t:=s.toks) h.let.F (fun p l=>(zC l).elim (fun e=>e▸ ⟨q.g,q.L,q.G⟩) (h.let.N p)) q.k
theorem Cs{s:Sg}(h:b∈Sg.keys {s with imm:=(a,o)::s.imm}):b=a\/b∈s.keys:=by have f:(Sg.news {s with imm:=(a,o)::s.imm}).Perm ((a,o)::s.news):=(uH _ (sC)).trans sC;exact zC ((f.map (·.1)).mem_iff.mp h)
theorem Jh{u:Sg}(hc:c.cp=false)(i:g7 z a)(h:Ok C k c x j l ((u.hold e (cV C (some d) t)).hold d (dictOf a n)) m s):∃w,u.le w/\Ap C k c x j l w m z e s:=by have he:=h.swap.held;have p:=h.swap.let.hold_imm;have o:e ∉ x.L::Sg.keys {u with imm:=(d,dictOf a n)::u.imm}:=fun q=>(zC q).elim he.L fun q=>he.k (((bt u d (dictOf a n)).map (·.1)).mem_iff.mpr (List.mem_cons.mpr (Cs q)));exact⟨_,p.1,p.2,⟨true,d,⟨_,_,⟨he.g,o,he.G,(by decide:1<6)⟩,.new rfl⟩,a,n,.inr (.head _),i⟩,hc⟩
theorem Fw (H:KY C)(hc:fi.cp=false)(h:Ok C (k+1) fi x mf ms r m s){E:Value->Shared->Prop} (q:∀s' e t d es n,g7 z es->Ok C (k+1) fi x mf ms ((r.hold e (cV C (some d) t)).hold d (dictOf es n)) m s'->Q (.ref e) s'):wpAny (model C.prog C.w) x.A (call (.ref (Aq C)) [u,.int z tz]) Q E s:=by
 refine H.cls.elim fun nm z1=>z1.elim fun qn z2=>z2.elim fun N z3=>z3.elim fun bs z4=>z4.elim fun bm z5=>z5.elim fun hdct z6=>z6.elim fun sn z7=>z7.elim fun sub z8=>z8.elim fun ab z9=>z9.elim fun col z10=>z10.elim fun dd z11=>z11.elim fun k0 z12=>z12.elim fun k1 z13=>z13.elim fun k2 z14=>z14.elim fun k3 z15=>z15.elim fun k5 c=>?_;refine H.fn.elim fun dV z16=>z16.elim fun kV z17=>z17.elim fun doc z18=>z18.elim fun pm z19=>z19.elim fun an z20=>z20.elim fun ct z21=>z21.elim fun sl z22=>z22.elim fun ho hbind=>?_;obtain⟨hp,g,dr,tk,os⟩:=s;refine B3 (H.X.keeps h.F.keep) F.excBase_Exception c.e c.a c.n (h.F.keep _ _ c.o) H.ini ((H.X.keeps h.F.keep) _ _ ho) rfl (fun h' hk he=>?_) (show 2<=sizeLine by decide);have hX:=(H.X.keeps h.F.keep).keeps hk;have okh:Ok C (k+1) fi x mf ms (r.hold (hp.objs.size+1) (cV C none hp.objs.size)) m ⟨h',g,dr,tk,os⟩:=h.hold (t:=tk) hk (eO _) he;obtain⟨oL,hoL,j⟩:=okh.toC;rw[Sg.up_f hc]at j;have okc':eQ C (k+1) x.A ms ((r.push (x.env fi) x.L oL).hold (hp.objs.size+1) (cV C none hp.objs.size)) ⟨h',g,dr,tk,os⟩:=j;refine wpAny_call (codeAny_call_function (cN (Nat.add_le_add_right (dn x.A.depth (4*(k+1))) 1) (pg (Nat.add_lt_add_right h.room.dep 1) (by decide))) (hX _ _ ho) rfl fJ.2.1 fJ.2.2.1 rfl (codeRec_of hX H.cd) (hbind _ _ _ _ hX _ _ _ _ ?_));refine wpAny_newFunctionEnv (fun y hy=>bne_iff_ne.mp (zE fJ.2.2.2 y hy)) (fun y hy=>?_) (fun h₁ hns hsb=>⟨((H.T.nolimit).keeps j.keep).fresh _ hsb,codeAny_func ?_⟩) fJ.1
 ·rcases zC hy with e|hy
  ·rw[e];exact bL.1
  ·rcases zC hy with e|hy
   ·rw[e];exact bL.2.1
   ·rw[List.mem_singleton.mp hy];exact bL.2.2.1
 ·have hk₁:∀b o,h'.get? b=some o->h₁.get? b=some o:=fun b o e=>hsb.extBut b o (eo (jL e)) (gY _ e);have hok:=okc'.enter (k:=k) (tk:=tk+([(dK,Value.ref (hp.objs.size+1)),(ch,u),(sI,Value.int z tz)]:List (Str×Value)).length) (x:=⟨(x.A.under (.builtin "type.__call__" ⟨[.ref (Aq C),u,.int z tz],[]⟩)).deeper (newEnv (ae 13 1) h'.objs.size mainGlobals [] (dN 13 1++".<locals>.") (some (C.fa 13 1)) (C.cdv 13 1) none builtinsNs),h'.objs.size,[],some h'.objs.size⟩) (fi:=C.fi 13 1) (mf:=⟨[],[]⟩) rfl hk₁ hns (by show Option.map _ x.A.frames=_;rw[j.st];rfl) (fun _=>rfl) fJ.1 (h.room.inner ⟨cc _,cc _,rfl⟩) (fun n v g e=>nomatch e) (fun n l g e=>nomatch e);refine Cu H hok rfl rfl rfl fun s' t d es n hat ok'=>?_;have hA:x.A.frames=some (((((r.push (x.env fi) x.L oL).hold (hp.objs.size+1) (cV C (some d) t)).hold d (dictOf es n)).frs).map (·.1)):=j.st;have okl:=ok'.leave hA h.room;have okd:Ok C (k+1) fi x mf ms ((r.hold (hp.objs.size+1) (cV C (some d) t)).hold d (dictOf es n)) m s':=eQ.down okh hoL rfl ⟨fun _ _ e=>e,fun _ e=>e⟩ (by rw[Sg.up_f hc];exact okl);exact⟨rfl,q s' _ t d es n hat okd⟩
theorem Dy (H:KY C){cp rp:Pos}(hc:fi.cp=false)(hg:fi.scope.names.lookup aU=some .globalImplicit)(ha:ay a=true)(h1:ax C (k+1) fi mf ms a (.ok (.int z)) ms1):d3 C (k+1) fi mf ms (.Raise (some (.Call (.Name aU np) [.Constant (.str w) kw p0,a] [] cp)) none rp) (.error z) mf ms1:=bO.err fun x u m s h Q E q=>by
 refine H.cls.elim fun nm z1=>z1.elim fun qn z2=>z2.elim fun N z3=>z3.elim fun bs z4=>z4.elim fun bm z5=>z5.elim fun f z6=>z6.elim fun sn z7=>z7.elim fun sub z8=>z8.elim fun ab z9=>z9.elim fun col z10=>z10.elim fun dd z11=>z11.elim fun k0 z12=>z12.elim fun k1 z13=>z13.elim fun k2 z14=>z14.elim fun k3 z15=>z15.elim fun k5 c=>?_;show wpAny _ _ (exec (.Raise _ none rp) _) _ _ _;rw[arm_exec_Raise];refine aM (mB (wm (C:=Aq C) (nm:=nm) (q:=qn) (N:=N) (bs:=bs) (bm:=bm) (hdct:=f) (sn:=sn) (sub:=sub) (ab:=ab) (col:=col) (dd:=dd) (k0:=k0) (k1:=k1) (k2:=k2) (k3:=k3) (k5:=k5) (newId:="Exception.__new__") c.b h.room.hn ?_));show wpAny _ _ (do let v <- eval (.Call (.Name aU np) [.Constant (.str w) kw p0,a] [] cp) (x.env fi);standAt rp;pure v) _ _ _;rw[lK rfl];refine aM (aM (uA (env:=x.env fi) h.kd hg (loadGlobal_global (env:=x.env fi) (H.R.g.keeps h.F.keep) H.sfg (cJ (by rw[List.all_cons,List.all_cons,ha];rfl) ?_)) (by decide+kernel)));rw[bM rfl,bM ha];refine k7 (Calls.Constant_str (pos:=p0) (k:=kw) (k7 (h1.go (h.toks _) fun σ1 m1 s1 u1 l1 ok1 r1=>spliced_nil ⟨keeps_K H.kp _ (H.X.keeps ok1.F.keep),?_⟩)));refine r1.elim fun tz ez=>?_;rw[ez];refine Fw H hc ok1 fun s2 e t d es n hat ok2=>aM (mB (aX ?_));obtain⟨r,le,ex⟩:=Jh hc hat ok2;exact⟨e,t,d,rfl,ok2.F.keep _ _ c.o,ok2.swap.held.g,q r m1 s2 e (l1.trans le) ex⟩
theorem KY.toKX(H:KY C):KX C:=⟨H.toKD,fun k g h i c z w a j l cp rp m hc d e f=>Dy H hc d e f⟩
def O3{s:Type}(f:nI->Option s)(a:s):Prop:=∃c,∀n,c<=n->f (Nb n)=some a
def W(f:nI->Option s)(Q:s->Prop):Prop:=∃a,Q a/\O3 f a
def uR{s:Type}(x:Option s)(P:s->Prop):Prop:=x.casesOn False P
inductive aj{α:Type}(x:Option α)(P:α->Prop):Prop
 |mk (a:α) (h:x=some a) (p:P a)
structure a9 (b:Bool)(A B:Prop):Prop where
 t:b=true->A
 f:b=false->B
noncomputable def cR{s:Type}(f:s->MS->Prop):Except Int s->MS->Prop:=fun r a=>r.casesOn (fun _=>False) fun v=>f v a
noncomputable def HR{s t:Type}(Q:Except Int t->MS->Prop)(f:s->MS->Prop):Except Int s->MS->Prop:=fun r b=>r.casesOn (fun z=>Q (.error z) b) fun v=>f v b
noncomputable abbrev Kv:=Except Int V->MS->Prop
noncomputable abbrev Kb:=Bool->MS->Prop
noncomputable abbrev Ks:=Except Int Fl->MF->MS->Prop
structure Call (k i j:Nat)(args:List V)(ms:MS)(Q:Kv):Prop where
 w:W (fun I=>I.callF k i j args ms) fun r=>Q r.1 r.2
structure EG (k:Nat)(e:E)(cells:List (Nat×Nat))(ms:MS)(Q:Kv):Prop where
 w:W (fun I=>I.ev k ⟨[],cells⟩ e ms) fun r=>Q r.1 r.2
structure aV (k:Nat)(t:E)(b:List S)(mf:MF)(ms:MS)(Q:Ks):Prop where
 w:W (fun I=>I.exW k mf t b ms) fun r=>Q r.1 r.2.1 r.2.2
structure mP (k:Nat)(t:T)(b:List S)(it:It)(mf:MF)(ms:MS)(Q:Fl->MF->MS->Prop):Prop where
 w:W (fun I=>I.exF k mf t b it ms) fun r=>Q r.1 r.2.1 r.2.2
structure j0 (k x:Nat)(c:List E)(e:E)(l:Nat)(it:It)(mf:MF)(ms:MS)(Q:MS->Prop):Prop where
 w:W (fun I=>I.compL k mf x c e l it ms) Q
structure ku (k x:Nat)(c:List E)(a b:E)(l:Nat)(it:It)(mf:MF)(ms:MS)(Q:MS->Prop):Prop where
 w:W (fun I=>I.dcompL k mf x c a b l it ms) Q
def Dh (x:Option (V×MS))(Q:Kv):Prop:=aj x fun q=>Q (.ok q.1) q.2
def OZ (k c:Nat)(b:List V)(d:MS)(Q:Kv):Prop:=k.casesOn False fun k=>Call k c 1 (.loc d.length::b) (d++[.inst c []]) (cR fun v f=>(ni v&&ie c)=true/\Q (.ok (.loc d.length)) f)
def OY (k:Nat)(e:E)(a:List (Nat×Nat))(b:List V)(c:MS)(Q:Kv):Prop:=k.casesOn False fun k=>b.casesOn (EG k e a c Q) fun _ _=>False
def Dj (k:Nat)(f:V)(a:List V)(g:MS)(Q:Kv):Prop:=f.casesOn False (fun _=>False) (fun _=>False) (fun _=>False) (fun _=>False) (fun _=>False) (fun _=>False) (fun i=>Call k i 0 a g Q) (fun c=>OZ k c a g Q) (fun t=>Dh (fZ g t a) Q) (fun b=>Dh (iH g b a) Q) (fun _=>False) (fun _ _ _=>False) (fun e d=>OY k e d a g Q) fun _=>False
def Dl (k:Nat)(t:MT)(o:V)(f:Nat)(a:List V)(b:MS)(Q:Kv):Prop:=t.casesOn (fun c j=>Call k c j (o::a) b Q) (Dh (iZ b o f a) Q)
section
variable (k:Nat) (mf:MF) (ms:MS) (Q:Kv) (R:Kb) (U:Ks)
def cq (v:V):Prop:=Q (.ok v) ms
def cp{u w:Type}(Q:u->w->Prop)(q:u×w):Prop:=Q q.1 q.2
def ck (v:V)(ms:MS):Prop:=Q (.ok v) ms
def Py (r:Bool):Prop:=Q (.ok (.bool r)) ms
def cr (r:Bool):Prop:=R r ms
def cn (b:Bool):Prop:=Q (.ok (.bool !b)) ms
def NA (a:List V)(ms:MS):Prop:=a.length<=1000000/\Q (.ok (.tup a)) ms
def Nv (b:List V)(ms:MS):Prop:=b.length<=1000000/\Q (.ok (.loc ms.length)) (ms++[.list b])
def cB (F:MS->Kv->Prop)(G:V->V->MS->Prop)(a:V)(ms:MS):Prop:=F ms (cR (G a))
def Nr (o:Op)(a b:V)(ms:MS):Prop:=Dh (c8 ms o a b) Q
def Nw (a:V)(ms:MS):Prop:=aj (KS a) (cq ms Q)
def Pe (o:Cm)(a b:V)(ms:MS):Prop:=aj (bc ms o a b) (Py ms Q)
def Pf (o:Cm)(a b:V)(ms:MS):Prop:=aj (bc ms o a b) (cr ms R)
def Nx (a:V)(ms:MS):Prop:=aj (cD ms a) (cn ms Q)
def Nu{u:Type}(A B:MS->u->Prop)(Q:u)(c:Bool)(ms:MS):Prop:=a9 c (A ms Q) (B ms Q)
def O9 (f:Nat)(v:V)(ms:MS):Prop:=aj (aY ms v f) (cq ms Q)
def Ny (v i:V)(ms:MS):Prop:=aj (br ms v i) (cq ms Q)
def Pc (f:V)(a:List V)(ms:MS):Prop:=Dj k f a ms Q
def Lj (F:MS->(Except Int (List V)->MS->Prop)->Prop)(f:V)(ms:MS):Prop:=F ms (HR Q (Pc k Q f))
def Pm (t:MT)(o:V)(f:Nat)(a:List V)(ms:MS):Prop:=Dl k t o f a ms Q
def Pl (F:MS->(Except Int (List V)->MS->Prop)->Prop)(f:Nat)(o:V)(t:MT):Prop:=F ms (HR Q (Pm k Q t o f))
def Lk (F:MS->(Except Int (List V)->MS->Prop)->Prop)(f:Nat)(o:V)(ms:MS):Prop:=aj (c9 ms o f) (Pl k ms Q F f o)
def Nz (v:V)(ms:MS):Prop:=aj (cD ms v) (cr ms R)
def Pn (b:Bool)(ms:MS):Prop:=R (!b) ms
def Ph (Q:Except Int (List V)->MS->Prop)(v:V)(a:List V)(ms:MS):Prop:=Q (.ok (v::a)) ms
def Pg (F:MS->(Except Int (List V)->MS->Prop)->Prop)(Q:Except Int (List V)->MS->Prop)(v:V)(ms:MS):Prop:=F ms (HR Q (Ph Q v))
def OP (A B:Prop)(b:Bool):Prop:=a9 b A B
def O7 (r:List E)(F:MS->(V->MS->Prop)->Prop)(Q:V->MS->Prop)(v:V)(ms:MS):Prop:=bif r.isEmpty then Q v ms else aj (cD ms v) (OP (F ms Q) (Q v ms))
def Pq (r:List E)(F:MS->(V->MS->Prop)->Prop)(Q:V->MS->Prop)(v:V)(ms:MS):Prop:=bif r.isEmpty then Q v ms else aj (cD ms v) (OP (Q v ms) (F ms Q))
def O6 (F:MS->Kb->Prop)(b:Bool)(ms:MS):Prop:=a9 b (F ms R) (R false ms)
def Pb (F:MS->Kb->Prop)(b:Bool)(ms:MS):Prop:=a9 b (R true ms) (F ms R)
def Pt (f:Nat)(v:V)(Q:MS->Prop)(o:V)(ms:MS):Prop:=aj (fX ms o f v) Q
def Pu (v:V)(Q:MS->Prop)(o i:V)(ms:MS):Prop:=aj (fY ms o i v) Q
def Pw (F:List V->MF->MS->(MF->MS->Prop)->Prop)(Q:MF->MS->Prop)(a:List V):Prop:=F a mf ms Q
def OQ{u:Sort 1}(F:MF->MS->u->Prop)(Q:u)(mf:MF)(ms:MS):Prop:=F mf ms Q
def Po (mf:MF)(ms:MS):Prop:=U (.ok .next) mf ms
def O8 (F:V->MF->MS->(MF->MS->Prop)->Prop)(v:V)(ms:MS):Prop:=F v mf ms (Po U)
def Pi{u:Type}(_:u)(ms:MS):Prop:=U (.ok .next) mf ms
def O5 (n:Nat)(v:V)(ms:MS):Prop:=U (.ok .next) (mf.set n v) ms
def Ps (v:V)(ms:MS):Prop:=U (.ok (.ret v)) mf ms
def Pk (l:Fl)(mf:MF)(ms:MS):Prop:=U (.ok l) mf ms
def Pj (t:T)(b:List S)(i:It):Prop:=mP k t b i mf ms (Pk U)
def Nt (t:T)(b:List S)(v:V)(ms:MS):Prop:=aj (aA ms v) (Pj k mf ms U t b)
def cZ (z:Int):Prop:=U (.error z) mf ms
def Pr (v:V)(ms:MS):Prop:=uR (bl v) (cZ mf ms U)
end
mutual
noncomputable def pE (k:Nat)(mf:MF):E->MS->Kv->Prop
 | .val v=>fun ms Q=>Q (.ok v) ms
 | .loc n=>fun ms Q=>uR (mf.vars.lookup n) (cq ms Q)
 | .cell n=>fun ms Q=>aj (bn mf n ms) (cp Q)
 | .tup es=>fun ms Q=>pEs k mf es ms (HR Q (NA Q))
 | .list es=>fun ms Q=>pEs k mf es ms (cR (Nv Q))
 | .bin o a b=>fun ms Q=>pE k mf a ms (cR (cB (pE k mf b) (Nr Q o)))
 | .neg a=>fun ms Q=>pE k mf a ms (cR (Nw Q))
 | .cmp a o b=>fun ms Q=>pE k mf a ms (cR (cB (pE k mf b) (Pe Q o)))
 | .cmp2 a o b o' c=>fun ms Q=>pE k mf a ms (cR fun a ms=>pE k mf b ms (cR fun b ms=>aj (bc ms o a b) fun r=>a9 r (pE k mf c ms (cR fun c ms=>aj (bc ms o' b c) fun r=>Q (.ok (.bool r)) ms)) (Q (.ok (.bool false)) ms)))
 | .not a=>fun ms Q=>pE k mf a ms (cR (Nx Q))
 | .and es=>fun ms Q=>pAnd k mf es ms (ck Q)
 | .or es=>fun ms Q=>pOr k mf es ms (ck Q)
 | .ite t a b=>fun ms Q=>pB k mf t ms (Nu (pE k mf a) (pE k mf b) Q)
 | .attr e f=>fun ms Q=>pE k mf e ms (cR (O9 Q f))
 | .sub e i=>fun ms Q=>pE k mf e ms (cR (cB (pE k mf i) (Ny Q)))
 | .slice e lo hi=>fun ms Q=>pE k mf e ms (cR fun v ms=>pO k mf lo ms fun lo ms=>pO k mf hi ms fun hi ms=>Dh (bV ms v lo hi) Q)
 | .call f es=>fun ms Q=>pE k mf f ms (cR (Lj k Q (pEs k mf es)))
 | .meth o f es=>fun ms Q=>pE k mf o ms (cR (Lk k Q (pEs k mf es) f))
 | .comp fv x it c e=>fun ms Q=>pE k mf it ms (HR Q fun v ms=>aj (aA ms v) fun i=>dh fv mf.cells=true/\j0 k x c e ms.length i ⟨[],jH fv mf.cells⟩ (ms++[.list []]) fun ms'=>Q (.ok (.loc ms.length)) ms')
 | .dcomp fv x it c a b=>fun ms Q=>pE k mf it ms (cR fun v ms=>aj (aA ms v) fun i=>dh fv mf.cells=true/\ku k x c a b ms.length i ⟨[],jH fv mf.cells⟩ (ms++[.dictS []]) fun ms'=>Q (.ok (.loc ms.length)) ms')
 | .dict ks es=>fun ms Q=>pEs k mf es (ms++[.dictB []]) (cR fun vs ms'=>aj (ms'[ms.length]?) fun m=>uR (rj m) fun kvs=>(kvs.length=0/\ks.length<15/\ks.length=vs.length)/\Q (.ok (.loc ms.length)) (ms'.set ms.length (.dictB (kD (ks.zip vs)))))
 | .sdict=>fun ms Q=>Q (.ok (.loc ms.length)) (ms++[.dictS []])
 | .lam fv e=>fun ms Q=>dh fv mf.cells=true/\Q (.ok (.lam e (jH fv mf.cells))) ms
noncomputable def pB (k:Nat)(mf:MF):E->MS->Kb->Prop
 | .cmp a o b=>fun ms Q=>pE k mf a ms (cR (cB (pE k mf b) (Pf Q o)))
 | .cmp2 a o b o' c=>fun ms Q=>pE k mf a ms (cR fun a ms=>pE k mf b ms (cR fun b ms=>aj (bc ms o a b) fun r=>a9 r (pE k mf c ms (cR fun c ms=>aj (bc ms o' b c) fun r=>Q r ms)) (Q false ms)))
 | .not a=>fun ms Q=>pB k mf a ms (Pn Q)
 | .and es=>fun ms Q=>pAll k mf es ms Q
 | .or es=>fun ms Q=>pAny k mf es ms Q
 | .ite t a b=>fun ms Q=>pB k mf t ms (Nu (pB k mf a) (pB k mf b) Q)
 | .val v=>fun ms Q=>aj (cD ms v) (cr ms Q)
 | .loc n=>fun ms Q=>uR (mf.vars.lookup n) fun v=>Nz Q v ms
 | .call f es=>fun ms Q=>pE k mf f ms (cR fun f ms=>pEs k mf es ms (cR fun vs ms=>Dj k f vs ms (cR (Nz Q))))
 | .meth o f es=>fun ms Q=>pE k mf o ms (cR fun o ms=>aj (c9 ms o f) fun t=>pEs k mf es ms (cR fun vs ms=>Dl k t o f vs ms (cR (Nz Q))))
 |_=>fun _ _=>False
noncomputable def pEs (k:Nat)(mf:MF):List E->MS->(Except Int (List V)->MS->Prop)->Prop
 | []=>fun ms Q=>Q (.ok []) ms
 |e::es=>fun ms Q=>pE k mf e ms (HR Q (Pg (pEs k mf es) Q))
noncomputable def pO (k:Nat)(mf:MF):List E->MS->(Option V->MS->Prop)->Prop
 | []=>fun ms Q=>Q none ms
 |e::_=>fun ms Q=>pE k mf e ms (cR fun v ms=>Q (some v) ms)
noncomputable def pAnd (k:Nat)(mf:MF):List E->MS->(V->MS->Prop)->Prop
 | []=>fun _ _=>False
 |e::r=>fun ms Q=>pE k mf e ms (cR (O7 r (pAnd k mf r) Q))
noncomputable def pOr (k:Nat)(mf:MF):List E->MS->(V->MS->Prop)->Prop
 | []=>fun _ _=>False
 |e::r=>fun ms Q=>pE k mf e ms (cR (Pq r (pOr k mf r) Q))
noncomputable def pAll (k:Nat)(mf:MF):List E->MS->Kb->Prop
 | []=>fun ms Q=>Q true ms
 |e::r=>fun ms Q=>pB k mf e ms (O6 Q (pAll k mf r))
noncomputable def pAny (k:Nat)(mf:MF):List E->MS->Kb->Prop
 | []=>fun ms Q=>Q false ms
 |e::r=>fun ms Q=>pB k mf e ms (Pb Q (pAny k mf r))
end
mutual
noncomputable def pT (k:Nat):T->V->MF->MS->(MF->MS->Prop)->Prop
 | .loc n=>fun v mf ms Q=>Q (mf.set n v) ms
 | .cell n=>fun v mf ms Q=>aj (iy mf n v ms) (cp Q)
 | .attr e f=>fun v mf ms Q=>pE k mf e ms (cR (Pt f v (Q mf)))
 | .sub e i=>fun v mf ms Q=>pE k mf e ms (cR (cB (pE k mf i) (Pu v (Q mf))))
 | .tup ts=>fun v mf ms Q=>uR (mV v) (Pw mf ms (pTs k ts) Q)
noncomputable def pTs (k:Nat):List T->List V->MF->MS->(MF->MS->Prop)->Prop
 | []=>fun vs mf ms Q=>vs=[]/\Q mf ms
 |t::ts=>fun vs mf ms Q=>match vs with
  | []=>False
  |v::vs=>pT k t v mf ms (OQ (pTs k ts vs) Q)
end
noncomputable def me (Q:Ks)(f:MF->MS->Prop):Ks:=fun r a b=>r.casesOn (fun z=>Q (.error z) a b) fun l=>l.casesOn (f a b) (Q (.ok .brk) a b) (Q (.ok .cont) a b) fun v=>Q (.ok (.ret v)) a b
noncomputable def LU{s:Type}(Q:Ks)(c:MF)(f:s->MS->Prop):Except Int s->MS->Prop:=fun r b=>r.casesOn (fun z=>Q (.error z) c b) fun v=>f v b
mutual
noncomputable def pS (k:Nat):S->MF->MS->Ks->Prop
 | .assign t e=>fun mf ms Q=>pE k mf e ms (LU Q mf (O8 mf Q (pT k t)))
 | .asgc n e=>fun mf ms Q=>pE k mf e ms (cR (O5 mf Q n))
 | .swap ns e=>fun mf ms Q=>pE k mf e ms (cR fun v ms=>uR (mV v) fun vs=>vs.length=ns.length/\Q (.ok .next) ⟨fN (ns.zip vs) mf.vars,mf.cells⟩ ms)
 | .expr e=>fun mf ms Q=>pE k mf e ms (LU Q mf (Pi mf Q))
 | .ret es=>fun mf ms Q=>match es with
  | []=>Q (.ok (.ret .none)) mf ms
  |e::_=>pE k mf e ms (LU Q mf (Ps mf Q))
 | .ite t a b=>fun mf ms Q=>pB k mf t ms (Nu (pSs k a mf) (pSs k b mf) Q)
 | .while t b=>fun mf ms Q=>aV k t b mf ms Q
 | .for t it b=>fun mf ms Q=>pE k mf it ms (cR (Nt k mf Q t b))
 | .cont=>fun mf ms Q=>Q (.ok .cont) mf ms
 | .raise e=>fun mf ms Q=>match k with
  |0=>False
  |k+1=>pE (k+1) mf e ms (cR (Pr mf Q))
 | .try b x h=>fun mf ms Q=>pSs k b mf ms fun r mf ms=>r.casesOn (fun z=>Q (.ok (.ret (.tup [.str h,.int z]))) (mf.del x) ms) fun l=>Q (.ok l) mf ms
 | .stuck=>fun _ _ _=>False
noncomputable def pSs (k:Nat):List S->MF->MS->Ks->Prop
 | []=>fun mf ms Q=>Q (.ok .next) mf ms
 |s::r=>fun mf ms Q=>pS k s mf ms (me Q (OQ (pSs k r) Q))
end
theorem aj.elim{P:s->Prop}{C:Prop}(h:aj x P)(k:∀a,x=some a->P a->C):C:=match h with|⟨a,e,p⟩=>k a e p
theorem Di{P:s->Prop}(h:uR x P):∃a,x=some a/\P a:=by cases x with|none=>exact h.elim|some a=>exact⟨a,rfl,h⟩
theorem bY{a:s}(e:x=some a)(h:P a):uR x P:=e▸h
theorem W.mono{R:s->Prop}(h:W f Q)(k:∀b,Q b->R b):W f R:=h.imp fun a=>k6 (k a)
theorem W.ret{x:Option s}(h:uR x Q):W (fun _=>x) Q:=(Di h).imp fun a q=>⟨q.2,0,fun _ _=>q.1⟩
theorem W.rt{x:Option s}(h:aj x Q):W (fun _=>x) Q:=h.elim fun a e p=>W.ret (bY e p)
theorem W.pure{b:s}(h:Q b):W (fun _=>some b) Q:=⟨b,h,0,fun _ _=>rfl⟩
theorem W.p2{Q:s->γ->Prop}(h:Q a b):W (fun _=>some (a,b)) fun r=>Q r.1 r.2:=W.pure h
theorem W.bind{g:s->nI->Option t}(h:W f P)(k:∀a,P a->W (g a) Q):W (fun I=>(f I).bind fun a=>g a I) Q:=by obtain⟨a,p,c,h⟩:=h;obtain⟨b,q,d,k⟩:=k a p;exact⟨b,q,max c d,fun n e=>(congrArg (·.bind fun a=>g a (Nb n)) (h n (bR (Nat.le_max_left ..) e))).trans (k n (bR (Nat.le_max_right ..) e))⟩
theorem W.up{f:nI->Option s}(e:∀I,φ I.next=f I)(h:W f Q):W φ Q:=by refine h.elim fun b i=>i.elim fun q j=>j.elim fun c h=>?_;refine⟨b,q,c+1,fun n g=>?_⟩;cases n with|zero=>exact absurd g (ko c)|succ n=>exact(e (Nb n)).trans (h n (pH g))
theorem W.okB{f:nI->Rv s}{g:s->MS->nI->Option t}(h:W f fun r=>cR P r.1 r.2)(k:∀a b,P a b->W (g a b) Q):W (fun I=>Internal.dm (f I) fun a b=>g a b I) Q:=W.bind h fun r=>match r with|(.error z,b)=>fun h=>h.elim|(.ok a,b)=>k a b
theorem W.exB{f:nI->Rv s}{g:s->MS->nI->Rv t}(h:W f fun r=>HR Q P r.1 r.2)(k:∀a b,P a b->W (g a b) fun r=>Q r.1 r.2):W (fun I=>Internal.vH (f I) fun a b=>g a b I) fun r=>Q r.1 r.2:=W.bind h fun r=>match r with|(.error z,b)=>fun h=>W.pure h|(.ok a,b)=>k a b
theorem W.exS{f:nI->Rv s}{g:s->MS->nI->Rs}(h:W f fun r=>LU Q d P r.1 r.2)(k:∀a b,P a b->W (g a b) fun r=>Q r.1 r.2.1 r.2.2):W (fun I=>Internal.HS (f I) d fun a b=>g a b I) fun r=>Q r.1 r.2.1 r.2.2:=W.bind h fun r=>match r with|(.error z,b)=>fun h=>W.pure h|(.ok a,b)=>k a b
theorem W.boB{t u:MS->nI->Option s}{P:Bool->MS->Prop}(h:W f fun r=>P r.1 r.2)(b:∀a,P true a->W (t a) Q)(c:∀a,P false a->W (u a) Q):W (fun I=>Internal.Bq (f I) (fun a=>t a I) fun a=>u a I) Q:=W.bind h fun r=>match r with|(true,a)=>b a|(false,a)=>c a
theorem W.gt{g:s->nI->Option t}(h:aj x P)(k:∀a,P a->W (g a) Q):W (fun I=>x.bind fun a=>g a I) Q:=h.elim fun a e p=>W.bind (W.ret (bY e p)) k
theorem W.get{g:s->nI->Option t}(h:Internal.uR x P)(k:∀a,P a->W (g a) Q):W (fun I=>x.bind fun a=>g a I) Q:=W.bind (W.ret h) k
theorem W.if{Q:s->Prop}{c:Prop} [Decidable c]{P:Prop}{f:nI->Option s}(h:c/\P)(k:P->W f Q):W (fun I=>if c then f I else none) Q:=by exact(funext fun I=>au h.1:(fun I=>if c then f I else none)=f).symm▸k h.2
theorem W.ifp{s:Type}{γ:Type}{Q:s->γ->Prop}{c:Prop} [Decidable c]{a:s}{b:γ}(h:c/\Q a b):W (fun _=>if c then some (a,b)else none) fun r=>Q r.1 r.2:=W.if h W.p2
theorem Ig{Q:Except Int t->MS->Prop}{r:Except Int s}(h:cR P r a):HR Q P r a:=match r,h with| .ok _,h=>h
theorem W.mk(h:OZ k c a b Q):W (fun I=>OV I k c a b) fun r=>Q r.1 r.2:=match k,h with|0,h=>h.elim|k+1,h=>W.okB h.w fun v d h=>W.ifp h
theorem W.lm(h:OY k e b a c Q):W (fun I=>OW I k e b a c) fun r=>Q r.1 r.2:=match k,a,h with|0,_,h=>h.elim|k+1,[],h=>h.w|k+1,_::_,h=>h.elim
theorem W.optV(h:Internal.Dh x Q):W (fun _=>x.bind fun q=>some ((.ok q.1:Except Int V),q.2)) fun r=>Q r.1 r.2:=W.gt h fun q h=>W.p2 h
theorem W.call(h:Dj k f a g Q):W (fun I=>w7 I k f a g) fun r=>Q r.1 r.2:=by cases f with|fn i=>exact h.w|cls c=>exact W.mk h|ty t=>exact W.optV h|bi b=>exact W.optV h|lam e d=>exact W.lm h|_=>exact h.elim
theorem W.meth(h:Dl k t o f a b Q):W (fun I=>w6 I k t o f a b) fun r=>Q r.1 r.2:=by cases t with|own c j=>exact h.w|bi=>exact W.optV h
theorem W.byV{Q:Kb}(h:W (fun I=>I.ev k c e a) fun r=>cR (fun v a=>aj (cD a v) fun b=>Q b a) r.1 r.2):W (fun I=>rq I k c e a) fun r=>Q r.1 r.2:=W.okB h fun v a h=>W.gt h fun b h=>W.p2 h
theorem W.ev(h:W (fun I=>HQ I k a e b) Q):W (fun I=>I.ev k a e b) Q:=W.up (fun _=>rfl) h
theorem W.evB(h:W (fun I=>I9 I k a e b) Q):W (fun I=>I.evB k a e b) Q:=W.up (fun _=>rfl) h
section
variable (k:Nat) (mf:MF)
mutual
theorem aQ:∀(e:E) (ms:MS) (Q:Kv),pE k mf e ms Q->W (fun I=>I.ev k mf e ms) fun r=>Q r.1 r.2
 | .val v,ms,Q,h=>W.ev (W.p2 h)
 | .loc n,ms,Q,h=>W.ev (W.get h fun v h=>W.p2 h)
 | .cell n,ms,Q,h=>W.ev (W.rt h)
 | .tup es,ms,Q,h=>W.ev (W.exB (pEs_ok es ms _ h) fun vs ms h=>W.ifp h)
 | .list es,ms,Q,h=>W.ev (W.okB (pEs_ok es ms _ h) fun vs ms h=>W.ifp h)
 | .bin o a b,ms,Q,h=>W.ev (W.okB (aQ a ms _ h) fun a ms h=>W.okB (aQ b ms _ h) fun b ms h=>W.optV h)
 | .neg a,ms,Q,h=>W.ev (W.okB (aQ a ms _ h) fun a ms h=>W.gt h fun v h=>W.p2 h)
 | .cmp a o b,ms,Q,h=>W.ev (W.bind (P:=fun q=>Q (.ok (.bool q.1)) q.2) (W.okB (aQ a ms _ h) fun a ms h=>W.okB (aQ b ms _ h) fun b ms h=>W.gt h fun v h=>W.p2 (Q:=fun r ms=>Q (.ok (.bool r)) ms) h) fun q h=>W.p2 h)
 | .cmp2 a o b o' c,ms,Q,h=>W.ev (W.bind (P:=fun q=>Q (.ok (.bool q.1)) q.2) (W.okB (aQ a ms _ h) fun a ms h=>W.okB (aQ b ms _ h) fun b ms h=>W.gt h fun r=>match r with
   |true=>fun h=>have h:=h.t rfl;W.okB (aQ c ms _ h) fun c ms h=>W.gt h fun r h=>W.p2 (Q:=fun r ms=>Q (.ok (.bool r)) ms) h
   |false=>fun h=>have h:=h.f rfl;W.p2 (Q:=fun r ms=>Q (.ok (.bool r)) ms) (a:=false) h) fun q h=>W.p2 h)
 | .not a,ms,Q,h=>W.ev (W.okB (aQ a ms _ h) fun a ms h=>W.gt h fun v h=>W.p2 h)
 | .and es,ms,Q,h=>W.ev (W.bind (pAnd_ok es ms _ h) fun q h=>W.p2 h)
 | .or es,ms,Q,h=>W.ev (W.bind (pOr_ok es ms _ h) fun q h=>W.p2 h)
 | .ite t a b,ms,Q,h=>W.ev (W.boB (pB_ok t ms _ h) (fun ms h=>have h:=h.t rfl;aQ a ms _ h) fun ms h=>have h:=h.f rfl;aQ b ms _ h)
 | .attr e f,ms,Q,h=>W.ev (W.okB (aQ e ms _ h) fun v ms h=>W.gt h fun v h=>W.p2 h)
 | .sub e i,ms,Q,h=>W.ev (W.okB (aQ e ms _ h) fun v ms h=>W.okB (aQ i ms _ h) fun v ms h=>W.gt h fun v h=>W.p2 h)
 | .slice e lo hi,ms,Q,h=>W.ev (W.okB (aQ e ms _ h) fun v ms h=>W.bind (pO_ok lo ms _ h) fun lo h=>W.bind (pO_ok hi lo.2 _ h) fun hi h=>W.optV h)
 | .call f es,ms,Q,h=>W.ev (W.okB (aQ f ms _ h) fun f ms h=>W.exB (pEs_ok es ms _ h) fun vs ms h=>W.call h)
 | .meth o f es,ms,Q,h=>W.ev (W.okB (aQ o ms _ h) fun o ms h=>W.gt h fun t h=>W.exB (pEs_ok es ms _ h) fun vs ms h=>W.meth h)
 | .comp fv x it c e,ms,Q,h=>W.ev (W.exB (aQ it ms _ h) fun v ms h=>W.gt h fun i h=>W.if h fun h=>W.bind h.w fun ms' h=>W.p2 h)
 | .dcomp fv x it c a b,ms,Q,h=>W.ev (W.okB (aQ it ms _ h) fun v ms h=>W.gt h fun i h=>W.if h fun h=>W.bind h.w fun ms' h=>W.p2 h)
 | .dict ks es,ms,Q,h=>W.ev (W.okB (pEs_ok es _ _ h) fun vs ms' h=>W.gt h fun m h=>W.get h fun kvs h=>W.ifp h)
 | .sdict,ms,Q,h=>W.ev (W.p2 h)
 | .lam fv e,ms,Q,h=>W.ev (W.ifp h)
theorem pB_ok:∀(e:E) (ms:MS) (Q:Kb),pB k mf e ms Q->W (fun I=>I.evB k mf e ms) fun r=>Q r.1 r.2
 | .cmp a o b,ms,Q,h=>W.evB (W.okB (aQ a ms _ h) fun a ms h=>W.okB (aQ b ms _ h) fun b ms h=>W.gt h fun v h=>W.p2 h)
 | .cmp2 a o b o' c,ms,Q,h=>W.evB (W.okB (Q:=fun r=>Q r.1 r.2) (g:=fun a ms I=>dm (I.ev k mf b ms) fun b ms=>(bc ms o a b).bind fun r=>r.casesOn (some (false,ms)) (dm (I.ev k mf c ms) fun c ms=>(bc ms o' b c).bind fun r=>some (r,ms))) (aQ a ms _ h) fun a ms h=>W.okB (aQ b ms _ h) fun b ms h=>W.gt h fun r=>match r with
   |true=>fun h=>have h:=h.t rfl;W.okB (aQ c ms _ h) fun c ms h=>W.gt h fun r h=>W.p2 (Q:=Q) h
   |false=>fun h=>have h:=h.f rfl;W.p2 (Q:=Q) (a:=false) h)
 | .not a,ms,Q,h=>W.evB (W.bind (pB_ok a ms _ h) fun q h=>W.p2 h)
 | .and es,ms,Q,h=>W.evB (pAll_ok es ms _ h)
 | .or es,ms,Q,h=>W.evB (pAny_ok es ms _ h)
 | .ite t a b,ms,Q,h=>W.evB (W.boB (pB_ok t ms _ h) (fun ms h=>have h:=h.t rfl;pB_ok a ms _ h) fun ms h=>have h:=h.f rfl;pB_ok b ms _ h)
 | .val v,ms,Q,h=>W.evB (W.byV (W.ev (W.p2 h)))
 | .loc n,ms,Q,h=>W.evB (W.byV (W.ev (W.get h fun v h=>W.p2 h)))
 | .call f es,ms,Q,h=>W.evB (W.byV (W.ev (W.okB (aQ f ms _ h) fun f ms h=>W.exB (Q:=cR fun v ms=>aj (cD ms v) fun b=>Q b ms) (W.mono (pEs_ok es ms _ h) fun r=>Ig) fun vs ms h=>W.call h)))
 | .meth o f es,ms,Q,h=>W.evB (W.byV (W.ev (W.okB (aQ o ms _ h) fun o ms h=>W.gt h fun t h=>W.exB (Q:=cR fun v ms=>aj (cD ms v) fun b=>Q b ms) (W.mono (pEs_ok es ms _ h) fun r=>Ig) fun vs ms h=>W.meth h)))
theorem pEs_ok:∀(es:List E) (ms:MS) (Q:Except Int (List V)->MS->Prop),pEs k mf es ms Q->W (fun I=>vG I k mf es ms) fun r=>Q r.1 r.2
 | [],ms,Q,h=>W.p2 h
 |e::es,ms,Q,h=>W.exB (aQ e ms _ h) fun v ms h=>W.exB (pEs_ok es ms _ h) fun vs ms h=>W.p2 h
theorem pO_ok:∀(es:List E) (ms:MS) (Q:Option V->MS->Prop),pO k mf es ms Q->W (fun I=>KN I k mf es ms) fun r=>Q r.1 r.2
 | [],ms,Q,h=>W.p2 h
 |e::es,ms,Q,h=>W.okB (aQ e ms _ h) fun v ms h=>W.p2 h
theorem pAnd_ok:∀(es:List E) (ms:MS) (Q:V->MS->Prop),pAnd k mf es ms Q->W (fun I=>tD I k mf es ms) fun r=>Q r.1 r.2
 | [],ms,Q,h=>h.elim
 | [e],ms,Q,h=>W.okB (Q:=fun r:V×MS=>Q r.1 r.2) (aQ e ms _ h) fun v ms h=>W.p2 (Q:=Q) (a:=v) h
 |e::e'::r,ms,Q,h=>W.okB (aQ e ms _ h) fun v ms h=>W.gt (Q:=fun r=>Q r.1 r.2) (g:=fun b I=>b.casesOn (some (v,ms)) (tD I k mf (e'::r) ms)) h fun b=>match b with
  |true=>fun h=>have h:=h.t rfl;pAnd_ok (e'::r) ms _ h
  |false=>fun h=>have h:=h.f rfl;W.p2 (Q:=Q) (a:=v) h
theorem pOr_ok:∀(es:List E) (ms:MS) (Q:V->MS->Prop),pOr k mf es ms Q->W (fun I=>B0 I k mf es ms) fun r=>Q r.1 r.2
 | [],ms,Q,h=>h.elim
 | [e],ms,Q,h=>W.okB (Q:=fun r:V×MS=>Q r.1 r.2) (aQ e ms _ h) fun v ms h=>W.p2 (Q:=Q) (a:=v) h
 |e::e'::r,ms,Q,h=>W.okB (aQ e ms _ h) fun v ms h=>W.gt (Q:=fun r=>Q r.1 r.2) (g:=fun b I=>b.casesOn (B0 I k mf (e'::r) ms) (some (v,ms))) h fun b=>match b with
  |true=>fun h=>have h:=h.t rfl;W.p2 (Q:=Q) (a:=v) h
  |false=>fun h=>have h:=h.f rfl;pOr_ok (e'::r) ms _ h
theorem pAll_ok:∀(es:List E) (ms:MS) (Q:Kb),pAll k mf es ms Q->W (fun I=>xf I k mf es ms) fun r=>Q r.1 r.2
 | [],ms,Q,h=>W.p2 h
 |e::r,ms,Q,h=>W.boB (pB_ok e ms _ h) (fun ms h=>have h:=h.t rfl;pAll_ok r ms _ h) fun ms h=>have h:=h.f rfl;W.p2 (Q:=Q) (a:=false) h
theorem pAny_ok:∀(es:List E) (ms:MS) (Q:Kb),pAny k mf es ms Q->W (fun I=>xg I k mf es ms) fun r=>Q r.1 r.2
 | [],ms,Q,h=>W.p2 h
 |e::r,ms,Q,h=>W.boB (pB_ok e ms _ h) (fun ms h=>have h:=h.t rfl;W.p2 (Q:=Q) (a:=true) h) fun ms h=>have h:=h.f rfl;pAny_ok r ms _ h
end
end
theorem W.store(h:W (fun I=>se I k a t v b) Q):W (fun I=>I.store k a t v b) Q:=W.up (fun _=>rfl) h
mutual
theorem Dm (k:Nat):∀(t:T) (v:V) (mf:MF) (ms:MS) (Q:MF->MS->Prop),pT k t v mf ms Q->W (fun I=>I.store k mf t v ms) fun r=>Q r.1 r.2
 | .loc n,v,mf,ms,Q,h=>W.store (W.p2 h)
 | .cell n,v,mf,ms,Q,h=>W.store (W.rt h)
 | .attr e f,v,mf,ms,Q,h=>W.store (W.okB (aQ k mf e ms _ h) fun o ms h=>W.gt h fun ms h=>W.p2 h)
 | .sub e i,v,mf,ms,Q,h=>W.store (W.okB (aQ k mf e ms _ h) fun o ms h=>W.okB (aQ k mf i ms _ h) fun i ms h=>W.gt h fun ms h=>W.p2 h)
 | .tup ts,v,mf,ms,Q,h=>W.store (W.get h fun vs h=>pTs_ok k ts vs mf ms _ h)
theorem pTs_ok (k:Nat):∀(ts:List T) (vs:List V) (mf:MF) (ms:MS) (Q:MF->MS->Prop),pTs k ts vs mf ms Q->W (fun I=>wv I k ts vs mf ms) fun r=>Q r.1 r.2
 | [],[],mf,ms,Q,h=>W.p2 h.2
 | [],_::_,mf,ms,Q,h=>nomatch h.1
 |_::_,[],mf,ms,Q,h=>h.elim
 |t::ts,v::vs,mf,ms,Q,h=>W.bind (Dm k t v mf ms _ h) fun q h=>pTs_ok k ts vs _ _ _ h
end
theorem W.ex(h:W (fun I=>LR I k a s b) Q):W (fun I=>I.ex k a s b) Q:=W.up (fun _=>rfl) h
theorem W.p3{Q:s->t->γ->Prop}(h:Q a b c):W (fun _=>some (a,b,c)) fun r=>Q r.1 r.2.1 r.2.2:=W.pure h
theorem W.seq{x:nI->Rs}{g:MF->MS->nI->Rs}(h:W x fun r=>me Q f r.1 r.2.1 r.2.2)(k:∀a b,f a b->W (g a b) fun r=>Q r.1 r.2.1 r.2.2):W (fun I=>(x I).bind fun q=>q.1.casesOn (fun z=>some (.error z,q.2)) fun l=>l.casesOn (g q.2.1 q.2.2 I) (some (.ok .brk,q.2)) (some (.ok .cont,q.2)) fun v=>some (.ok (.ret v),q.2)) fun r=>Q r.1 r.2.1 r.2.2:=W.bind h fun r=>match r with|(.error z,a,b)=>fun h=>W.p3 (Q:=Q) h|(.ok .next,a,b)=>k a b|(.ok .brk,a,b)=>fun h=>W.p3 (Q:=Q) h|(.ok .cont,a,b)=>fun h=>W.p3 (Q:=Q) h|(.ok (.ret v),a,b)=>fun h=>W.p3 (Q:=Q) h
mutual
theorem MB (k:Nat):∀(s:S) (mf:MF) (ms:MS) (Q:Ks),pS k s mf ms Q->W (fun I=>I.ex k mf s ms) fun r=>Q r.1 r.2.1 r.2.2
 | .assign t e,mf,ms,Q,h=>W.ex (W.exS (aQ k mf e ms _ h) fun v ms h=>W.bind (Dm k t v mf ms _ h) fun q h=>W.p3 (Q:=Q) h)
 | .asgc n e,mf,ms,Q,h=>W.ex (W.okB (aQ k mf e ms _ h) fun v ms h=>W.p3 (Q:=Q) h)
 | .swap ns e,mf,ms,Q,h=>W.ex (W.okB (aQ k mf e ms _ h) fun v ms h=>W.get h fun vs h=>W.if h fun h=>W.p3 (Q:=Q) h)
 | .expr e,mf,ms,Q,h=>W.ex (W.exS (aQ k mf e ms _ h) fun v ms h=>W.p3 (Q:=Q) h)
 | .ret [],mf,ms,Q,h=>W.ex (W.p3 (Q:=Q) h)
 | .ret (e::_),mf,ms,Q,h=>W.ex (W.exS (aQ k mf e ms _ h) fun v ms h=>W.p3 (Q:=Q) h)
 | .ite t a b,mf,ms,Q,h=>W.ex (W.boB (pB_ok k mf t ms _ h) (fun ms h=>have h:=h.t rfl;pSs_ok k a mf ms _ h) fun ms h=>have h:=h.f rfl;pSs_ok k b mf ms _ h)
 | .while t b,mf,ms,Q,h=>W.ex h.w
 | .for t it b,mf,ms,Q,h=>W.ex (W.okB (aQ k mf it ms _ h) fun v ms h=>W.gt h fun i h=>W.bind h.w fun q h=>W.p3 (Q:=Q) h)
 | .cont,mf,ms,Q,h=>W.ex (W.p3 (Q:=Q) h)
 | .raise e,mf,ms,Q,h=>W.ex (match k,h with
  |0,h=>h.elim
  |k+1,h=>W.okB (aQ (k+1) mf e ms _ h) fun v ms h=>W.get h fun z h=>W.p3 (Q:=Q) h)
 | .try b x h',mf,ms,Q,h=>W.ex (W.bind (pSs_ok k b mf ms _ h) fun r=>match r with
  |(.error z,mf,ms)=>fun h=>W.p3 (Q:=Q) (b:=mf.del x) h
  |(.ok f,mf,ms)=>fun h=>W.p3 (Q:=Q) h)
 | .stuck,mf,ms,Q,h=>h.elim
theorem pSs_ok (k:Nat):∀(ss:List S) (mf:MF) (ms:MS) (Q:Ks),pSs k ss mf ms Q->W (fun I=>Fc I k ss mf ms) fun r=>Q r.1 r.2.1 r.2.2
 | [],mf,ms,Q,h=>W.p3 (Q:=Q) h
 |s::r,mf,ms,Q,h=>W.seq (MB k s mf ms _ h) fun mf ms h=>pSs_ok k r mf ms _ h
end
theorem gC(e:Ci i j=some fn)(hf:fn.fits a=true)(h:pSs k fn.body (fn.mf a c.length) (c++fn.news a) fun r m c=>Q (bF r) c):Call (k+1) i j a c Q:=by
 refine⟨W.up (f:=fun I=>q5 I (k+1) i j a c) (fun _=>rfl) ?_⟩;have n:(fun I=>q5 I (k+1) i j a c)=fun I=>(Fc I k fn.body (fn.mf a c.length) (c++fn.news a)).bind fun q=>some (bF q.1,q.2.2):=by
  funext I;show(Ci i j).bind _=_;rw[e];exact au hf
 rw[n];exact W.bind (pSs_ok k _ _ _ _ h) fun r h=>W.p2 h
theorem ar(e:Ci i j=some fn)(hf:fn.fits a=true)(hc:fn.cells=[])(h:pSs k fn.body (fn.mf a b.length) b fun r d b=>Q (bF r) b):Call (k+1) i j a b Q:=by
 refine gC e hf ?_;have f:b++fn.news a=b:=by
  show b++fn.cells.map _=b;rw[hc];exact cF b
 rw[f];exact h
theorem Call.mono(h:Call k i j b c Q)(g:∀r c,Q r c->R r c):Call k i j b c R:=⟨W.mono h.w fun r=>g r.1 r.2⟩
theorem v9(h:pE k ⟨[],a⟩ e b Q):EG k e a b Q:=⟨aQ k _ e b Q h⟩
noncomputable def jY (Q:Ks)(f:MF->MS->Prop):Ks:=fun r a b=>r.casesOn (fun z=>Q (.error z) a b) fun l=>l.casesOn (f a b) False (f a b) fun v=>Q (.ok (.ret v)) a b
theorem bu(h:pB k d t a fun c a=>a9 c (pSs k b d a (jY Q fun d a=>aV k t b d a Q)) (Q (.ok .next) d a)):aV k t b d a Q:=.mk<|W.up (f:=fun I=>Jf I k d t b a) (fun _=>rfl) (W.boB (pB_ok k d t a _ h) (fun a h=>W.bind (pSs_ok k b d a _ (h.t rfl)) fun r=>match r with|(.error z,d,a)=>fun h=>W.p3 (Q:=Q) h|(.ok .next,d,a)=>fun h=>h.w|(.ok .brk,d,a)=>fun h=>h.elim|(.ok .cont,d,a)=>fun h=>h.w|(.ok (.ret v),d,a)=>fun h=>W.p3 (Q:=Q) h) fun a h=>W.p3 (Q:=Q) (h.f rfl))
noncomputable def rx (Q:Fl->MF->MS->Prop)(f:MF->MS->Prop):Ks:=fun r a b=>r.casesOn (fun _=>False) fun l=>l.casesOn (f a b) False (f a b) fun v=>Q (.ret v) a b
theorem jI(h:aj (next a g) fun o=>o.casesOn (Q .next c a) fun p=>pT k t p.1 c a fun c a=>pSs k b c a (rx Q fun c a=>mP k t b p.2 c a Q)):mP k t b g c a Q:=.mk<|W.up (f:=fun I=>Je I k c t b g a) (fun _=>rfl) (W.gt h fun o=>match o with|none=>fun h=>W.p3 (Q:=Q) h|some p=>fun h=>W.bind (Dm k t p.1 c a _ h) fun q h=>W.bind (pSs_ok k b q.1 q.2 _ h) fun r=>match r with|(.error z,c,a)=>fun h=>h.elim|(.ok .next,c,a)=>fun h=>h.w|(.ok .brk,c,a)=>fun h=>h.elim|(.ok .cont,c,a)=>fun h=>h.w|(.ok (.ret v),c,a)=>fun h=>W.p3 (Q:=Q) h)
def MA (k:Nat)(b:MF)(c:List E)(a:MS)(Q:Kb):Prop:=c.casesOn (Q true a) fun e _=>pB k b e a Q
theorem Dk (k:Nat)(a:MF)(c:List E)(b:MS)(Q:Kb)(h:MA k a c b Q):W (fun I=>Na I k a c b) fun r=>Q r.1 r.2:=match c,h with| [],h=>W.p2 h|e::_,h=>pB_ok k a e b _ h
theorem LF(h:aj (next a j) fun o=>o.casesOn (Q a) fun p=>MA k (g.set x p.1) c a fun b a=>a9 b (pE k (g.set x p.1) e a (cR fun u a=>aj (aC a (.loc l)) fun i=>i.length<1000000/\j0 k x c e l p.2 (g.set x p.1) (a.set l (.list (i++[u]))) Q)) (j0 k x c e l p.2 (g.set x p.1) a Q)):j0 k x c e l j g a Q:=.mk<|W.up (f:=fun I=>vt I k g x c e l j a) (fun _=>rfl) (W.gt h fun o=>match o with|none=>fun h=>W.pure h|some p=>fun h=>W.boB (Dk k _ c a _ h) (fun a h=>W.okB (aQ k _ e a _ (h.t rfl)) fun u a h=>W.gt h fun i h=>W.if h (·.w)) fun a h=>(h.f rfl).w)
theorem IX(h:aj (next d n) fun o=>o.casesOn (Q d) fun p=>MA k (i.set x p.1) c d fun t d=>a9 t (pE k (i.set x p.1) a d (cR fun u d=>pE k (i.set x p.1) b d (cR fun w d=>uR (mn u) fun s=>aj (d[l]?) fun m=>uR (rk m) fun g=>g.length<1000000/\ku k x c a b l p.2 (i.set x p.1) (d.set l (.dictS (ee s w g))) Q))) (ku k x c a b l p.2 (i.set x p.1) d Q)):ku k x c a b l n i d Q:=.mk<|W.up (f:=fun I=>re I k i x c a b l n d) (fun _=>rfl) (W.gt h fun o=>match o with|none=>fun h=>W.pure h|some p=>fun h=>W.boB (Dk k _ c d _ h) (fun d h=>W.okB (aQ k _ a d _ (h.t rfl)) fun u d h=>W.okB (aQ k _ b d _ h) fun w d h=>W.get h fun s h=>W.gt h fun m h=>W.get h fun g h=>W.if h (·.w)) fun d h=>(h.f rfl).w)
theorem a9.pos {b:Bool}{A B:Prop}(e:b=true)(h:A):a9 b A B:=⟨fun _=>h,fun n=>Bool.noConfusion (n.symm.trans e)⟩
theorem a9.neg {b:Bool}{A B:Prop}(e:b=false)(h:B):a9 b A B:=⟨fun n=>Bool.noConfusion (n.symm.trans e),fun _=>h⟩
theorem Ia {s:Type}(l:List s)(p:Nat):C9 l (p:Int)=l[p]?:=au (kq p)
theorem zh {ms:MS}{b:List UInt8}{p:Nat}{c:UInt8}(h:b[p]?=some c):br ms (.bytes b) (.int p)=some (.int c.toNat):=by
 show(C9 b (p:Int)).bind _=_
 rw[Ia,h];rfl
noncomputable def aT (b:List UInt8)(p e:Int):ah:=.inst 11 [(1635017060,.bytes b),(29793,.int p),(6581861,.int e)]
section
variable {ms:MS} {l:Nat} {b:List UInt8} {p e:Int}
theorem fH {f c:Nat}{fs:List (Nat×V)}(h:ms[l]?=some (.inst c fs))(t:jQ c f=true):aY ms (.loc l) f=fs.lookup f:=by
 show(ms[l]?).bind _=_
 rw[h]
 exact au t
theorem DJ {f c:Nat}{fs:List (Nat×V)}(v:V)(h:ms[l]?=some (.inst c fs))(t:jQ c f=true/\c≠14/\fs.length<20):fX ms (.loc l) f v=some (ms.set l (.inst c (ee f v fs))):=by
 show(ms[l]?).bind _=_
 rw[h]
 exact au t
theorem jV {f c j:Nat}{fs:List (Nat×V)}(h:ms[l]?=some (.inst c fs))(t:zx c f=some j)(n:fs.lookup f=none):c9 ms (.loc l) f=some (.own c j):=by
 show(ms[l]?).bind _=_
 rw[h]
 show(zx c f).bind _=_
 rw[t]
 exact au n
variable (h:ms[l]?=some (aT b p e))
include h
theorem eH:aY ms (.loc l) 1635017060=some (.bytes b):=fH h rfl
theorem bA:aY ms (.loc l) 29793=some (.int p):=fH h rfl
theorem dF:aY ms (.loc l) 6581861=some (.int e):=fH h rfl
theorem fU (q:Int):fX ms (.loc l) 29793 (.int q)=some (ms.set l (aT b q e)):=DJ _ h ⟨rfl,iP rfl,aP rfl⟩
theorem j4:c9 ms (.loc l) 28550397352178537=some (.own 11 2):=jV h rfl rfl
theorem vw:c9 ms (.loc l) 1801807216=some (.own 11 3):=jV h rfl rfl
theorem vy:c9 ms (.loc l) 1701536116=some (.own 11 4):=jV h rfl rfl
theorem IU:c9 ms (.loc l) 126943972390003=some (.own 11 5):=jV h rfl rfl
theorem IV:c9 ms (.loc l) 1885956979=some (.own 11 6):=jV h rfl rfl
theorem lH:c9 ms (.loc l) 479106432534407826467699=some (.own 11 7):=jV h rfl rfl
theorem nV:c9 ms (.loc l) 35399069105435650322875507060=some (.own 11 8):=jV h rfl rfl
theorem IW:c9 ms (.loc l) 7956982154510455827895616629619=some (.own 11 9):=jV h rfl rfl
end
local macro_rules | `(tactic|ktr_rel)=>`(tactic|first|refine aj.mk _ (by assumption) ?_|refine aj.mk _ rfl ?_|refine a9.pos rfl ?_|refine a9.neg rfl ?_|refine a9.pos (by assumption) ?_|refine a9.neg (by assumption) ?_|refine And.intro rfl ?_|refine And.intro (aP rfl) ?_|assumption)
structure Kp (P:Nat->Prop)(ms ms':MS):Prop where
 len:ms.length<=ms'.length
 get:∀i,¬P i->i<ms.length->ms'[i]?=ms[i]?
theorem bK{b:MS}(h:b[l]?=some o):l<b.length:=(List.getElem?_eq_some_iff.mp h).1
theorem Kp.at(k:Kp P b a)(h:b[i]?=some o)(n:¬P i):a[i]?=some o:=(k.get i n (bK h)).trans h
theorem Kp.refl (P:Nat->Prop)(b:MS):Kp P b b:=⟨cc _,fun _ _ _=>rfl⟩
theorem Kp.trans(x:Kp P a b)(y:Kp R b c)(h:∀i,i<a.length->R i->P i):Kp P a c:=⟨bR x.len y.len,fun i n j=>(y.get i (fun r=>n (h i j r)) (k9 j x.len)).trans (x.get i n j)⟩
theorem Kp.mono(x:Kp P a b)(h:∀i,i<a.length->P i->R i):Kp R a b:=⟨x.len,fun i n d=>x.get i (fun p=>n (h i d p)) d⟩
theorem Kp.tr(x:Kp P a b)(y:Kp P b c):Kp P a c:=x.trans y fun _ _ h=>h
theorem Kp.set(d:MS)(o:ah)(h:P l):Kp P d (d.set l o):=⟨iG (sD ..).symm,fun i n _=>List.getElem?_set_ne (fun e=>n ((show l=i from e)▸h))⟩
theorem Kp.app (P:Nat->Prop)(c g:MS):Kp P c (c++g):=⟨by rw[aK];exact dn ..,fun i n h=>Hw h⟩
theorem aq{a:MS}(x:ah)(h:a[l]?=some o):(a.set l x)[l]?=some x:=List.getElem?_set_self (bK h)
theorem ai{l:Nat}(g:MS)(h:b[l]?=some o):(b++g)[l]?=some o:=(Hw (bK h)).trans h
theorem ag (c:MS)(x:ah)(g:MS):(c++x::g)[c.length]?=some x:=by rw[my (cc _),pL];rfl
structure aE (b:List UInt8)(e p:Nat)(r:List UInt8):Prop where
 le:e<=b.length
 eq:(b.take e).drop p=r
 ln:p+r.length=e
theorem aE.lt (h:aE b e p (c::r)):p<e:=by have:=h.ln;rw[fj]at this;lia
theorem aE.tl (h:aE b e p (c::r)):aE b e (p+1) r:=⟨h.le,by rw[<- List.drop_drop,h.eq];rfl,by have:=h.ln;rw[fj]at this;rw[lb];assumption⟩
theorem aE.hd (h:aE b e p (c::r)):b[p]?=some c:=by
 have q:((b.take e).drop p)[0]?=some c:=by rw[h.eq];rfl
 rw[List.getElem?_drop,Nat.add_zero,List.getElem?_take_of_lt h.lt]at q;exact q
theorem aE.nil (h:aE b e p []):p=e:=h.ln
theorem aE.cut (h:aE b e p (t++r)):(b.take (p+t.length)).drop p=t:=by
 have j:p+t.length<=e:=by have:=h.ln;rw[aK]at this;lia
 have q:b.take (p+t.length)=(b.take e).take (p+t.length):=by rw[List.take_take,qH j]
 rw[q,List.drop_take,h.eq,uG,List.take_left]
theorem aE.dlt (h:aE b e p (c::r)):decide ((p:Int)< (e:Int))=true:=dD (Int.ofNat_lt.mpr h.lt)
theorem aE.dge (h:aE b e p (c::r)):decide ((p:Int)>= (e:Int))=false:=cO (Int.not_le.mpr (Int.ofNat_lt.mpr h.lt))
theorem aE.nlt (h:aE b e p []):decide ((p:Int)< (e:Int))=false:=by rw[h.nil];exact cO (Int.lt_irrefl _)
theorem aE.nge (h:aE b e p []):decide ((p:Int)>= (e:Int))=true:=by rw[h.nil];exact dD (Int.le_refl _)
theorem cx (a:MS)(x y:ah):(a++[x]).set a.length y=a++[y]:=by rw[ys _ _ (cc _),pL];rfl
theorem cX (a:MS)(f c:Nat)(d:List (Nat×V))(v:V)(t:jQ c f=true/\c≠14/\d.length<20):fX (a++[.inst c d]) (.loc a.length) f v=some (a++[.inst c (ee f v d)]):=(DJ v (ag a _ []) t).trans (congrArg some (cx a _ _))
theorem Ct{p:Nat}(a:MS)(n:Int)(hq:Q (.ok .none) (a++[aT b p (if n<0 then b.length else min n b.length)])):Call (k+1) 11 1 [.loc a.length,.bytes b,.int p,.int n] (a++[.inst 11 []]) Q:=by
 have l:=cX a 1635017060 11 [] (.bytes b) ⟨rfl,iP rfl,aP rfl⟩;have m:=cX a 29793 11 [(1635017060,.bytes b)] (.int p) ⟨rfl,iP rfl,aP rfl⟩;have h:=fun q=>cX a 6581861 11 [(1635017060,.bytes b),(29793,.int p)] (.int q) ⟨rfl,iP rfl,aP rfl⟩;refine ar (fn:=eA) rfl rfl rfl ?_;by_cases i:n<0
 ·rw[au i]at hq;have hd:=dD i;have h:=h b.length;repeat ktr_rel
 ·rw[aH i]at hq;have hd:=cO i;have h:=h (min n b.length);repeat ktr_rel
theorem d8{p e:Nat}(h:d[l]?=some (aT b p e))(hr:aE b e p r)(hq:Q (.ok (.bool r.isEmpty)) d):Call (k+1) 11 2 [.loc l] d Q:=by
 have j:=bA h;have m:=dF h;have g:decide ((p:Int)>=e)=r.isEmpty:=by cases r with
  |nil=>exact hr.nge|cons c r=>exact hr.dge
 refine ar (fn:=d4) rfl rfl rfl ?_;repeat ktr_rel
 rw[<- g]at hq;exact hq
noncomputable def xt (r:List UInt8):Int:=match r with| []=>-1|c::_=>c.toNat
theorem rP{p e:Nat}(h:a[l]?=some (aT b p e))(hr:aE b e p r)(hq:Q (.ok (.int (xt r))) a):Call (k+1) 11 3 [.loc l] a Q:=by have i:=bA h;have j:=dF h;have m:=eH h;refine ar (fn:=f9) rfl rfl rfl ?_;cases r with|nil=>have f:=hr.nlt;repeat ktr_rel|cons c r=>have f:=hr.dlt;have o:=zh (ms:=a) hr.hd;repeat ktr_rel
theorem mr{p e:Nat}(h:a[l]?=some (aT b p e))(hr:aE b e p (c::r))(hq:Q (.ok (.int c.toNat)) (a.set l (aT b (p+1:Nat) e))):Call (k+1) 11 4 [.loc l] a Q:=by have j:=bA h;have m:=dF h;have n:=eH h;have o:=hr.dge;have q:=zh (ms:=a) hr.hd;have s:=fU h (p+1);refine ar (fn:=gh) rfl rfl rfl ?_;repeat ktr_rel
theorem LZ(i j:Nat):bV ms (.bytes b) (some (.int i)) (some (.int j))=some (.bytes ((b.take j).drop i),ms):=by have q:∀d (i:Nat),b4 d (some (.int (i:Int)))=some i:=fun d i=>au (e:=none) (kq i);show Option.bind (b4 0 (some (.int (i:Int)))) (fun i=>Option.bind (b4 b.length (some (.int (j:Int)))) fun j=>some (V.bytes ((b.take j).drop i),ms))=_;rw[q,q];rfl
noncomputable def Au (x y:UInt8)(r:List UInt8):Bool:=decide (r.take 2=[x,y])
theorem aE.two (h:aE b e p r)(n:2<=r.length):(b.take (p+2)).drop p=r.take 2:=by have q:=aE.cut (t:=r.take 2) (r:=r.drop 2) (by rw[List.take_append_drop];exact h);rw[pK,qH n]at q;exact q
theorem DT{p e:Nat}(x y:UInt8)(h:f[l]?=some (aT b p e))(hr:aE b e p r)(hq:Q (.ok (.bool (Au x y r))) f):Call (k+1) 11 5 [.loc l,.bytes [x,y]] f Q:=by
 have u:=bA h;have v:=dF h;have w:=eH h;have q:=LZ (ms:=f) (b:=b) p (p+2);have m:(p:Int)+2=((p+2:Nat):Int):=rfl;refine ar (fn:=eT) rfl rfl rfl ?_;by_cases n:2<=r.length
 ·have o:decide ((p:Int)+2<=e)=true:=dD (by rw[m];exact Int.ofNat_le.mpr (by have:=hr.ln;lia));rw[hr.two n]at q;repeat ktr_rel
 ·have o:decide ((p:Int)+2<=e)=false:=cO (by rw[m];exact fun g=>n (by have:=hr.ln;have:=Int.ofNat_le.mp g;lia));have s:Au x y r=false:=cO fun g=>n (by have:=congrArg List.length g;rw[pK]at this;exact bR (iG this.symm) (uE _ _));rw[s.trans o.symm]at hq;repeat ktr_rel
theorem DP{p e:Nat}(x y:UInt8)(h:c[l]?=some (aT b p e))(hr:aE b e p r)(hq:(Au x y r=false->Q (.ok (.bool false)) c)/\(Au x y r=true->Q (.ok (.bool true)) (c.set l (aT b (p+2:Nat) e)))):Call (k+2) 11 6 [.loc l,.bytes [x,y]] c Q:=by have i:=bA h;have j:=fU h (p+2);have m:=IU h;refine ar (fn:=gb) rfl rfl rfl ?_;repeat ktr_rel;refine DT x y h hr ?_;ktr_rel;cases q:Au x y r with|true=>have hq:=hq.2 q;repeat ktr_rel|false=>have hq:=hq.1 q;repeat ktr_rel
noncomputable def sK (i:Int):Bool:=decide (0=i)||(decide (9=i)||(decide (10=i)||(decide (12=i)||(decide (13=i)||(decide (32=i)||false)))))
noncomputable def M9 (i:Int):Bool:=decide (40=i)||(decide (41=i)||(decide (60=i)||(decide (62=i)||(decide (91=i)||(decide (93=i)||(decide (123=i)||(decide (125=i)||(decide (47=i)||(decide (37=i)||false)))))))))
theorem vX (i:Int)(hq:Q (.ok (.bool (sK i))) b):Call (k+1) 8 0 [.int i] b Q:=by refine ar (fn:=j6) rfl rfl rfl ?_;repeat ktr_rel
noncomputable def rg (c:UInt8):Bool:=!sK c.toNat&&!M9 c.toNat
theorem rF (c:UInt8)(hq:Q (.ok (.bool (rg c))) f):Call (k+1) 9 0 [.int c.toNat] f Q:=by
 have j:decide ((c.toNat:Int)>=0)=true:=dD (kq _);refine ar (fn:=hU) rfl rfl rfl ?_;refine bS (sK c.toNat) ?_ ?_
 ·intro h;have d:rg c=!sK c.toNat:=by unfold rg;rw[h];rfl
  have g:(!sK c.toNat)=false:=by rw[h];rfl
  rw[d]at hq;repeat ktr_rel
 ·intro h;have d:rg c=!M9 c.toNat:=by unfold rg;rw[h];rfl
  have g:(!sK c.toNat)=true:=by rw[h];rfl
  rw[d]at hq;repeat ktr_rel
noncomputable def FD (i:Int):Bool:=decide (10=i)||(decide (13=i)||false)
noncomputable def Eu (c:UInt8):Bool:=!FD c.toNat
theorem fO{a:MS}(h:a[l]?=some x):a.set l x=a:=by have g:=List.getElem?_eq_some_iff.mp h;have q:=List.set_getElem_self (as:=a) g.1;rw[g.2]at q;exact q
theorem iu (b:MS)(l:Nat)(x y:ah):(b.set l x).set l y=b.set l y:=List.set_set ..
theorem y0{p e:Nat}(vs:List (Nat×V))(h:i[l]?=some (aT b p e))(hr:aE b e p r) (hq:∀p',aE b e p' (r.dropWhile Eu)->Q (.ok .next) ⟨(1718379891,.loc l)::vs,[]⟩ (i.set l (aT b p' e))):aV k dA dz ⟨(1718379891,.loc l)::vs,[]⟩ i Q:=by induction r generalizing p i with
 |nil=>
  have a1:=bA h;have a2:=dF h;have a3:=hr.nlt;have hq:=hq p hr;rw[fO h]at hq;refine bu ?_;repeat ktr_rel|cons c r ih=>
  have a1:=bA h;have a2:=dF h;have a4:=eH h;have a3:=hr.dlt;have a5:=zh (ms:=i) hr.hd;have a6:=fU h (p+1);refine bu ?_
  refine bS (FD c.toNat) ?_ ?_
  ·intro n
   have e1:(!FD c.toNat)=false:=by rw[n];rfl
   rw[uJ,aH (by unfold Eu;rw[n];exact Bool.noConfusion)]at hq
   have hq:=hq p hr
   rw[fO h]at hq
   repeat ktr_rel
  ·intro n
   have e1:(!FD c.toNat)=true:=by rw[n];rfl
   rw[uJ,au (show Eu c=true from e1)]at hq
   repeat ktr_rel
   exact ih (p:=p+1) (aq _ h) hr.tl fun p' g=>(iu i l _ _).symm▸hq p' g
noncomputable def aG (t:Bool)(r:List UInt8):List UInt8:=r.rec (fun _=>[]) (fun c r b t=>bif t then b (!FD c.toNat)else bif decide ((c.toNat:Int)=37)then b true else bif sK c.toNat then b false else c::r) t
theorem x8 (c:UInt8)(r:List UInt8):aG false (c::r)=bif decide ((c.toNat:Int)=37)then aG true r else bif sK c.toNat then aG false r else c::r:=rfl
theorem qA (i:Int)(h:FD i=true):sK i=true/\decide (i=37)=false:=by unfold FD at h;rw[Bool.or_eq_true,decide_eq_true_eq,Bool.or_false,decide_eq_true_eq]at h;rcases h with h|h<;>subst h<;>exact⟨rfl,rfl⟩
theorem DN (r:List UInt8):aG true r=aG false (r.dropWhile Eu):=by induction r with
 |nil=>rfl|cons c r e=>
  show aG (!FD c.toNat) r=_;rw[uJ];cases n:FD c.toNat with
  |true=>
   rw[aH (by unfold Eu;rw[n];exact Bool.noConfusion),x8,(qA _ n).1,(qA _ n).2];rfl|false=>rw[au (by unfold Eu;rw[n];rfl)];exact e
theorem iw{e:Nat}:∀(n:Nat) (ms:MS) (p:Nat) (r:List UInt8) (vs:List (Nat×V)),r.length<=n->(∀v,az 1701080931 v vs=[(1701080931,v)])->ms[l]?=some (aT b p e)->aE b e p r->(∀vs o p',(o= .next\/o= .ret .none)->aE b e p' (aG false r)->Q (.ok o) ⟨(1718379891,.loc l)::vs,[]⟩ (ms.set l (aT b p' e)))->aV k dy dw ⟨(1718379891,.loc l)::vs,[]⟩ ms Q
 |n,ms,p,[],vs,ln,hv,h,hr,hq=>by
  have a1:=bA h;have a2:=dF h;have a3:=hr.nlt;have hq:=hq vs .next p (.inl rfl) hr;rw[fO h]at hq;refine bu ?_;repeat ktr_rel|0,ms,p,c::r,vs,ln,hv,h,hr,hq=>absurd ln (ko _)|n+1,ms,p,c::r,vs,ln,hv,h,hr,hq=>by
  have a1:=bA h;have a2:=dF h;have a4:=eH h;have a3:=hr.dlt;have a5:=zh (ms:=ms) hr.hd;have a6:=fU h (p+1);have ln:r.length<=n:=pH ln;rw[x8]at hq;refine bu ?_;repeat ktr_rel
  show pSs k _ ⟨(1718379891,V.loc l)::az 1701080931 (V.int c.toNat) vs,[]⟩ ms _
  rw[hv]
  refine bS (decide ((c.toNat:Int)=37)) ?_ ?_
  ·intro q
   rw[q]at hq
   repeat ktr_rel
   have e1:(r.dropWhile Eu).length<=n:=bR (List.dropWhile_sublist _).length_le ln
   have e2:(c::r).dropWhile Eu=r.dropWhile Eu:=by
    rw[uJ,au]
    unfold Eu
    rw[eP q];rfl
   refine y0 _ h hr fun p' g=>?_
   rw[e2]at g
   refine iw n _ p' _ _ e1 (fun _=>rfl) (aq _ h) g fun vs o p'' ho g'=>?_
   rw[iu]
   exact hq vs o p'' ho ((DN r).symm▸g')
  ·intro q
   rw[q]at hq
   refine bS (sK c.toNat) ?_ ?_
   ·intro q2
    rw[q2]at hq
    repeat ktr_rel
    refine iw n _ (p+1) _ _ ln (fun _=>rfl) (aq _ h) hr.tl fun vs o p'' ho g'=>?_
    rw[iu]
    exact hq vs o p'' ho g'
   ·intro q2
    rw[q2]at hq
    have hq:=hq [(1701080931,.int c.toNat)] (.ret .none) p (.inr rfl) hr
    rw[fO h]at hq
    repeat ktr_rel
theorem cM{p e:Nat}(h:f[l]?=some (aT b p e))(hr:aE b e p r)(hq:∀c,aE b e c (aG false r)->Q (.ok .none) (f.set l (aT b c e))):Call (k+1) 11 7 [.loc l] f Q:=by refine ar (fn:=cW) rfl rfl rfl ?_;refine iw r.length f p r [] (cc _) (fun _=>rfl) h hr fun n o c d g=>?_;rcases d with d|d<;>subst d<;>exact hq c g
theorem zN{p e:Nat}(f:Int)(h:d[l]?=some (aT b p e))(hr:aE b e p r) (hq:∀i,aE b e i (r.dropWhile rg)->Q (.ok .next) ⟨[(1718379891,.loc l),(500153084262,.int f)],[]⟩ (d.set l (aT b i e))):aV (k+1) cQ cP ⟨[(1718379891,.loc l),(500153084262,.int f)],[]⟩ d Q:=by induction r generalizing p d with
 |nil=>
  have a1:=bA h;have a2:=dF h;have a3:=hr.nlt;have hq:=hq p hr;rw[fO h]at hq;refine bu ?_;repeat ktr_rel|cons c r ih=>
  have a1:=bA h;have a2:=dF h;have a4:=eH h;have a3:=hr.dlt;have a5:=zh (ms:=d) hr.hd;have a6:=fU h (p+1);refine bu ?_;repeat ktr_rel
  refine rF c ?_;rw[uJ]at hq;refine bS (rg c) ?_ ?_
  ·intro n
   rw[au n]at hq
   repeat ktr_rel
   exact ih (p:=p+1) (aq _ h) hr.tl fun i g=>(iu d l _ _).symm▸hq i g
  ·intro n
   rw[aH (fun z=>Bool.noConfusion (n.symm.trans z))]at hq
   have hq:=hq p hr
   rw[fO h]at hq
   repeat ktr_rel
theorem dQ{p e:Nat}(h:i[l]?=some (aT b p e))(hr:aE b e p r)(hq:∀f,aE b e f (r.dropWhile rg)->Q (.ok (.bytes (r.takeWhile rg))) (i.set l (aT b f e))):Call (k+2) 11 8 [.loc l] i Q:=by
 have o:=bA h;refine ar (fn:=cj) rfl rfl rfl ?_;repeat ktr_rel;refine zN p h hr fun f g=>?_;have hq:=hq f g;have o:=bA (aq (aT b f e) h);have w:=eH (aq (aT b f e) h);have q:=LZ (ms:=i.set l (aT b f e)) (b:=b) p f
 have s:f=p+(r.takeWhile rg).length:=by have x:=hr.ln;have y:=g.ln;have z:=congrArg List.length (List.takeWhile_append_dropWhile (p:=rg) (l:=r));rw[aK]at z;lia
 have t:(b.take f).drop p=r.takeWhile rg:=by
  rw[s];exact aE.cut (r:=r.dropWhile rg) (by rw[List.takeWhile_append_dropWhile];exact hr)
 rw[t]at q;repeat ktr_rel
noncomputable def I7 (r:List UInt8):Option (List UInt8):=bif decide (xt r=13)then(bif decide (xt r.tail=10)then some r.tail.tail else some r.tail)else bif decide (xt r=10)then some r.tail else none
theorem rC{n:Nat}(h:decide (xt r=(n:Int))=true):∃c,r=c::r.tail:=match r,h with| [],h=>absurd (eP h) (show(-1:Int)≠ (n:Int) by omega)|c::r,h=>⟨c,rfl⟩
theorem mU{p e:Nat}(h:g[l]?=some (aT b p e))(hr:aE b e p r)(hq:(I7 r=none->Q (.ok (.bool false)) g)/\(∀j m,I7 r=some j->aE b e m j->Q (.ok (.bool true)) (g.set l (aT b m e)))):Call (k+2) 11 9 [.loc l] g Q:=by
 have w:=bA h;have x:=vw h;have y:=fU h (p+1);refine ar (fn:=b6) rfl rfl rfl ?_;repeat ktr_rel;refine rP h hr ?_;unfold I7 at hq;refine bS (decide (xt r=13)) ?_ ?_
 ·intro n;rw[n]at hq;obtain⟨c,hc⟩:=rC (n:=13) n;rw[hc]at hr;have f:=aq (aT b (p+1:Nat) e) h;have t:=bA f;have u:=vw f;have i:=fU f ((p+1:Nat)+1);repeat ktr_rel
  refine rP f hr.tl ?_;refine bS (decide (xt r.tail=10)) ?_ ?_
  ·intro n2;rw[n2]at hq;obtain⟨v,a⟩:=rC (n:=10) n2;rw[a]at hr;have hq:=hq.2 _ (p+2) rfl hr.tl.tl;rw[iu]at i;repeat ktr_rel
  ·intro n2;rw[n2]at hq;have hq:=hq.2 _ (p+1) rfl hr.tl;repeat ktr_rel
 ·intro n;rw[n]at hq;repeat ktr_rel
  refine rP h hr ?_;cases n2:decide (xt r=10)with
  |true=>
   rw[n2]at hq;obtain⟨v,a⟩:=rC (n:=10) n2;rw[a]at hr;have hq:=hq.2 _ (p+1) rfl hr.tl;repeat ktr_rel|false=>
   rw[n2]at hq;have hq:=hq.1 rfl;repeat ktr_rel
noncomputable def mS (t p:Int):ah:=.inst 21 [(7368564,.int t),(126879296220272,.int p)]
noncomputable def l0 (n:Nat):Int->Int×Nat:=n.rec (fun t=>(t,0)) fun n a t=>bif decide (t % 10=0)then a (t / 10)else(t,n+1)
theorem JH(l:Nat)(n:Nat):∀(t:Int),(Q (.ok .next) ⟨[(1718379891,.loc l),(7368564,.int (l0 n t).1),(126879296220272,.int (l0 n t).2)],[]⟩ e)->aV k fA fz ⟨[(1718379891,.loc l),(7368564,.int t),(126879296220272,.int n)],[]⟩ e Q:=by induction n with
 |zero=>
  intro t hq;refine bu ?_;repeat ktr_rel|succ n f=>
  intro t hq;have j:decide (((n+1:Nat):Int)>0)=true:=dD (Int.natCast_pos.mpr (jv n));have g:((n+1:Nat):Int)-1=(n:Int):=by lia
  have h:l0 (n+1) t=bif decide (t % 10=0)then l0 n (t / 10)else(t,n+1):=rfl;rw[h]at hq;refine bu ?_;refine bS (decide (t % 10=0)) ?_ ?_
  ·intro z;rw[z]at hq;repeat ktr_rel
   show aV k _ _ ⟨[(1718379891,.loc l),(7368564,.int (t / 10)),(126879296220272,.int (((n+1:Nat):Int)-1))],[]⟩ e _;rw[g];exact f _ hq
  ·intro z;rw[z]at hq;repeat ktr_rel
theorem vA (a:MS)(t:Int)(n:Nat)(hq:Q (.ok .none) (a++[mS (l0 n t).1 (l0 n t).2])):Call (k+1) 21 1 [.loc a.length,.int t,.int n] (a++[.inst 21 []]) Q:=by have g:=cX a 7368564 21 [] (.int (l0 n t).1) ⟨rfl,iP rfl,aP rfl⟩;have h:=cX a 126879296220272 21 [(7368564,.int (l0 n t).1)] (.int (l0 n t).2) ⟨rfl,iP rfl,aP rfl⟩;refine ar (fn:=fy) rfl rfl rfl ?_;refine JH _ n t ?_;repeat ktr_rel
noncomputable def vL (r:List UInt8):Int->Int->Int->Option (Int×Int×Int):=r.rec (fun t n p=>some (t,n,p)) fun c _ a t n p=>bif decide ((c.toNat:Int)=46)&&decide (p<0)then a t n 0 else bif decide (48<= (c.toNat:Int))&&decide ((c.toNat:Int)<=57)then a (10*t+c.toNat-48) (n+1) (bif decide (p>=0)then p+1 else p)else none
noncomputable abbrev vJ (o:List UInt8)(g:Int)(t n p:Int)(c:List (Nat×V)):MF:=⟨(126943755527023,.bytes o)::(474416112994,.int g)::(7368564,.int t)::(8317129755802301806,.int n)::(126879296220272,.int p)::c,[]⟩
theorem Cc(o:List UInt8)(g:Int)(r:List UInt8):∀(t n p:Int) (d:List (Nat×V)),(∀v,az 1701080931 v d=[(1701080931,v)])->((vL r t n p=none->∀w,Q (.ret .none) w i)/\∀m q s,vL r t n p=some (m,q,s)->∀d,Q .next (vJ o g m q s d) i)->mP k dj b7 (.seq (r.map fun c=>.int c.toNat)) (vJ o g t n p d) i Q:=by induction r with
 |nil=>
  intro t n p d u hq;have hq:=hq.2 t n p rfl d;refine jI ?_;repeat ktr_rel|cons c r j=>
  intro t n p d u hq;have A:vL (c::r) t n p=bif decide ((c.toNat:Int)=46)&&decide (p<0)then vL r t n 0 else bif decide (48<= (c.toNat:Int))&&decide ((c.toNat:Int)<=57)then vL r (10*t+c.toNat-48) (n+1) (bif decide (p>=0)then p+1 else p)else none:=rfl;rw[A]at hq;refine jI ?_;refine aj.mk _ rfl ?_;show pSs k b7 ⟨_::_::_::_::_::az 1701080931 (V.int c.toNat) d,[]⟩ i _;rw[u];refine bS (decide ((c.toNat:Int)=46)) ?_ ?_
  ·intro h;refine bS (decide (p<0)) ?_ ?_
   ·intro e
    rw[h,e]at hq
    repeat ktr_rel
    exact j _ _ _ _ (fun _=>rfl) hq
   ·intro e
    have f:decide (48<= (c.toNat:Int))=false:=by rw[eP h];rfl
    rw[h,e,f]at hq
    have hq:=hq.1 rfl (vJ o g t n p [(1701080931,.int c.toNat)])
    repeat ktr_rel
  ·intro h
   rw[h]at hq
   refine qI (decide (48<= (c.toNat:Int))) ?_ ?_
   ·intro f
    rw[f]at hq
    have hq:=hq.1 rfl (vJ o g t n p [(1701080931,.int c.toNat)])
    repeat ktr_rel
   ·intro f
    refine qI (decide ((c.toNat:Int)<=57)) ?_ ?_
    ·intro e
     rw[f,e]at hq
     have hq:=hq.1 rfl (vJ o g t n p [(1701080931,.int c.toNat)])
     repeat ktr_rel
    ·intro e
     rw[f,e]at hq
     refine bS (decide (p>=0)) ?_ ?_
     ·intro l
      rw[l]at hq
      repeat ktr_rel
      exact j _ _ _ _ (fun _=>rfl) hq
     ·intro l
      rw[l]at hq
      repeat ktr_rel
      exact j _ _ _ _ (fun _=>rfl) hq
noncomputable def BK (a:Bool)(t p:Int):Int×Option Nat:=bif decide (p<0)then(bif a then -t else t,none)else((l0 p.toNat (bif a then -t else t)).1,some (l0 p.toNat (bif a then -t else t)).2)
noncomputable def zS (c:UInt8):Bool:=decide ((c.toNat:Int)=43)||decide ((c.toNat:Int)=45)
noncomputable def BJ (o:List UInt8):Option (Int×Option Nat):=o.casesOn none fun c r=>(vL (bif zS c then r else c::r) 0 0 (-1)).bind fun q=>bif decide (q.2.1=0)||decide (q.2.1>40)then none else some (BK (decide ((c.toNat:Int)=45)) q.1 q.2.2)
def IZ (x:Option (Int×Option Nat))(a:MS)(Q:Kv):Prop:=match x with|none=>Q (.ok .none) a|some (i,none)=>Q (.ok (.int i)) a|some (t,some n)=>Q (.ok (.loc a.length)) (a++[mS t n])
theorem tI(i:Nat):bV ms (.bytes o) (some (.int i)) none=some (.bytes (o.drop i),ms):=by have q:b4 0 (some (.int (i:Int)))=some i:=au (e:=none) (kq i);show Option.bind (b4 0 (some (.int (i:Int)))) (fun i=>some (V.bytes ((o.take o.length).drop i),ms))=_;rw[q,List.take_length];rfl
theorem E0 (o:List UInt8)(c:UInt8)(r:List UInt8)(e:o=c::r)(g t n p:Int)(vs:List (Nat×V))(hq:IZ (bif decide (n=0)||decide (n>40)then none else some (BK (decide ((c.toNat:Int)=45)) t p)) ms Q):pSs (k+2) [.ite (.or [.cmp (.loc 8317129755802301806) .eq (.val (.int 0)),.cmp (.loc 8317129755802301806) .gt (.val (.int 40))]) [.ret [.val .none]] [],.ite (.cmp (.sub (.loc 126943755527023) (.val (.int 0))) .eq (.val (.int 45))) [.assign (.loc 7368564) (.neg (.loc 7368564))] [],.ret [.ite (.cmp (.loc 126879296220272) .lt (.val (.int 0))) (.loc 7368564) (.call (.val (.cls 21)) [.loc 7368564,.loc 126879296220272])]] (vJ o g t n p vs) ms fun r mf ms=>Q (bF r) ms:=by
 subst e;refine bS (decide (n=0)) ?_ ?_
 ·intro q1;rw[q1]at hq;repeat ktr_rel
 ·intro q1;refine bS (decide (n>40)) ?_ ?_
  ·intro q2;rw[q1,q2]at hq;repeat ktr_rel
  ·intro q2;rw[q1,q2]at hq;have hq:IZ (some (BK (decide ((c.toNat:Int)=45)) t p)) ms Q:=hq;unfold BK at hq
   refine bS (decide (p<0)) ?_ ?_
   ·intro q4
    rw[q4]at hq
    refine bS (decide ((c.toNat:Int)=45)) ?_ ?_
    ·intro q3;rw[q3]at hq;repeat ktr_rel
    ·intro q3;rw[q3]at hq;repeat ktr_rel
   ·intro q4
    rw[q4]at hq
    have e2:(p.toNat:Int)=p:=Int.toNat_of_nonneg (Int.not_lt.mp (sy q4))
    have s:∀t,Q (.ok (.loc ms.length)) (ms++[mS (l0 p.toNat t).1 (l0 p.toNat t).2])->Call (k+1) 21 1 [.loc ms.length,.int t,.int p] (ms++[.inst 21 []]) (cR fun v ms'=>(ni v&&ie 21)=true/\Q (.ok (.loc ms.length)) ms'):=fun t hq=>e2▸vA (k:=k) ms t p.toNat ⟨rfl,hq⟩
    refine bS (decide ((c.toNat:Int)=45)) ?_ ?_
    ·intro q3
     rw[q3]at hq;repeat ktr_rel
     exact s _ hq
    ·intro q3
     rw[q3]at hq;repeat ktr_rel
     exact s _ hq
theorem jo (o:List UInt8)(hq:IZ (BJ o) a Q):Call (k+3) 23 0 [.bytes o] a Q:=by refine ar (fn:=fG) rfl rfl rfl ?_;cases o with
 |nil=>
  have x:=tI (ms:=a) (o:=[]) 0;repeat ktr_rel
  refine Cc [] 0 [] 0 0 (-1) [] (fun _=>rfl) ⟨nofun,fun t n p e z=>?_⟩;cases e;repeat ktr_rel|cons c r=>
  have L:decide (((c::r).length:Int)>0)=true:=dD (Int.natCast_pos.mpr (jv _));have C:BJ (c::r)=(vL (bif zS c then r else c::r) 0 0 (-1)).bind fun q=>bif decide (q.2.1=0)||decide (q.2.1>40)then none else some (BK (decide ((c.toNat:Int)=45)) q.1 q.2.2):=rfl;rw[C]at hq
  have s:∀(g:Int) (v:List UInt8),(bif zS c then r else c::r)=v->mP (k+2) dj b7 (.seq (v.map fun c=>.int c.toNat)) (vJ (c::r) g 0 0 (-1) []) a fun l m a=>(me (fun r m a=>Q (bF r) a) fun m a=>pSs (k+2) [.ite (.or [.cmp (.loc 8317129755802301806) .eq (.val (.int 0)),.cmp (.loc 8317129755802301806) .gt (.val (.int 40))]) [.ret [.val .none]] [],.ite (.cmp (.sub (.loc 126943755527023) (.val (.int 0))) .eq (.val (.int 45))) [.assign (.loc 7368564) (.neg (.loc 7368564))] [],.ret [.ite (.cmp (.loc 126879296220272) .lt (.val (.int 0))) (.loc 7368564) (.call (.val (.cls 21)) [.loc 7368564,.loc 126879296220272])]]
   m a fun r m a=>Q (bF r) a) (.ok l) m a:=by
   intro g v J
   rw[J]at hq
   refine Cc (c::r) g v 0 0 (-1) [] (fun _=>rfl) ⟨fun e m=>?_,fun t n p e z=>?_⟩
   ·rw[e]at hq;exact hq
   ·rw[e]at hq
    exact E0 _ c r rfl g t n p z hq
  refine bS (decide ((c.toNat:Int)=43)) ?_ ?_
  ·intro w
   have x:=tI (ms:=a) (o:=c::r) 1
   repeat ktr_rel
   exact s 1 r (by unfold zS;rw[w];rfl)
  ·intro w
   cases B:decide ((c.toNat:Int)=45)with
   |true=>
    have x:=tI (ms:=a) (o:=c::r) 1
    repeat ktr_rel
    exact s 1 r (by unfold zS;rw[w,B];rfl)
   |false=>
    have x:=tI (ms:=a) (o:=c::r) 0
    repeat ktr_rel
    exact s 0 (c::r) (by unfold zS;rw[w,B];rfl)
theorem IT(c:Bool)(x:a=true->c=true->A)(y:(a&&c)=false->B)(conv:a9 c A B->X):a9 a X (a9 false A B):=by
 refine qI (a) ?_ ?_
 ·intro d;subst d;exact a9.neg rfl (a9.neg rfl (y rfl))
 ·intro d;subst d;refine a9.pos rfl (conv ?_);refine qI (c) ?_ ?_
  ·intro hc;subst hc;exact a9.neg rfl (y rfl)
  ·intro hc;subst hc;exact a9.pos rfl (x rfl rfl)
noncomputable def w5 (a b i:Int):Bool:=decide (a<=i)&&decide (i<=b)
theorem Bt(x:decide (a<=i)=true)(y:decide (i<=b)=true):w5 a b i=true:=(mz ..).mpr ⟨x,y⟩
noncomputable def fS (i:Int):Int:=bif w5 48 57 i then i-48 else bif w5 65 70 i then i-55 else bif w5 97 102 i then i-87 else -1
theorem tK (i:Int)(hq:Q (.ok (.int (fS i))) e):Call (k+1) 33 0 [.int i] e Q:=by
 refine ar (fn:=i5) rfl rfl rfl ?_;unfold fS at hq;repeat ktr_rel;refine IT (decide (i<=57)) (fun a b=>?_) (fun q=>?_) fun h=>by repeat ktr_rel
 ·have c:w5 48 57 i=true:=Bt a b;rw[c]at hq;repeat ktr_rel
 rw[show w5 48 57 i=false from q]at hq;repeat ktr_rel;refine IT (decide (i<=70)) (fun a b=>?_) (fun q=>?_) fun h=>by repeat ktr_rel
 ·have c:w5 65 70 i=true:=Bt a b;rw[c]at hq;repeat ktr_rel
 rw[show w5 65 70 i=false from q]at hq;repeat ktr_rel;refine IT (decide (i<=102)) (fun a b=>?_) (fun q=>?_) fun h=>by repeat ktr_rel
 ·have c:w5 97 102 i=true:=Bt a b;rw[c]at hq;repeat ktr_rel
 rw[show w5 97 102 i=false from q]at hq;repeat ktr_rel
theorem fK(h:a[l]?=some (.list d)):c9 a (.loc l) 110425311047777=some .bi:=by show(a[l]?).bind _=_;rw[h];rfl
theorem CS(h:a[l]?=some (.list d)):c9 a (.loc l) 7368560=some .bi:=by show(a[l]?).bind _=_;rw[h];rfl
theorem b5(h:a[l]?=some (.list c)):aC a (.loc l)=some c:=by show(a[l]?).bind _=_;rw[h];rfl
theorem fx(v:V)(h:c[l]?=some (.list b))(n:b.length<1000000):iZ c (.loc l) 110425311047777 [v]=some (.none,c.set l (.list (b++[v]))):=by show(aC c (.loc l)).bind (fun b=>if b.length<1000000 then some (V.none,c.set l (.list (b++[v])))else none)=_;rw[b5 h];exact au n
theorem Bo(h:e[l]?=some (.list (d++[v]))):iZ e (.loc l) 7368560 []=some (v,e.set l (.list d)):=by show(aC e (.loc l)).bind (fun d=>d.getLast?.bind fun v=>some (v,e.set l (.list d.dropLast)))=_;rw[b5 h];show Option.bind ((d++[v]).getLast?) (fun u=>some (u,e.set l (.list (d++[v]).dropLast)))=_;rw[List.getLast?_concat,List.dropLast_concat];rfl
theorem td(h:b[l]?=some (.list c)):iH b .len [.loc l]=some (.int c.length,b):=by show Option.bind ((aC b (.loc l)).bind fun c=>some (V.int c.length)) (fun v=>some (v,b))=_;rw[b5 h];rfl
theorem Ld (c:UInt8):iH ms .chr [.int c.toNat]=some (.str [c.toNat],ms):=by show(if 0<= (c.toNat:Int)/\(c.toNat:Int)<256 then some (V.str [(c.toNat:Int).toNat],ms)else none)=_;rw[au ⟨kq _,Int.ofNat_lt.mpr c.toNat_lt⟩,Int.toNat_natCast]
theorem qm (o:List (List Nat)):jk (o.map .str)=some o:=by induction o with|nil=>rfl|cons c o e=>exact congrArg (Option.bind · fun r=>some (c::r)) e
theorem wg (c:UInt8)(h:List V):fW (.int c.toNat::h)=(fW h).bind fun r=>some (c::r):=by show(if 0<= (c.toNat:Int)/\(c.toNat:Int)<256 then(fW h).bind fun r=>some (UInt8.ofNat (c.toNat:Int).toNat::r)else none)=_;rw[au ⟨kq _,Int.ofNat_lt.mpr c.toNat_lt⟩,Int.toNat_natCast,UInt8.ofNat_toNat]
theorem zI (o:List UInt8):fW (o.map fun c=>.int c.toNat)=some o:=by induction o with|nil=>rfl|cons c o b=>exact(wg c _).trans (congrArg (Option.bind · fun r=>some (c::r)) b)
theorem Cg (o:List UInt8):(o.map fun c=>[c.toNat]).flatten=o.map (·.toNat):=by induction o with|nil=>rfl|cons c o d=>exact congrArg (c.toNat::·) d
theorem ET (o:List UInt8)(h:ms[l]?=some (.list (o.map fun c=>.str [c.toNat])))(n:o.length<=1000000):iZ ms (.str []) 1852403562 [.loc l]=some (.str (o.map (·.toNat)),ms):=by
 have q:jk (o.map fun c=>V.str [c.toNat])=some (o.map fun c=>[c.toNat]):=by rw[<- qm,fQ];rfl
 show(aC ms (.loc l)).bind (fun d=>(jk d).bind fun b=>if b.flatten.length<=1000000 then some (V.str b.flatten,ms)else none)=_;rw[b5 h];show(jk _).bind _=_;rw[q];show(if((o.map fun c=>[c.toNat]).flatten).length<=1000000 then _ else none)=_;rw[Cg,au (by rw[b0];exact n)]
theorem yd (o:List UInt8)(h:d[l]?=some (.list (o.map fun c=>.int c.toNat))):fZ d .bytes [.loc l]=some (.bytes o,d):=by show Option.bind ((aC d (.loc l)).bind fun i=>(fW i).bind fun b=>some (V.bytes b)) (fun v=>some (v,d))=_;rw[b5 h];show Option.bind ((fW _).bind fun b=>some (V.bytes b)) (fun v=>some (v,d))=_;rw[zI];rfl
theorem C3(o:List UInt8)(n:Int)(M:o.length<=1000000)(n0:∀c∈o,c.toNat≠0/\c.toNat≠35):∀(r t:List UInt8) (u:MS) (w:List (Nat×V)),o=t++r->u[l]?=some (.list (t.map fun c=>.str [c.toNat]))->(∀v,az 1701080931 v w=[(1701080931,v)])->(∀w,Q (.ok .next) ⟨(126943755527023,.bytes o)::(29793,.int n)::(495773510003,.loc l)::(435459026032,.int o.length)::w,[]⟩ (u.set l (.list (o.map fun c=>.str [c.toNat]))))->aV (k+1) iK iJ ⟨(126943755527023,.bytes o)::(29793,.int n)::(495773510003,.loc l)::(435459026032,.int t.length)::w,[]⟩ u Q
 | [],t,u,w,D,h,L,hq=>by
  rw[cF]at D;subst D;have P:decide ((o.length:Int)< (o.length:Int))=false:=cO (Int.lt_irrefl _);rw[fO h]at hq;have hq:=hq w;refine bu ?_;repeat ktr_rel|c::r,t,u,w,D,h,L,hq=>by
  have Y:o.length=t.length+1+r.length:=by rw[D,aK,fj];lia
  have P:decide ((t.length:Int)< (o.length:Int))=true:=dD (Int.ofNat_lt.mpr (by lia));have Z:=zh (ms:=u) (b:=o) (p:=t.length) (c:=c) (by rw[D,my (cc _),pL];rfl);have K:=n0 c (by rw[D];exact iD _ dR);have a3:decide ((c.toNat:Int)=35)=false:=cO fun z=>K.2 (Int.ofNat_inj.mp z)
  have a4:decide ((c.toNat:Int)=0)=false:=cO fun z=>K.1 (Int.ofNat_inj.mp z)
  have a5:=fK h
  have a6:=Ld (ms:=u) c
  have a7:=fx (.str [c.toNat]) h (by rw[b0];lia)
  refine bu ?_
  repeat ktr_rel
  show pSs (k+1) _ ⟨(126943755527023,V.bytes o)::(29793,V.int n)::(495773510003,V.loc l)::(435459026032,V.int ((t.length:Int)+1))::az 1701080931 (V.int c.toNat) w,[]⟩ u _
  rw[L]
  repeat ktr_rel
  have R:((t.length:Int)+1)=((t++[c]).length:Int):=by rw[aK];rfl
  have U:(t.map fun c=>V.str [c.toNat])++[V.str [c.toNat]]=(t++[c]).map fun c=>V.str [c.toNat]:=by rw[bZ];rfl
  show aV (k+1) _ _ ⟨(126943755527023,V.bytes o)::(29793,V.int n)::(495773510003,V.loc l)::(435459026032,V.int ((t.length:Int)+1))::[(1701080931,V.int c.toNat)],[]⟩ _ _
  rw[R,U]
  refine C3 o n M n0 r (t++[c]) _ _ (by rw[D,dU];rfl) (aq _ h) (fun _=>rfl) fun w=>?_
  rw[iu]
  exact hq w
theorem tV (o:List UInt8)(b:Int)(h:o.length<=1000000)(n0:∀c∈o,c.toNat≠0/\c.toNat≠35)(hq:Q (.ok (.str (o.map (·.toNat)))) (f++[.list (o.map fun c=>.str [c.toNat])])):Call (k+2) 35 0 [.bytes o,.int b] f Q:=by refine ar (fn:=ja) rfl rfl rfl ?_;repeat ktr_rel;refine C3 o b h n0 o [] _ [] rfl (ag f _ []) (fun _=>rfl) fun m=>?_;have n:=ET (ms:=f++[.list (o.map fun c=>.str [c.toNat])]) o (ag f _ []) h;rw[cx];repeat ktr_rel
theorem aW{b:MS}(x:ah)(n:l≠i)(h:b[i]?=some o):(b.set l x)[i]?=some o:=(List.getElem?_set_ne n).trans h
theorem bN{s:Type}{a:s}{P:Prop}(h:(none:Option s)=some a):P:=nomatch h
theorem tW{s:Type}{a:s}{P:Prop}(h:some a=(none:Option s)):P:=nomatch h
noncomputable def nq (r:List UInt8):Bool->Int->List UInt8->Option (List UInt8×List UInt8):=r.rec (fun _ _ _=>none) fun c r e cr d b=>bif cr&&decide ((c.toNat:Int)=10)then e false d b else bif decide ((c.toNat:Int)=13)then e true d (b++[10])else bif decide ((c.toNat:Int)=10)then e false d (b++[10])else bif decide ((c.toNat:Int)=40)then e false (d+1) (b++[c])else bif decide ((c.toNat:Int)=41)then(bif decide (d-1=0)then some (b,r)else e false (d-1) (b++[c]))else e false d (b++[c])
noncomputable def pA (c:UInt8)(r:List UInt8)(d:Int)(a:List UInt8):Option (List UInt8×List UInt8):=bif decide ((c.toNat:Int)=40)then nq r false (d+1) (a++[c])else bif decide ((c.toNat:Int)=41)then(bif decide (d-1=0)then some (a,r)else nq r false (d-1) (a++[c]))else nq r false d (a++[c])
theorem qk (c:UInt8)(r:List UInt8)(cr:Bool)(d:Int)(a:List UInt8):nq (c::r) cr d a=bif cr&&decide ((c.toNat:Int)=10)then nq r false d a else bif decide ((c.toNat:Int)=13)then nq r true d (a++[10])else bif decide ((c.toNat:Int)=10)then nq r false d (a++[10])else pA c r d a:=rfl
theorem Jz(d:Int)(b:List UInt8)(h:I7 (c::r)=none):nq (c::r) false d b=pA c r d b:=by
 have e:I7 (c::r)=bif decide ((c.toNat:Int)=13)then(bif decide (xt r=10)then some r.tail else some r)else bif decide ((c.toNat:Int)=10)then some r else none:=rfl;rw[e]at h;rw[qk];cases q:decide ((c.toNat:Int)=13)with
 |true=>rw[q]at h;cases f:decide (xt r=10)<;>rw[f]at h<;>exact tW h|false=>
  rw[q]at h;cases f:decide ((c.toNat:Int)=10)with|true=>rw[f]at h;exact tW h|false=>rfl
theorem Jx (r:List UInt8)(d:Int)(a:List UInt8)(h:decide (xt r=10)=false):nq r true d a=nq r false d a:=by cases r with
 |nil=>rfl|cons c r=>
  have h:decide ((c.toNat:Int)=10)=false:=h;rw[qk,qk,h];rfl
theorem Jy (r:List UInt8)(d:Int)(a:List UInt8)(h:decide (xt r=10)=true):nq r true d a=nq r.tail false d a:=by cases r with
 |nil=>exact absurd (eP h) (by decide)|cons c r=>
  have h:decide ((c.toNat:Int)=10)=true:=h;rw[qk,h];rfl
theorem JA(d:Int)(f:List UInt8)(h:I7 r=some b):nq r false d f=nq b false d (f++[10])/\b.length+1<=r.length:=by cases r with|nil=>exact bN (show(none:Option (List UInt8))=some b from h)|cons c r=>
  have e:I7 (c::r)=bif decide ((c.toNat:Int)=13)then(bif decide (xt r=10)then some r.tail else some r)else bif decide ((c.toNat:Int)=10)then some r else none:=rfl;rw[e]at h;rw[qk];cases q:decide ((c.toNat:Int)=13)with
  |true=>
   rw[q]at h;cases a:decide (xt r=10)with
   |true=>
    rw[a]at h;have h:r.tail=b:=e9 h;subst h;exact⟨Jy r d _ a,by rw[fj,List.length_tail];lia⟩|false=>
    rw[a]at h;have h:r=b:=e9 h;subst h;exact⟨Jx r d _ a,cc _⟩
  |false=>
   rw[q]at h;cases a:decide ((c.toNat:Int)=10)with|true=>rw[a]at h;have h:r=b:=e9 h;subst h;exact⟨rfl,cc _⟩|false=>rw[a]at h;exact bN h
noncomputable abbrev Jw (l m:Nat)(f d:Int)(c:List (Nat×V)):MF:=⟨(125823003817315,.loc l)::(29113321703960687,.int f)::(495622319971,.loc m)::(448630121828,.int d)::c,[]⟩
abbrev o0 (l m:Nat)(i:Nat):Prop:=i=l\/i=m
theorem lX{e:Nat}(f:Int)(nb:∀c:UInt8,c∈b->c.toNat≠92)(lm:l≠m):∀(n:Nat) (r:List UInt8) (ms:MS) (p:Nat) (d:Int) (acc:List UInt8) (vs:List (Nat×V)),r.length<=n->acc.length+r.length<1000000->(∀v,az 1701080931 v vs=[(1701080931,v)])->ms[l]?=some (aT b p e)->ms[m]?=some (.list (acc.map fun c=>.int c.toNat))->aE b e p r->(∀ms',Kp (o0 l m) ms ms'->(nq r false d acc=none->∀d vs,Q (.ok .next) (Jw l m f d vs) ms')/\∀o r' (p':Nat),nq r false d acc=some (o,r')->ms'[l]?=some (aT b p' e)->aE b e p' r'->∀mf,Q (.ok (.ret (.bytes o))) mf ms')->aV (k+2) gk gj (Jw l m f d vs) ms Q
 |n,[],ms,p,d,acc,vs,ln,la,hv,h,hm,hr,hq=>by
  have a1:=j4 h;have hq:=(hq ms (Kp.refl _ _)).1 rfl d vs;refine bu ?_;repeat ktr_rel;refine d8 h hr ?_
  repeat ktr_rel
 |0,c::r,ms,p,d,acc,vs,ln,la,hv,h,hm,hr,hq=>absurd ln (ko _)
 |n+1,c::r,ms,p,d,acc,vs,ln,la,hv,h,hm,hr,hq=>by
  have ln:r.length<=n:=pH ln
  have a1:=j4 h
  have a2:=IW h
  have a3:=vy h
  have la':acc.length+(r.length+1)<1000000:=la
  refine bu ?_
  repeat ktr_rel
  refine d8 h hr ?_
  repeat ktr_rel
  refine mU h hr ⟨fun en=>?_,fun r' p' en hr'=>?_⟩
  ·repeat ktr_rel
   refine mr h hr ?_
   repeat ktr_rel
   show pSs (k+2) _ ⟨_::_::_::_::az 1701080931 (V.int c.toNat) vs,[]⟩ _ _
   rw[hv]
   rw[Jz d acc en]at hq
   have h1:=aq (aT b (p+1:Nat) e) h
   have hm1:=aW (aT b (p+1:Nat) e) lm hm
   have a4:decide ((c.toNat:Int)=92)=false:=cO fun z=>nb c (uz hr.hd) (Int.ofNat_inj.mp z)
   have a5:=fK hm1
   have a6:=fx (.int c.toNat) hm1 (by rw[b0];lia)
   have e2:(acc.map fun c=>V.int c.toNat)++[V.int c.toNat]=(acc++[c]).map fun c=>V.int c.toNat:=by rw[bZ];rfl
   rw[e2]at a6
   have kp:Kp (o0 l m) ms ((ms.set l (aT b (p+1:Nat) e)).set m (.list ((acc++[c]).map fun c=>V.int c.toNat))):=(Kp.set (P:=o0 l m) ms _ (.inl rfl)).tr (Kp.set _ _ (.inr rfl))
   have h2:=aW (.list ((acc++[c]).map fun c=>V.int c.toNat)) (ci lm) h1
   have hm2:=aq (.list ((acc++[c]).map fun c=>V.int c.toNat)) hm1
   have la2:(acc++[c]).length+r.length<1000000:=by rw[aK];show acc.length+1+r.length<_;rw[lb];assumption
   have nx:∀d',pA c r d acc=nq r false d' (acc++[c])->aV (k+2) gk gj (Jw l m f d' [(1701080931,.int c.toNat)]) ((ms.set l (aT b (p+1:Nat) e)).set m (.list ((acc++[c]).map fun c=>V.int c.toNat))) Q:=fun d' ed=>
    lX f nb lm n r _ (p+1) d' (acc++[c]) _ ln la2 (fun _=>rfl) h2 hm2 hr.tl fun ms' k'=>ed▸hq ms' (kp.tr k')
   refine bS (decide ((c.toNat:Int)=40)) ?_ ?_
   ·intro q
    have q2:decide ((c.toNat:Int)=41)=false:=by rw[eP q];rfl
    repeat ktr_rel
    exact nx _ (by unfold pA;rw[q];rfl)
   ·intro q
    refine qI (decide ((c.toNat:Int)=41)) ?_ ?_
    ·intro q2
     repeat ktr_rel
     exact nx _ (by unfold pA;rw[q,q2];rfl)
    ·intro q2
     refine qI (decide (d-1=0)) ?_ ?_
     ·intro q3
      repeat ktr_rel
      exact nx _ (by unfold pA;rw[q,q2,q3];rfl)
     ·intro q3
      have e3:pA c r d acc=some (acc,r):=by unfold pA;rw[q,q2,q3];rfl
      have a7:=yd acc hm1
      have hq:=(hq _ (Kp.set ms _ (.inl rfl))).2 acc r (p+1) e3 h1 hr.tl
      repeat ktr_rel
      exact hq _
  ·have h1:=aq (aT b (p':Nat) e) h
   have hm1:=aW (aT b (p':Nat) e) lm hm
   have a5:=fK hm1
   have a6:=fx (.int 10) hm1 (by rw[b0];lia)
   have e2:(acc.map fun c=>V.int c.toNat)++[V.int 10]=(acc++[(10:UInt8)]).map fun c:UInt8=>V.int c.toNat:=by rw[bZ];rfl
   rw[e2]at a6
   have z:=JA d acc en
   rw[z.1]at hq
   have z2:r'.length<=r.length:=pH z.2
   repeat ktr_rel
   exact lX f nb lm n r' _ p' d (acc++[10]) vs (bR z2 ln) (by rw[aK];show acc.length+1+_<_;lia) hv (aW _ (ci lm) h1) (aq _ hm1) hr' fun ms' k'=>hq ms' (((Kp.set (P:=o0 l m) ms _ (.inl rfl)).tr (Kp.set _ _ (.inr rfl))).tr k')
theorem Kp.cut(x:Kp (o0 l m) a c)(e:m=d.length)(y:a=d++g):Kp (· =l) d c:=by subst y;exact(Kp.app (· =l) d _).trans x fun i h n=>n.elim id fun n=>absurd (n.trans e) (eo h)
theorem zv{e:Nat}{p:Nat}(w:∀c:UInt8,c∈b->c.toNat≠92)(h:t[l]?=some (aT b p e))(hr:aE b e p r)(x:r.length<1000000) (hq:∀a,Kp (· =l) t a->(nq r false 1 []=none->Q (.error (p-1)) a)/\∀o n (q:Nat),nq r false 1 []=some (o,n)->a[l]?=some (aT b q e)->aE b e q n->Q (.ok (.bytes o)) a):Call (k+3) 38 0 [.loc l] t Q:=by
 have C:=bA h;refine ar (fn:=lP) rfl rfl rfl ?_;repeat ktr_rel
 refine lX _ w (eo (bK h)) r.length r _ p 1 [] [] (cc _) (by rw[fm,iF];exact x) (fun _=>rfl) (ai _ h) (ag t _ []) hr fun a y=>?_;have hq:=hq a (y.cut rfl rfl);refine⟨fun z d F=>?_,fun o n q z A g G=>hq.2 o n q z A g⟩;have hq:=hq.1 z;repeat ktr_rel
theorem aD(hc:mf.cells.lookup n=some h)(e:c[h]?=some (.cell (some v))):bn mf n c=some (.ok v,c):=by show(mf.cells.lookup n).bind _=_;rw[hc];show(c[h]?).bind _=_;rw[e];rfl
theorem pz{p:Nat}(h:b[l]?=some (.list a))(g:a[p]?=some v):br b (.loc l) (.int p)=some v:=by show(b[l]?).bind _=_;rw[h];show(if(p:Int)=-1 then a.getLast? else C9 a (p:Int))=_;rw[aH (by lia),Ia,g]
theorem rB(h:b[l]?=some (.list (d++[v]))):br b (.loc l) (.int (-1))=some v:=by show(b[l]?).bind _=_;rw[h];show(if(-1:Int)=-1 then(d++[v]).getLast? else C9 (d++[v]) (-1))=_;rw[au rfl,List.getLast?_concat]
theorem CG (e:MS)(a b c:Int):aA e (.rng a b c)=if 0<=a/\a<1000000/\0<=b/\b<1000000/\0<c/\c<1000000 then some (.rng a (e6 a b c) c)else none:=rfl
theorem v6 (d:MS){b c:Nat}(hb:b<1000000)(hc:0<c/\c<1000000):aA d (.rng 0 b c)=some (.rng 0 (e6 0 b c) c):=(CG d 0 b c).trans (au ⟨Int.le_refl 0,by decide,by lia,by exact Int.ofNat_le.mpr (by assumption),by lia,by lia⟩)
theorem h9{s:Type}{f:s->V}{j t r:List s}{x:s}(h:m[l]?=some (.list (j.map f)))(e:j=t++x::r):br m (.loc l) (.int t.length)=some (f x):=pz h (by rw[e,bZ,my (by rw[b0];exact cc _),b0,pL];rfl)
theorem eS(m:∀v,az x v f=[(x,v)])(h:aj (next d n) fun o=>o.casesOn (Q d) fun p=>MA k ⟨[(x,p.1)],a⟩ c d fun b d=>a9 b (pE k ⟨[(x,p.1)],a⟩ e d (cR fun u d=>aj (aC d (.loc l)) fun i=>i.length<1000000/\j0 k x c e l p.2 ⟨[(x,p.1)],a⟩ (d.set l (.list (i++[u]))) Q)) (j0 k x c e l p.2 ⟨[(x,p.1)],a⟩ d Q)):j0 k x c e l n ⟨f,a⟩ d Q:=by have q:∀v,(⟨f,a⟩:MF).set x v=⟨[(x,v)],a⟩:=fun v=>congrArg (MF.mk · a) (m v);refine LF ?_;simp only[q];exact h
theorem xa(n:∀v,az x v f=[(x,v)])(h:aj (next e r) fun o=>o.casesOn (Q e) fun p=>MA k ⟨[(x,p.1)],d⟩ c e fun t e=>a9 t (pE k ⟨[(x,p.1)],d⟩ a e (cR fun u e=>pE k ⟨[(x,p.1)],d⟩ b e (cR fun w e=>uR (mn u) fun s=>aj (e[l]?) fun m=>uR (rk m) fun g=>g.length<1000000/\ku k x c a b l p.2 ⟨[(x,p.1)],d⟩ (e.set l (.dictS (ee s w g))) Q))) (ku k x c a b l p.2 ⟨[(x,p.1)],d⟩ e Q)):ku k x c a b l r ⟨f,d⟩ e Q:=by have q:∀v,(⟨f,d⟩:MF).set x v=⟨[(x,v)],d⟩:=fun v=>congrArg (MF.mk · d) (n v);refine IX ?_;simp only[q];exact h
noncomputable def zk:List Int->List Int:=fun l=>l.rec (fun _=>[]) (fun x _ a o=>o.casesOn (a (some x)) fun y=>(16*y+x)::a none) none
theorem Cp (x y:Int)(r:List Int):zk (x::y::r)=(16*x+y)::zk r:=rfl
noncomputable def jf (r:List UInt8):List Int->Except (Option Nat) (List Int×List UInt8):=r.rec (fun _=>.error none) fun c r e b=>bif decide ((c.toNat:Int)=62)then .ok (b,r)else bif decide (fS c.toNat>=0)then e (b++[fS c.toNat])else bif sK c.toNat then e b else .error (some (r.length+1))
noncomputable def xP (a:List Int):List Int:=bif decide ((a.length:Int) % 2=1)then a++[0]else a
noncomputable def vT (a:List Int):List UInt8:=(zk (xP a)).map fun i=>UInt8.ofNat i.toNat
abbrev KL (a:List Int):Prop:=∀x∈a,0<=x/\x<16
theorem xL:∀(l:List Int),(∀x∈l,0<=x/\x<256)->fW (l.map .int)=some (l.map fun i=>UInt8.ofNat i.toNat)
 | [],_=>rfl|x::l,h=>by
  show(if 0<=x/\x<256 then(fW (l.map .int)).bind fun r=>some (UInt8.ofNat x.toNat::r)else none)=_;rw[au (h x dR),xL l fun y g=>h y (eh _ g)];rfl
theorem Co:∀(l:List Int),KL l->∀x∈zk l,0<=x/\x<256
 | [],_,x,g=>absurd g dq| [y],_,x,g=>absurd g dq|y::z::l,h,x,g=>by
  rw[Cp]at g;rcases zC g with g|g
  ·have c:=h y dR;have d:=h z (eh _ dR);lia
  ·exact Co l (fun y g=>h y (eh _ (eh _ g))) x g
theorem wX(h:KL b)(g:0<=x/\x<16):KL (b++[x]):=fun y m=>(zG m).elim (h y) fun m=>by
 rw[List.mem_singleton.mp m];exact g
theorem Bs(h:w5 a b i=true):a<=i/\i<=b:=((mz ..).mp h).imp eP eP
theorem Jm(h:decide (fS i>=0)=true):0<=fS i/\fS i<16:=by refine⟨eP h,?_⟩;unfold fS;cases a:w5 48 57 i with|true=>have:=Bs a;show i-48<16;omega|false=>
  cases b:w5 65 70 i with|true=>have:=Bs b;show i-55<16;lia|false=>
   cases c:w5 97 102 i with|true=>have:=Bs c;show i-87<16;lia|false=>exact(by decide:(-1:Int)<16)
theorem Cq(hl:hs.length<1000000)(R:w≠m)(U:w≠h):∀(n:Nat) (e t i:List Int) (j:MS) (f:List (Nat×V)),e.length=2*n->i.length+e.length<=hs.length->hs=t++e->(∀v,az 435459026032 v f=[(435459026032,v)])->j[m]?=some (.list (hs.map .int))->j[h]?=some (.cell (some (.loc m)))->j[w]?=some (.list (i.map .int))->(∀p,Kp (· =w) j p->p[w]?=some (.list ((i++zk e).map .int))->Q p)->j0 k 435459026032 [] (.bin .add (.bin .mul (.val (.int 16)) (.sub (.cell 126879615705448) (.loc 435459026032))) (.sub (.cell 126879615705448) (.bin .add (.loc 435459026032) (.val (.int 1))))) w (.rng t.length n 2) ⟨f,[(126879615705448,h)]⟩ j Q
 |0,[],t,i,j,f,s,G,u,B,z,C,A,hq=>by
  refine eS B ?_;have M:i++zk []=i:=cF i;have hq:=hq j (Kp.refl _ _) (by rw[M];exact A);repeat ktr_rel|n+1,x::y::e,t,i,j,f,s,G,u,B,z,C,A,hq=>by
  have X:=fun i=>aD (mf:=⟨i,[(126879615705448,h)]⟩) (n:=126879615705448) rfl C;have X:=X [(435459026032,.int t.length)];have g1:=h9 z u;have Y:=h9 (t:=t++[x]) (x:=y) (r:=e) z (by rw[u,dU];rfl);have M:(((t++[x]).length:Nat):Int)=(t.length:Int)+1:=by rw[aK];rfl
  rw[M]at Y;have a1:=b5 A;have Z:i.length+(e.length+1+1)<=hs.length:=G;have a2:(i.map V.int).length<1000000:=by rw[b0];lia
  refine eS B ?_;repeat ktr_rel
  have e3:c8 j .mul (.int 16) (.int x)=some (.int (16*x),j):=by show(if(16:Int).natAbs<1000000000\/x.natAbs<1000000000 then some (V.int (16*x),j)else none)=_;exact au (.inl (by decide));repeat ktr_rel
  refine⟨a2,?_⟩;have e2:(i.map V.int)++[V.int (16*x+y)]=(i++[16*x+y]).map V.int:=by rw[bZ];rfl
  have e4:(t.length:Int)+2=((t++[x,y]).length:Int):=by rw[aK];rfl
  show j0 k _ _ _ w (.rng ((t.length:Int)+2) n 2) _ (j.set w (.list (i.map V.int++[V.int (16*x+y)]))) _;rw[e2,e4];refine Cq hl R U n e (t++[x,y]) (i++[16*x+y]) _ _ (by have:e.length+1+1=2*(n+1):=s;lia) (by rw[aK];show i.length+1+_<=_;lia) (by rw[u,dU];rfl) (fun _=>rfl) (aW _ R z) (aW _ U C) (aq _ A) fun p k' g=>hq p ((Kp.set (P:=(· =w)) _ _ rfl).tr k') ?_;rw[g,Cp,dU];rfl|0,_::_,t,i,j,f,s,G,u,B,z,C,A,hq=>nomatch s|n+1,[],t,i,j,f,s,G,u,B,z,C,A,hq=>absurd (show 0=2*(n+1)from s) (by lia)|n+1,[_],t,i,j,f,s,G,u,B,z,C,A,hq=>absurd (show 1=2*(n+1)from s) (by lia)
theorem xZ (n:Nat):e6 0 ((2*n:Nat):Int) 2=n:=by
 unfold e6;by_cases h:n=0
 ·subst h;rfl
 ·rw[au (by lia)];lia
theorem FO (c:List Int):∃n,(xP c).length=2*n:=by unfold xP;cases q:decide ((c.length:Int) % 2=1)with|true=>have q:=eP q;exact⟨(c.length+1) / 2,by show(c++[0]).length=_;rw[aK,Am];lia⟩|false=>have q:=sy q;exact⟨c.length / 2,by show c.length=_;lia⟩
noncomputable abbrev Mc (l h:Nat)(f:Int)(a:List (Nat×V)):MF:=⟨(125823003817315,.loc l)::(29113321703960687,.int f)::a,[(126879615705448,h)]⟩
theorem Fk(hc:mf.cells=[(126879615705448,h)])(H:L[h]?=some (.cell (some (.loc m))))(F:L[m]?=some (.list (e.map .int)))(ha:e.length+1<1000000)(hb:KL e)(hn:h≠m) (hq:∀j,Kp (· =m) L j->Q (.ok (.ret (.bytes (vT e)))) mf j):pSs k [.ite (.cmp (.bin .mod (.call (.val (.bi .len)) [.cell 126879615705448]) (.val (.int 2))) .eq (.val (.int 1))) [.expr (.meth (.cell 126879615705448) 110425311047777 [.val (.int 0)])] [],.ret [.call (.val (.ty .bytes)) [.comp [126879615705448] 435459026032 (.call (.val (.ty .range)) [.val (.int 0),.call (.val (.bi .len)) [.cell 126879615705448],.val (.int 2)]) [] (.bin .add (.bin .mul (.val (.int 16)) (.sub (.cell 126879615705448) (.loc 435459026032))) (.sub (.cell 126879615705448) (.bin .add (.loc 435459026032) (.val (.int 1)))))]]] mf L Q:=by
 obtain⟨u,z⟩:=mf;have hc:z=_:=hc;subst hc;have c1:bn ⟨u,[(126879615705448,h)]⟩ 126879615705448 L=_:=aD rfl H;have M:=td F;have e1:(e.map V.int).length=e.length:=b0 ..;rw[e1]at M;obtain⟨n,hl⟩:=FO e;have fin:∀o:MS,o[h]?=some (.cell (some (.loc m)))->o[m]?=some (.list ((xP e).map .int))->(∀j,Kp (· =m) o j->Q (.ok (.ret (.bytes (vT e)))) ⟨u,[(126879615705448,h)]⟩ j)->pSs k [.ret [.call (.val (.ty .bytes)) [.comp [126879615705448] 435459026032 (.call (.val (.ty .range)) [.val (.int 0),.call (.val (.bi .len)) [.cell 126879615705448],.val (.int 2)]) [] (.bin .add (.bin .mul (.val (.int 16)) (.sub (.cell 126879615705448) (.loc 435459026032))) (.sub (.cell 126879615705448) (.bin .add (.loc 435459026032) (.val (.int 1)))))]]] ⟨u,[(126879615705448,h)]⟩ o Q:=by
  intro o H F hq;have c1:bn ⟨u,[(126879615705448,h)]⟩ 126879615705448 o=_:=aD rfl H;have M:=td F;have e1:((xP e).map V.int).length=2*n:=(b0 ..).trans hl;have e2:2*n<1000000:=by rw[<- hl];unfold xP;cases decide ((e.length:Int) % 2=1)<;>simp only[cond_true,cond_false,aK,Am]<;>omega
  rw[e1]at M;have t1:fZ o .range [.int 0,.int (2*n:Nat),.int 2]=some (.rng 0 (2*n:Nat) 2,o):=rfl;have i1:aA o (.rng 0 (2*n:Nat) 2)=some (.rng 0 n 2):=(v6 o e2 (c:=2) (by decide)).trans (by rw[show e6 0 ((2*n:Nat):Int) ((2:Nat):Int)=n from xZ n];rfl);obtain⟨B,hB⟩:∃B:Int,B=((2*n:Nat):Int):=⟨_,rfl⟩;rw[<- hB]at M t1 i1;repeat ktr_rel
  refine Cq (hs:=xP e) (m:=m) (h:=h) (by rw[hl];exact e2) (fP (bK F)) (fP (bK H)) n (xP e) [] [] _ [] hl (by rw[fm,iF];exact cc _) rfl (fun _=>rfl) (ai _ F) (ai _ H) (ag o _ []) fun j k' g=>?_;have k2:Kp (· =m) o j:=(Kp.app (· =m) o _).trans k' fun i h n=>absurd n (eo h);have hq:=hq j k2;have hp:KL (xP e):=by
   unfold xP
   cases decide ((e.length:Int) % 2=1)with
   |true=>exact wX hb (by decide)
   |false=>exact hb
  have t2:fZ j .bytes [.loc o.length]=some (.bytes (vT e),j):=by
   show Option.bind ((aC j (.loc o.length)).bind fun vs=>(fW vs).bind fun b=>some (V.bytes b)) (fun v=>some (v,j))=_
   rw[b5 g]
   show Option.bind ((fW _).bind fun b=>some (V.bytes b)) (fun v=>some (v,j))=_
   rw[Ao,xL _ (Co _ hp)];rfl
  repeat ktr_rel
 have m1:c8 L .mod (.int e.length) (.int 2)=some (.int (e.length % 2),L):=rfl
 refine bS (decide ((e.length:Int) % 2=1)) ?_ ?_
 ·intro q
  have l1:=fK F
  have l2:=fx (.int 0) F (by rw[b0];omega)
  have e3:(e.map V.int)++[V.int 0]=(xP e).map V.int:=by unfold xP;rw[q];exact(bZ (l₁:=e) (l₂:=[0])).symm
  rw[e3]at l2
  refine aj.mk _ c1 ?_
  refine aj.mk _ M ?_
  refine aj.mk _ m1 ?_
  refine aj.mk _ rfl ?_
  refine a9.pos q ?_
  refine aj.mk _ c1 ?_
  refine aj.mk _ l1 ?_
  refine aj.mk _ l2 ?_
  exact fin _ (aW _ (ci hn) H) (aq _ F) fun j k'=>hq j ((Kp.set (P:=(· =m)) _ _ rfl).tr k')
 ·intro q
  have e3:xP e=e:=by unfold xP;rw[q];rfl
  refine aj.mk _ c1 ?_
  refine aj.mk _ M ?_
  refine aj.mk _ m1 ?_
  refine aj.mk _ rfl ?_
  refine a9.neg q ?_
  exact fin _ H (by rw[e3];exact F) hq
theorem Cr{e:Nat}(f:Int)(lm:l≠m)(lh:l≠h)(hn:h≠m):∀(r:List UInt8) (ms:MS) (p:Nat) (acc:List Int) (vs:List (Nat×V)),acc.length+r.length<1000000->KL acc->(∀v,∃vs',az 1701080931 v vs=(1701080931,v)::vs'/\∀w,az 448630255479 w vs'=[(448630255479,w)])->ms[l]?=some (aT b p e)->ms[h]?=some (.cell (some (.loc m)))->ms[m]?=some (.list (acc.map .int))->aE b e p r->(∀ms',Kp (o0 l m) ms ms'->(jf r acc= .error none->∀vs,Q (.ok .next) (Mc l h f vs) ms')/\(∀n,jf r acc= .error (some n)->∀mf,Q (.error ((e:Int)-n)) mf ms')/\∀o r' (p':Nat),jf r acc= .ok (o,r')->ms'[l]?=some (aT b p' e)->aE b e p' r'->∀mf,Q (.ok (.ret (.bytes (vT o)))) mf ms')->aV (k+2) gG gF (Mc l h f vs) ms Q
 | [],ms,p,acc,vs,la,hb,hv,h1,hh,hm,hr,hq=>by
  have a1:=j4 h1;have hq:=(hq ms (Kp.refl _ _)).1 rfl vs
  refine bu ?_
  repeat ktr_rel
  refine d8 h1 hr ?_
  repeat ktr_rel
 |c::r,ms,p,acc,vs,la,hb,hv,h1,hh,hm,hr,hq=>by
  have la:acc.length+(r.length+1)<1000000:=la
  have es:jf (c::r) acc=bif decide ((c.toNat:Int)=62)then .ok (acc,r)else bif decide (fS c.toNat>=0)then jf r (acc++[fS c.toNat])else bif sK c.toNat then jf r acc else .error (some (r.length+1)):=rfl
  have a1:=j4 h1
  have a3:=vy h1
  refine bu ?_
  repeat ktr_rel
  refine d8 h1 hr ?_
  repeat ktr_rel
  refine mr h1 hr ?_
  repeat ktr_rel
  obtain⟨vs',ev,hv'⟩:=hv (.int c.toNat)
  show pSs (k+2) _ ⟨_::_::az 1701080931 (V.int c.toNat) vs,_⟩ _ _
  rw[ev]
  have h2:=aq (aT b (p+1:Nat) e) h1
  have hh2:=aW (aT b (p+1:Nat) e) lh hh
  have hm2:=aW (aT b (p+1:Nat) e) lm hm
  have kp:Kp (o0 l m) ms (ms.set l (aT b (p+1:Nat) e)):=Kp.set _ _ (.inl rfl)
  refine bS (decide ((c.toNat:Int)=62)) ?_ ?_
  ·intro q1
   rw[q1]at es
   repeat ktr_rel
   refine Fk rfl hh2 hm2 (by lia) hb hn fun ms' k'=>?_
   exact(hq ms' (kp.trans k' fun i _ z=>.inr z)).2.2 acc r (p+1) es (k'.at h2 lm) hr.tl _
  ·intro q1
   rw[q1]at es
   repeat ktr_rel
   refine tK c.toNat ?_
   repeat ktr_rel
   show pSs (k+2) _ ⟨_::_::_::az 448630255479 (V.int (fS c.toNat)) vs',_⟩ _ _
   rw[hv']
   have c1:bn ⟨[(125823003817315,V.loc l),(29113321703960687,V.int f),(1701080931,V.int c.toNat),(448630255479,V.int (fS c.toNat))],[(126879615705448,h)]⟩ 126879615705448 (ms.set l (aT b (p+1:Nat) e))=_:=aD rfl hh2
   have hv2:∀v,∃vs',az 1701080931 v [(1701080931,V.int c.toNat),(448630255479,V.int (fS c.toNat))]=(1701080931,v)::vs'/\∀w,az 448630255479 w vs'=[(448630255479,w)]:=fun v=>⟨_,rfl,fun _=>rfl⟩
   refine bS (decide (fS c.toNat>=0)) ?_ ?_
   ·intro q2
    rw[q2]at es
    have l1:=fK hm2
    have l2:=fx (.int (fS c.toNat)) hm2 (by rw[b0];exact cN (dn ..) (by assumption))
    have e3:(acc.map V.int)++[V.int (fS c.toNat)]=(acc++[fS c.toNat]).map V.int:=(bZ (l₁:=acc) (l₂:=[fS c.toNat])).symm
    rw[e3]at l2
    repeat ktr_rel
    refine Cr f lm lh hn r _ (p+1) (acc++[fS c.toNat]) _ (by rw[aK];show acc.length+1+_<_;rw[lb];assumption) (wX hb (Jm q2)) hv2 (aW _ (ci lm) h2) (aW _ (ci hn) hh2) (aq _ hm2) hr.tl fun ms' k'=>?_
    have hq:=hq ms' (kp.tr ((Kp.set _ _ (.inr rfl)).tr k'))
    rw[es]at hq
    exact hq
   ·intro q2
    rw[q2]at es
    repeat ktr_rel
    refine vX _ ?_
    repeat ktr_rel
    cases q3:sK c.toNat with
    |true=>
     rw[q3]at es
     have q4:(!true)=false:=rfl
     repeat ktr_rel
     refine Cr f lm lh hn r _ (p+1) acc _ (by exact ju (by assumption)) hb hv2 h2 hh2 hm2 hr.tl fun ms' k'=>?_
     have hq:=hq ms' (kp.tr k')
     rw[es]at hq
     exact hq
    |false=>
     rw[q3]at es
     have b1:=bA h2
     have hq:=(hq _ kp).2.1 _ es
     have e4:((p+1:Nat):Int)-1=(e:Int)-((r.length+1:Nat):Int):=by have:=hr.ln;rw[fj]at this;lia
     rw[<- e4]at hq
     repeat ktr_rel
     exact hq _
theorem rD{e:Nat}{ms:MS}{r:List UInt8}{p:Nat}{Q:Kv}(h:ms[l]?=some (aT b p e))(hr:aE b e p r)(ln:r.length<1000000) (hq:∀ms',Kp (· =l) ms ms'->(jf r []= .error none->Q (.error (p-1)) ms')/\(∀n,jf r []= .error (some n)->Q (.error ((e:Int)-n)) ms')/\∀o r' (p':Nat),jf r []= .ok (o,r')->ms'[l]?=some (aT b p' e)->aE b e p' r'->Q (.ok (.bytes (vT o))) ms'):Call (k+3) 39 0 [.loc l] ms Q:=by
 have h0:=ai [ah.cell none] h;have a1:=bA h0;refine gC (fn:=hO) rfl rfl ?_;have s1:iy ⟨[(125823003817315,.loc l),(29113321703960687,.int (p-1))],[(126879615705448,ms.length)]⟩ 126879615705448 (.loc (ms.length+1)) (ms++[ah.cell none,.list []])=some (⟨[(125823003817315,.loc l),(29113321703960687,.int (p-1))],[(126879615705448,ms.length)]⟩,ms++[.cell (some (.loc (ms.length+1))),.list []]):=by
  show((ms++[ah.cell none,.list []])[ms.length]?).bind _=_;rw[ag ms _ _];show some (_,(ms++[ah.cell none,.list []]).set ms.length (.cell (some (.loc (ms.length+1)))))=_;rw[ys _ _ (cc _),pL];rfl
 have e1:(ms++[ah.cell none])++[.list []]=ms++[.cell none,.list []]:=dU ..;have e2:(ms++[ah.cell none]).length=ms.length+1:=aK;show pSs (k+2) _ ⟨[(125823003817315,.loc l)],[(126879615705448,ms.length)]⟩ (ms++[ah.cell none]) _;repeat ktr_rel
 rw[e1,e2]
 repeat ktr_rel
 refine Cr _ (eo (qC (bK h))) (eo (bK h)) (eo (uM _)) r _ p [] [] (by rw[fm,iF];exact ln) (fun _ h=>absurd h dq) (fun v=>⟨[],rfl,fun _=>rfl⟩) (ai _ h) (ag ms _ _) (by
  rw[my (eO _),show ms.length.succ-ms.length=1 by lia];rfl) hr fun ms' k'=>?_
 have kk:Kp (· =l) ms ms':=(Kp.app (· =l) ms _).trans k' fun i h n=>n.elim id fun n=>absurd n (eo (qC h))
 have hq:=hq ms' kk
 refine⟨fun z vs=>?_,fun n z mf=>hq.2.1 n z,fun o r' p' z h' g mf=>hq.2.2 o r' p' z h' g⟩
 have hq:=hq.1 z
 repeat ktr_rel
theorem a9.of(h:b=c)(x:bif c then A else B):a9 b A B:=by cases c with|true=>exact a9.pos h x|false=>exact a9.neg h x
local macro_rules | `(tactic|ktr_rel)=>`(tactic|(repeat (first|refine aj.mk _ (by first|with_reducible assumption|rfl|assumption) ?_|refine a9.of (by first|with_reducible assumption|exact(rfl:_=true)|exact(rfl:_=false)|assumption|rfl) ?_|refine And.intro (by first|rfl|exact aP rfl) ?_));first|refine(?_:Call _ _ _ _ _ _)|assumption|skip)
inductive Tok where
 |fin|name (o:List UInt8)|str (o:List UInt8)|hex (o:List UInt8)|sign (o:List UInt8)|word (o:List UInt8)|int (i:Int)|real (t:Int) (n:Nat)
noncomputable def Tok.kind (t:Tok):List Nat:=t.casesOn [101,110,100] (fun _=>[110,97,109,101]) (fun _=>[115,116,114,105,110,103]) (fun _=>[104,101,120]) (fun _=>[115,105,103,110]) (fun _=>[119,111,114,100]) (fun _=>[105,110,116]) fun _ _=>[114,101,97,108]
def Tok.is (n:Nat)(b:MS)(v:V)(t:Tok):Prop:=t.casesOn (v= .bytes []) (fun o=>v= .str (o.map (·.toNat))) (fun o=>v= .bytes o) (fun o=>v= .bytes o) (fun o=>v= .bytes o) (fun o=>v= .bytes o) (fun i=>v= .int i) fun t e=>∃d,v= .loc d/\n<=d/\b[d]?=some (mS t e)
noncomputable def ma (o:List UInt8):Tok:=match BJ o with|none=>.word o|some (i,none)=>.int i|some (t,some n)=>.real t n
theorem iS(h:c[d]?=some o)(g:((xB o).bind fun k=>(Js t).bind fun t=>if Et.contains k.code=true/\Mj.contains t.code=true then some (k.code==t.code||(k.code==2&&t.code==1))else none)=some x):iH c .isinstance [.loc d,t]=some (.bool x,c):=by show Option.bind (((c[d]?).bind xB).bind _) _=_;rw[h];exact(congrArg (Option.bind · fun b=>some (V.bool b,c)) g)
structure ky (b:List UInt8):Prop where
 n92:∀c:UInt8,c∈b->c.toNat≠92
 n35:∀c:UInt8,c∈b->c.toNat≠35
 ln:b.length<1000000
 l9:b.length<999999
theorem ug{p e:Nat}(h:f[l]?=some (aT b p e))(hr:aE b e p r)(s:Int)(hq:∀d (c:Nat) v,Kp (· =l) f d->d[l]?=some (aT b c e)->aE b e c (r.dropWhile rg)->(ma (r.takeWhile rg)).is f.length d v->Q (.ok (.tup [.str (ma (r.takeWhile rg)).kind,v,.int s])) d):Call (k+4) 40 0 [.loc l,.int s] f Q:=by
 have F:=nV h;refine ar (fn:=jb) rfl rfl rfl ?_;ktr_rel;refine dQ h hr fun c j=>?_;have w:=aq (aT b c e) h;have y:Kp (· =l) f (f.set l (aT b c e)):=Kp.set _ _ rfl;ktr_rel;refine jo _ ?_;have B:(f.set l (aT b c e)).length=f.length:=sD ..;unfold ma at hq;cases q:BJ (r.takeWhile rg)with
 |none=>
  rw[q]at hq;have hq:=hq _ c _ y w j rfl;ktr_rel|some x=>
  obtain⟨t,n⟩:=x;cases n with
  |none=>
   rw[q]at hq;have hq:=hq _ c _ y w j rfl;ktr_rel|some n=>
   rw[q]at hq;have g:=ag (f.set l (aT b c e)) (mS t n) [];have hq:=hq _ c _ (y.tr (Kp.app (· =l) _ [mS t n])) (ai _ w) j ⟨_,rfl,iG B.symm,g⟩;have I:=iS (t:=.ty .int) (x:=false) g rfl;ktr_rel
noncomputable def sgI (i:Int):Bool:=decide (91=i)||(decide (93=i)||(decide (123=i)||(decide (125=i)||false)))
noncomputable def gE (c:UInt8)(t:List UInt8):Except Nat (Tok×List UInt8):=bif decide ((c.toNat:Int)=47)then .ok (.name (t.takeWhile rg),t.dropWhile rg)else bif decide ((c.toNat:Int)=40)then(match nq t false 1 []with|none=>.error (t.length+1)|some q=>.ok (.str q.1,q.2))else bif Au 60 60 (c::t)then .ok (.sign [60,60],t.tail)else bif Au 62 62 (c::t)then .ok (.sign [62,62],t.tail)else bif decide ((c.toNat:Int)=60)then(match jf t []with| .error none=>.error (t.length+1)| .error (some n)=>.error n| .ok q=>.ok (.hex (vT q.1),q.2))else bif sgI c.toNat then .ok (.sign [c],t)else .error (t.length+1)
def AL (l:Nat)(b:List UInt8)(e:Nat)(d:Int)(f:MS)(x:Except Nat (Tok×List UInt8))(Q:Kv):Prop:=match x with| .error n=>∀a,Kp (· =l) f a->Q (.error ((e:Int)-n)) a| .ok (t,j)=>∀a (g:Nat) v,Kp (· =l) f a->a[l]?=some (aT b g e)->aE b e g j->t.is f.length a v->Q (.ok (.tup [.str t.kind,v,.int d])) a
theorem DE(hr:aE b e p r):∀c∈r,c∈b:=fun c h=>List.mem_of_mem_take (List.mem_of_mem_drop (hr.eq.symm▸h))
theorem rW (hr:aE b e p r):r.length<=b.length:=by have:=hr.ln;have:=hr.le;lia
theorem Ec{s:Type}{f:s->Bool}{l:List s}{x:s}(h:x∈l.takeWhile f):x∈l/\f x=true:=⟨(List.takeWhile_sublist f).subset h,by
 induction l with
 |nil=>exact absurd h dq|cons a l c=>
  rw[An]at h;refine qI (f a) ?_ ?_
  ·intro q;rw[q]at h;exact absurd h dq
  ·intro q;rw[q]at h;rcases zC h with h|h
   ·rw[h];exact q
   ·exact c h⟩
theorem MU{p e:Nat}(h:f[l]?=some (aT b p e))(hr:aE b e p (c::t)){P:Prop}(x:f[l]?=some (aT b p e)->(f.set l (aT b (p+1:Nat) e))[l]?=some (aT b (p+1:Nat) e)->aE b e (p+1) t->Kp (· =l) f (f.set l (aT b (p+1:Nat) e))->(f.set l (aT b (p+1:Nat) e)).length=f.length->P):P:=x h (aq _ h) hr.tl (Kp.set _ _ rfl) (sD ..)
theorem Tok.is_of{t:Tok}(h:t.is n a v)(b:c<=n):t.is c a v:=by cases t with|real t n=>exact h.imp fun d h=>⟨h.1,bR b h.2.1,h.2.2⟩|_=>exact h
theorem wB(q:Au x y (c::t)=true):∃d,t=d::t.tail:=by cases t with|nil=>exact absurd (congrArg List.length (eP q)) (show(1:Nat)≠2 by decide)|cons d t=>exact⟨d,rfl⟩
theorem kC{p e:Nat}(f:ky b)(c:UInt8)(t:List UInt8)(h:I[l]?=some (aT b p e))(hr:aE b e p (c::t))(hq:∀x,gE c t=x->AL l b e p I x Q):Call (k+4) 41 0 [.loc l,.int c.toNat,.int p] I Q:=by
 have a1:=vy h;have a2:=IV h;have U:((e:Int)-((t.length+1:Nat):Int))=(p:Int):=by have:=hr.ln;rw[fj]at this;lia
 have e2:((p+1:Nat):Int)-1=p:=by lia
 refine MU h hr fun _ J i D e1=>?_
 have b8:=nV J
 have X:=cN (rW i) f.ln
 refine ar (fn:=dH) rfl rfl rfl ?_
 refine bS (decide ((c.toNat:Int)=47)) ?_ ?_
 ·intro u
  ktr_rel
  refine mr h hr ?_
  ktr_rel
  refine dQ J i fun K Y=>?_
  ktr_rel
  refine tV _ _ ?_ ?_ ?_
  ·exact bR (List.takeWhile_sublist _).length_le (ju X)
  ·intro c hc
   refine⟨fun z=>?_,f.n35 c (DE i c (Ec hc).1)⟩
   have:=(Ec hc).2
   unfold rg at this
   rw[z]at this
   exact Bool.noConfusion this
  ·have hq:=hq (.ok (.name (t.takeWhile rg),t.dropWhile rg)) (by unfold gE;rw[u];rfl) _ K _ ((D.tr (Kp.set _ (aT b K e) rfl)).tr (Kp.app _ _ [.list ((t.takeWhile rg).map fun c=>.str [c.toNat])])) (ai _ (aq _ J)) Y rfl
   ktr_rel
 ·intro u
  refine bS (decide ((c.toNat:Int)=40)) ?_ ?_
  ·intro v
   ktr_rel
   refine mr h hr ?_
   ktr_rel
   refine zv f.n92 J i X fun s M=>⟨fun z=>?_,fun o r' K z h' g=>?_⟩
   ·have hq:=hq (.error (t.length+1)) (by unfold gE;rw[u,v,z];rfl) s (D.tr M)
    rw[U]at hq
    rw[e2]
    exact hq
   ·have hq:=hq (.ok (.str o,r')) (by unfold gE;rw[u,v,z];rfl) s K _ (D.tr M) h' g rfl
    ktr_rel
  ·intro v
   ktr_rel
   refine DP 60 60 h hr ⟨fun w=>?_,fun w=>?_⟩
   rotate_left
   ·obtain⟨d,hd⟩:=wB w
    rw[hd]at i
    have hq:=hq (.ok (.sign [60,60],t.tail)) (by unfold gE;rw[u,v,w];rfl) _ (p+2) _ (Kp.set I (aT b (p+2:Nat) e) rfl) (aq _ h) i.tl rfl
    ktr_rel
   ktr_rel
   refine DP 62 62 h hr ⟨fun B=>?_,fun B=>?_⟩
   rotate_left
   ·obtain⟨d,hd⟩:=wB B
    rw[hd]at i
    have hq:=hq (.ok (.sign [62,62],t.tail)) (by unfold gE;rw[u,v,w,B];rfl) _ (p+2) _ (Kp.set I (aT b (p+2:Nat) e) rfl) (aq _ h) i.tl rfl
    ktr_rel
   refine bS (decide ((c.toNat:Int)=60)) ?_ ?_
   ·intro N
    ktr_rel
    refine mr h hr ?_
    ktr_rel
    refine rD J i X fun s M=>⟨fun z=>?_,fun n z=>?_,fun o r' K z h' g=>?_⟩
    ·have hq:=hq (.error (t.length+1)) (by unfold gE;rw[u,v,w,B,N,z];rfl) s (D.tr M)
     rw[U]at hq
     rw[e2]
     exact hq
    ·exact hq (.error n) (by unfold gE;rw[u,v,w,B,N,z];rfl) s (D.tr M)
    ·have hq:=hq (.ok (.hex (vT o),r')) (by unfold gE;rw[u,v,w,B,N,z];rfl) s K _ (D.tr M) h' g rfl
     ktr_rel
   ·intro N
    refine bS (sgI c.toNat) ?_ ?_
    ·intro q6
     have g:=ag (I.set l (aT b (p+1:Nat) e)) (.list [.int c.toNat]) []
     have t1:=yd [c] g
     have hq:=hq (.ok (.sign [c],t)) (by unfold gE;rw[u,v,w,B,N,q6];rfl) _ (p+1) _ (D.tr (Kp.app _ _ [.list [.int c.toNat]])) (ai _ J) i rfl
     ktr_rel
     refine mr h hr ?_
     ktr_rel
    ·intro q6
     have hq:=hq (.error (t.length+1)) (by unfold gE;rw[u,v,w,B,N,q6];rfl) I (Kp.refl _ _)
     rw[U]at hq
     ktr_rel
noncomputable def dW (s:List UInt8):Except Nat (Tok×List UInt8):=s.casesOn (.ok (.fin,[])) fun c t=>bif decide ((c.toNat:Int)=47)||(decide ((c.toNat:Int)=40)||(decide ((c.toNat:Int)=41)||(decide ((c.toNat:Int)=60)||(decide ((c.toNat:Int)=62)||sgI c.toNat))))then gE c t else .ok (ma ((c::t).takeWhile rg),(c::t).dropWhile rg)
theorem AL.mono(h:AL l b e d o x Q)(k:Kp (· =l) o f):AL l b e d f x Q:=match x,h with| .error n,h=>fun c j=>h c (k.tr j)| .ok (t,u),h=>fun c q v j a b i=>h c q v (k.tr j) a b (Tok.is_of i k.len)
theorem kO{p e:Nat}(f:ky b)(h:v[l]?=some (aT b p e))(hr:aE b e p r)(hq:AL l b e ((e:Int)-(aG false r).length) v (dW (aG false r)) Q):Call (k+5) 42 0 [.loc l] v Q:=by
 have K:=lH h;refine ar (fn:=hY) rfl rfl rfl ?_;ktr_rel;refine cM h hr fun m g=>?_;have w:=aq (aT b m e) h;have G:Kp (· =l) v (v.set l (aT b m e)):=Kp.set _ _ rfl;have M:=bA w;have N:=vw w
 have H:((e:Int)-(aG false r).length)=(m:Int):=by have:=g.ln;lia
 rw[H]at hq
 have hq:=hq.mono G
 ktr_rel
 refine rP w g ?_
 cases q:aG false r with
 |nil=>
  rw[q]at hq g
  have hq:=hq _ m _ (Kp.refl _ _) w g rfl
  ktr_rel
 |cons c t=>
  rw[q]at hq g
  have n1:decide ((c.toNat:Int)=-1)=false:=cO fun z=>absurd (kq c.toNat) (by rw[z];decide)
  have i:dW (c::t)=bif decide ((c.toNat:Int)=47)||(decide ((c.toNat:Int)=40)||(decide ((c.toNat:Int)=41)||(decide ((c.toNat:Int)=60)||(decide ((c.toNat:Int)=62)||sgI c.toNat))))then gE c t else .ok (ma ((c::t).takeWhile rg),(c::t).dropWhile rg):=rfl
  have y:dW (c::t)=gE c t->Call (k+4) 41 0 [.loc l,.int c.toNat,.int m] (v.set l (aT b m e)) Q:=fun z=>kC f c t w g fun x I=>by rw[z,I]at hq;exact hq
  have J:dW (c::t)= .ok (ma ((c::t).takeWhile rg),(c::t).dropWhile rg)->Call (k+4) 40 0 [.loc l,.int m] (v.set l (aT b m e)) Q:=fun z=>ug w g m (by rw[z]at hq;exact hq)
  clear hq
  refine bS (decide ((c.toNat:Int)=47)) ?_ ?_
  ·intro o
   rw[o]at i
   ktr_rel
   exact(y i).mono fun r _ h=>match r,h with| .error _,h=>h| .ok _,h=>h
  ·intro o
   refine bS (decide ((c.toNat:Int)=40)) ?_ ?_
   ·intro u
    rw[o,u]at i
    ktr_rel
    exact(y i).mono fun r _ h=>match r,h with| .error _,h=>h| .ok _,h=>h
   ·intro u
    refine bS (decide ((c.toNat:Int)=41)) ?_ ?_
    ·intro A
     rw[o,u,A]at i
     ktr_rel
     exact(y i).mono fun r _ h=>match r,h with| .error _,h=>h| .ok _,h=>h
    ·intro A
     refine bS (decide ((c.toNat:Int)=60)) ?_ ?_
     ·intro C
      rw[o,u,A,C]at i
      ktr_rel
      exact(y i).mono fun r _ h=>match r,h with| .error _,h=>h| .ok _,h=>h
     ·intro C
      refine bS (decide ((c.toNat:Int)=62)) ?_ ?_
      ·intro D
       rw[o,u,A,C,D]at i
       ktr_rel
       exact(y i).mono fun r _ h=>match r,h with| .error _,h=>h| .ok _,h=>h
      ·intro D
       refine bS (sgI c.toNat) ?_ ?_
       ·intro F
        rw[o,u,A,C,D,F]at i
        ktr_rel
        exact(y i).mono fun r _ h=>match r,h with| .error _,h=>h| .ok _,h=>h
       ·intro F
        rw[o,u,A,C,D,F]at i
        ktr_rel
        exact(J i).mono fun r _ h=>match r,h with| .error _,h=>h| .ok _,h=>h
noncomputable def xJ (s:V):ah:=.inst 45 [(1954047348,s)]
noncomputable def Ab (o:V)(h:Bool):ah:=.inst 46 [(126943755527023,o),(132376938115945,.bool h)]
noncomputable def DA (n g:V):ah:=.inst 48 [(125779768604014,n),(521515500513457970505063,g)]
noncomputable def lZ (a:Bool):List UInt8:=bif a then [91]else [60,60]
noncomputable def rz (m:V)(a:Nat):ah:=.inst 56 [(1802658157,m),(495756604521,.loc a)]
theorem tU (a:MS)(v:V)(hq:Q (.ok .none) (a++[xJ v])):Call (k+1) 45 1 [.loc a.length,v] (a++[.inst 45 []]) Q:=by have f:=cX a 1954047348 45 [] v ⟨rfl,iP rfl,aP rfl⟩;refine ar (fn:=i4) rfl rfl rfl ?_;ktr_rel
theorem ww (a:MS)(v:V)(hq:Q (.ok .none) (a++[Ab v false])):Call (k+1) 46 1 [.loc a.length,v] (a++[.inst 46 []]) Q:=by have g:=cX a 126943755527023 46 [] v ⟨rfl,iP rfl,aP rfl⟩;have h:=cX a 132376938115945 46 [(126943755527023,v)] (.bool false) ⟨rfl,iP rfl,aP rfl⟩;refine ar (fn:=eB) rfl rfl rfl ?_;ktr_rel
theorem vU (a:MS)(v:V)(hq:Q (.ok .none) (a++[Ab v true])):Call (k+1) 46 1 [.loc a.length,v,.bool true] (a++[.inst 46 []]) Q:=by have g:=cX a 126943755527023 46 [] v ⟨rfl,iP rfl,aP rfl⟩;have h:=cX a 132376938115945 46 [(126943755527023,v)] (.bool true) ⟨rfl,iP rfl,aP rfl⟩;refine ar (fn:=eB) rfl rfl rfl ?_;ktr_rel
theorem wo (a:MS)(v w:V)(hq:Q (.ok .none) (a++[DA v w])):Call (k+1) 48 1 [.loc a.length,v,w] (a++[.inst 48 []]) Q:=by have f:=cX a 125779768604014 48 [] v ⟨rfl,iP rfl,aP rfl⟩;have g:=cX a 521515500513457970505063 48 [(125779768604014,v)] w ⟨rfl,iP rfl,aP rfl⟩;refine ar (fn:=d5) rfl rfl rfl ?_;ktr_rel
theorem vM (a:MS)(v:V)(hq:Q (.ok .none) (a++[rz v (a.length+1),.list []])):Call (k+1) 56 1 [.loc a.length,v] (a++[.inst 56 []]) Q:=by
 have r:=cX a 1802658157 56 [] v ⟨rfl,iP rfl,aP rfl⟩;have g:((a++[ah.inst 56 (ee 1802658157 v [])])++[ah.list []])[a.length]?=some (.inst 56 [(1802658157,v)]):=by rw[dU];exact ag a _ _
 have o:=DJ (f:=495756604521) (.loc (a++[ah.inst 56 (ee 1802658157 v [])]).length) g ⟨rfl,iP rfl,aP rfl⟩;have p:((a++[ah.inst 56 (ee 1802658157 v [])])++[ah.list []]).set a.length (ah.inst 56 (ee 495756604521 (.loc (a++[ah.inst 56 (ee 1802658157 v [])]).length) [(1802658157,v)]))=a++[rz v (a.length+1),.list []]:=by rw[dU,ys _ _ (cc _),pL,aK];rfl
 rw[p]at o;refine ar (fn:=hJ) rfl rfl rfl ?_;ktr_rel
noncomputable def wk (a:Bool)(n:Nat):Bool:=!a&&decide ((n:Int) % 2=0)
theorem mN(h:e[f]?=some (rz (.bytes (lZ a)) l))(o:e[l]?=some (.list g))(hq:Q (.ok (.bool (wk a g.length))) e):Call (k+1) 56 2 [.loc f] e Q:=by
 have j:aY e (.loc f) 1802658157=some (.bytes (lZ a)):=fH h rfl;have r:aY e (.loc f) 495756604521=some (.loc l):=fH h rfl;have s:=td o;refine ar (fn:=dG) rfl rfl rfl ?_;cases a with
 |true=>have j:aY e (.loc f) 1802658157=some (.bytes [91]):=j;ktr_rel|false=>
  have j:aY e (.loc f) 1802658157=some (.bytes [60,60]):=j;have u:c8 e .mod (.int g.length) (.int 2)=some (.int (g.length % 2),e):=rfl;have p:wk false g.length=decide ((g.length:Int) % 2=0):=rfl;rw[p]at hq;ktr_rel
theorem vY (i:Int)(hq:Q (.ok (.bool (decide (i>=0)))) b):Call (k+1) 57 0 [.int i] b Q:=by refine ar (fn:=fD) rfl rfl rfl ?_;ktr_rel
theorem v5 (hq:Q (.ok (.bool false)) b):Call (k+1) 57 0 [.none] b Q:=by refine ar (fn:=fD) rfl rfl rfl ?_;ktr_rel
theorem vZ(h:a[d]?=some (.inst c fs))(g:c=21)(hq:Q (.ok (.bool false)) a):Call (k+1) 57 0 [.loc d] a Q:=by subst g;have i:=iS (t:=.ty .int) (x:=false) h rfl;refine ar (fn:=fD) rfl rfl rfl ?_;ktr_rel
noncomputable def ir (n:Int)(r:List UInt8):Option (Int×List UInt8):=match BJ ((aG false r).takeWhile rg)with|some (g,none)=>bif decide (g>=0)&&decide ((aG false ((aG false r).dropWhile rg)).takeWhile rg=[82])then some (g,(aG false ((aG false r).dropWhile rg)).dropWhile rg)else none|_=>none
theorem xI (hr:aE b e p r):(if(e:Int)<0 then(b.length:Int)else min (e:Int) b.length)=e:=by rw[aH (Int.not_lt.mpr (kq _))];exact Int.min_eq_left (Int.ofNat_le.mpr hr.le)
theorem oS (c g:MS)(x y:ah):(c++x::g).set c.length y=c++y::g:=by rw[ys _ _ (cc _),pL];rfl
noncomputable def MH (l d:Nat)(n:Int)(v:V):MF:=⟨[(125823003817315,.loc l),(125779768604014,.int n),(435443167856,.loc d),(521515500513457970505063,v)],[]⟩
theorem rV{Q:Kv}{p e:Nat}{g:MS}(h:a[l]?=some (aT b p e))(hr:aE b e D r)(L:∀(p:Nat) (Q:Kv),Q (.ok (.bool w)) (a++aT b p e::g)->Call (k+3) 57 0 [v] (a++aT b p e::g) Q) (t:(w&&decide ((aG false r).takeWhile rg=[82]))=false->∀(f:Nat) g',Q (.ok (.int n)) (a++aT b f e::g')) (H:w=true->(aG false r).takeWhile rg=[82]->∀(f:Nat),aE b e f ((aG false r).dropWhile rg)->Q (.ok (.loc ((a.set l (aT b f e))++aT b f e::g).length)) (((a.set l (aT b f e))++aT b f e::g)++[DA (.int n) v])):pSs (k+3) [.expr (.meth (.loc 435443167856) 479106432534407826467699 []),.ite (.or [.not (.call (.val (.fn 57)) [.loc 521515500513457970505063]),.cmp (.meth (.loc 435443167856) 35399069105435650322875507060 []) .ne (.val (.bytes [82]))]) [.ret [.loc 125779768604014]] [],.assign (.attr (.loc 125823003817315) 29793) (.attr (.loc 435443167856) 29793),.ret [.call (.val (.cls 48)) [.loc 125779768604014,.loc 521515500513457970505063]]] (MH l a.length n v) (a++aT b D e::g) fun r mf a=>Q (bF r) a:=by
 have I:=ag a (aT b D e) g;have c3:=lH I;ktr_rel;refine cM I hr fun A B=>?_;rw[oS];have J:=ag a (aT b A e) g;have c4:=nV J;ktr_rel;refine L A _ ?_;cases w with
 |false=>
  have t:=t rfl A g;ktr_rel|true=>
  ktr_rel;refine dQ J B fun i C=>?_;rw[oS];have K:bc (a++aT b i e::g) .ne (.bytes ((aG false r).takeWhile rg)) (.bytes [82])=some !decide ((aG false r).takeWhile rg=[82]):=rfl;refine qI (decide ((aG false r).takeWhile rg=[82])) ?_ ?_
  ·intro q;have t:=t (by rw[q];rfl) i g;rw[q]at K;ktr_rel
  ·intro q;have H:=H rfl (eP q) i C;rw[q]at K;have U:=ag a (aT b i e) g;have c5:=bA U;have X:=ai (aT b i e::g) h;have c6:=fU X i;rw[List.set_append_left _ _ (bK h)]at c6;ktr_rel;refine wo _ _ _ ?_;ktr_rel
theorem mu{p e:Nat}(n:Int)(h:f[l]?=some (aT b p e))(hr:aE b e p r) (hq:∀j,Kp (· =l) f j->(ir n r=none->j[l]?=some (aT b p e)->Q (.ok (.int n)) j)/\∀g M (o d:Nat),ir n r=some (g,M)->j[l]?=some (aT b o e)->aE b e o M->f.length<=d->j[d]?=some (DA (.int n) (.int g))->Q (.ok (.loc d)) j):Call (k+4) 58 0 [.loc l,.int n] f Q:=by
 have a1:=bA h;have a2:=dF h;have a4:=eH h;refine ar (fn:=d7) rfl rfl rfl ?_;ktr_rel;refine Ct f e ?_;rw[xI hr];have H:=ag f (aT b p e) [];have c1:=lH H;have U:=nV H;ktr_rel;refine cM H hr fun p1 I=>?_;rw[cx];have N:=ag f (aT b p1 e) [];have U:=nV N;ktr_rel;refine dQ N I fun D y=>?_;rw[cx];ktr_rel;refine jo _ ?_;have A:ir n r=none->∀(o:Nat) R,Q (.ok (.int n)) (f++aT b o e::R):=fun z o R=>(hq _ (Kp.app _ _ _)).1 z (ai _ h);have s:ir n r=match BJ ((aG false r).takeWhile rg)with|some (g,none)=>bif decide (g>=0)&&decide ((aG false ((aG false r).dropWhile rg)).takeWhile rg=[82])then some (g,(aG false ((aG false r).dropWhile rg)).dropWhile rg)else none|_=>none:=rfl;cases q:BJ ((aG false r).takeWhile rg)with
 |none=>
  rw[q]at s;exact rV (w:=false) (g:=[]) h y (fun p Q hq=>v5 hq) (fun _=>A s) nofun|some x=>
  obtain⟨t,m⟩:=x;cases m with
  |some m=>
   rw[q]at s;have e1:(f++[aT b D e])++[mS t m]=f++aT b D e::[mS t m]:=dU ..;have e2:(f++[aT b D e]).length=f.length+1:=aK;show pSs (k+3) _ (MH l f.length n (.loc (f++[aT b D e]).length)) ((f++[aT b D e])++[mS t m]) _;rw[e1,e2];refine rV (w:=false) (g:=[mS t m]) h y (fun p Q hq=>vZ (c:=21) (fs:=[(7368564,.int t),(126879296220272,.int m)]) ?_ rfl hq) (fun _=>A s) nofun;rw[my (eO _),show f.length+1-f.length=1 by rw[uG]];rfl|none=>
   rw[q]at s;have s:ir n r=bif decide (t>=0)&&decide ((aG false ((aG false r).dropWhile rg)).takeWhile rg=[82])then some (t,(aG false ((aG false r).dropWhile rg)).dropWhile rg)else none:=s;refine rV (w:=decide (t>=0)) (g:=[]) h y (fun p Q hq=>vY t hq) (fun z=>A (s.trans (by rw[z];rfl))) fun z1 z2 o J=>?_;have s:=s.trans (by rw[z1,dD z2,Bool.and_self,cond_true]);have le:f.length<= ((f.set l (aT b o e))++[aT b o e]).length:=by rw[aK,sD];exact dn _ _
   exact(hq _ (((Kp.set (P:=(· =l)) f (aT b o e) rfl).tr (Kp.app _ _ [aT b o e])).tr (Kp.app _ _ [_]))).2 _ _ o _ s (ai _ (ai _ (aq _ h))) J le (ag _ _ [])
inductive O where
 |null|bool (b:Bool)|int (i:Int)|real (t:Int) (n:Nat)|name (s:List Nat)|str (o:List UInt8) (h:Bool)|ref (n g:Int)|arr (l:O)|dict (l:O)|nil|cons (k:List Nat) (x r:O)
def At (M:Nat->Prop)(a:MS)(v:V)(m:ah):Prop:=∃d,v= .loc d/\¬M d/\a[d]?=some m
noncomputable def O.keys (o:O):List (List Nat):=o.rec [] (fun _=>[]) (fun _=>[]) (fun _ _=>[]) (fun _=>[]) (fun _ _=>[]) (fun _ _=>[]) (fun _ _=>[]) (fun _ _=>[]) [] fun k _ _ _ a=>k::a
def St (M:Nat->Prop)(d:MS)(o:O):V->Prop:=o.rec (fun v=>v= .none) (fun b v=>v= .bool b) (fun i v=>v= .int i) (fun t n v=>At M d v (mS t n)) (fun s v=>At M d v (xJ (.str s))) (fun o h v=>At M d v (Ab (.bytes o) h)) (fun n g v=>At M d v (DA (.int n) (.int g))) (fun _ j v=>∃r,At M d v (.list r)/\j (.tup r)) (fun l j v=>∃c,At M d v (.dictS c)/\c.map (·.1)=l.keys/\j (.tup (c.map (·.2)))) (fun v=>v= .tup []) (fun _ _ _ p q v=>∃u x,v= .tup (u::x)/\p u/\q (.tup x))
theorem At.mono(h:At M c v m)(k:Kp R c b)(g:∀i,i<c.length->N i\/R i->M i):At N b v m:=h.imp fun d h=>⟨h.1,fun n=>h.2.1 (g d (bK h.2.2) (.inl n)),k.at h.2.2 fun n=>h.2.1 (g d (bK h.2.2) (.inr n))⟩
theorem St.mono{N:Nat->Prop}(k:Kp R j c)(g:∀i,i<j.length->N i\/R i->M i)(o:O):∀{v},St M j o v->St N c o v:=by induction o with|null=>exact id|bool=>exact id|int=>exact id|real=>exact fun h=>At.mono h k g|name=>exact fun h=>At.mono h k g|str=>exact fun h=>At.mono h k g|ref=>exact fun h=>At.mono h k g|arr l d=>exact fun h=>h.imp fun m h=>⟨At.mono h.1 k g,d h.2⟩|dict l d=>exact fun h=>h.imp fun m h=>⟨At.mono h.1 k g,h.2.1,d h.2.2⟩|nil=>exact id|cons k x r e f=>exact fun h=>h.imp fun u h=>h.imp fun n h=>⟨h.1,e h.2.1,f h.2.2⟩
noncomputable def O.nn (o:O):Bool:=o.casesOn false (fun _=>true) (fun _=>true) (fun _ _=>true) (fun _=>true) (fun _ _=>true) (fun _ _=>true) (fun _=>true) (fun _=>true) true fun _ _ _=>true
theorem lT(h:At M a v m):ni v=false:=h.elim fun d h=>h.1▸rfl
theorem St.isN(h:St M c o v):ni v=!o.nn:=by cases o with|null=>exact(show v= .none from h)▸rfl|bool b=>exact(show v= .bool b from h)▸rfl|int i=>exact(show v= .int i from h)▸rfl|real=>exact lT h|name=>exact lT h|str=>exact lT h|ref=>exact lT h|arr l=>exact h.elim fun a h=>lT h.1|dict l=>exact h.elim fun a h=>lT h.1|nil=>exact(show v= .tup []from h)▸rfl|cons k x r=>exact h.elim fun u h=>h.elim fun d h=>h.1▸rfl
noncomputable def zJ (l:List O):O:=l.foldr (fun x r=>.cons [] x r) .nil
noncomputable def uQ (l:List (List Nat×O)):O:=l.foldr (fun x r=>.cons x.1 x.2 r) .nil
abbrev lg (M:Nat->Prop)(a:MS)(l:List O)(b:List V):Prop:=St M a (zJ l) (.tup b)
theorem lg.len:∀{l:List O} {a:List V},lg M d l a->l.length=a.length
 | [],a,h=>by have h:V.tup a= .tup []:=h;cases h;rfl|x::l,a,h=>by
  obtain⟨u,f,e,_,c⟩:=h;cases e;exact congrArg (· +1) (lg.len c)
theorem lg.app:∀{l:List O} {a:List V} {x:O} {v:V},lg M c l a->St M c x v->lg M c (l++[x]) (a++[v])
 | [],a,x,v,h,g=>by have h:V.tup a= .tup []:=h;cases h;exact⟨v,[],rfl,g,rfl⟩|y::l,a,x,v,h,g=>by
  obtain⟨u,d,e,f,i⟩:=h;cases e;exact⟨u,d++[v],rfl,f,lg.app i g⟩
noncomputable def jZ (o:List UInt8):Option O:=bif decide (o=[116,114,117,101])then some (.bool true)else bif decide (o=[102,97,108,115,101])then some (.bool false)else bif decide (o=[110,117,108,108])then some .null else none
noncomputable def pv (t:Tok)(r:List UInt8):Option (O×List UInt8):=t.casesOn none (fun o=>some (.name (o.map (·.toNat)),r)) (fun o=>some (.str o false,r)) (fun o=>some (.str o true,r)) (fun _=>none) (fun o=>(jZ o).bind fun x=>some (x,r)) (fun i=>bif decide (i>=0)then(match ir i r with|none=>some (.int i,r)|some (g,h)=>some (.ref i g,h))else some (.int i,r)) fun t n=>some (.real t n,r)
theorem sw (o:List UInt8)(a:Int)(hq:(jZ o=none->Q (.error a) c)/\∀x v,jZ o=some x->St M c x v->Q (.ok v) c):Call (k+2) 59 0 [.bytes o,.int a] c Q:=by
 refine ar (fn:=h7) rfl rfl rfl ?_;unfold jZ at hq;refine bS (decide (o=[116,114,117,101])) ?_ ?_
 ·intro d;rw[d]at hq;have hq:=hq.2 _ _ rfl rfl;ktr_rel
 ·intro d;rw[d]at hq;refine bS (decide (o=[102,97,108,115,101])) ?_ ?_
  ·intro e;rw[e]at hq;have hq:=hq.2 _ _ rfl rfl;ktr_rel
  ·intro e;rw[e]at hq;refine bS (decide (o=[110,117,108,108])) ?_ ?_
   ·intro f;rw[f]at hq;have hq:=hq.2 _ _ rfl rfl;ktr_rel
   ·intro f;rw[f]at hq;have hq:=hq.1 rfl;ktr_rel
theorem pF{k l:Nat}{b r:List UInt8}{p e:Nat}{ms:MS}{Q:Kv}{M:Nat->Prop}{n0:Nat}{t:Tok}{v:V}(at_:Int)(hM:∀i,M i->i<ms.length)(hv:∀d,v= .loc d->¬M d)(ht:t.is n0 ms v)(h:ms[l]?=some (aT b p e))(hr:aE b e p r) (hq:∀ms',Kp (· =l) ms ms'->(pv t r=none->Q (.error at_) ms')/\∀o r' (p':Nat) v',pv t r=some (o,r')->ms'[l]?=some (aT b p' e)->aE b e p' r'->St M ms' o v'->Q (.ok v') ms'):Call (k+5) 60 0 [.loc l,.tup [.str t.kind,v,.int at_],.bool true] ms Q:=by
 have nw:∀(d:Nat) (m:ah) (ms':MS),ms.length<=d->ms'[d]?=some m->At M ms' (.loc d) m:=fun d m ms' hd hm=>⟨d,rfl,fun n=>absurd (hM d n) (Nat.not_lt.mpr hd),hm⟩;refine ar (fn:=gq) rfl rfl rfl ?_;cases t with
 |fin=>
  cases (show v= .bytes []from ht)
  have hq:=(hq ms (Kp.refl _ _)).1 rfl
  clear nw hv hM
  ktr_rel
 |sign o=>
  cases (show v= .bytes o from ht)
  have hq:=(hq ms (Kp.refl _ _)).1 rfl
  clear nw hv hM
  ktr_rel
 |name o=>
  cases (show v= .str (o.map (·.toNat))from ht)
  have hq:=(hq _ (Kp.app _ ms [xJ (.str (o.map (·.toNat)))])).2 _ _ p _ rfl (ai _ h) hr (nw ms.length _ _ (cc _) (ag ms _ []))
  clear nw hv hM
  ktr_rel
  refine tU ms _ ?_
  ktr_rel
 |str o=>
  cases (show v= .bytes o from ht)
  have hq:=(hq _ (Kp.app _ ms [Ab (.bytes o) false])).2 _ _ p _ rfl (ai _ h) hr (nw ms.length _ _ (cc _) (ag ms _ []))
  clear nw hv hM
  ktr_rel
  refine ww ms _ ?_
  ktr_rel
 |hex o=>
  cases (show v= .bytes o from ht)
  have hq:=(hq _ (Kp.app _ ms [Ab (.bytes o) true])).2 _ _ p _ rfl (ai _ h) hr (nw ms.length _ _ (cc _) (ag ms _ []))
  clear nw hv hM
  ktr_rel
  refine vU ms _ ?_
  ktr_rel
 |real t n=>
  obtain⟨d,ed,hd,hm⟩:=ht
  cases ed
  have hq:=(hq ms (Kp.refl _ _)).2 _ _ p _ rfl h hr ⟨d,rfl,hv d rfl,hm⟩
  clear nw hv hM
  ktr_rel
 |word o=>
  cases (show v= .bytes o from ht)
  have hq:=hq ms (Kp.refl _ _)
  clear nw hv hM
  ktr_rel
  refine sw (M:=M) o at_ ⟨fun z=>?_,fun x v z g=>?_⟩
  ·exact hq.1 (show(jZ o).bind _=none by rw[z];rfl)
  ·exact hq.2 x r p v (show(jZ o).bind _=_ by rw[z];rfl) h hr g
 |int i=>
  cases (show v= .int i from ht)
  have ei:pv (.int i) r=bif decide (i>=0)then(match ir i r with|none=>some (.int i,r)|some (g,r')=>some (.ref i g,r'))else some (.int i,r):=rfl
  refine qI (decide (i>=0)) ?_ ?_
  ·intro q
   rw[q]at ei
   have hq:=(hq ms (Kp.refl _ _)).2 _ _ p _ ei h hr rfl
   clear nw ei hv hM
   ktr_rel
  ·intro q
   rw[q]at ei
   have s:Call (k+4) 58 0 [.loc l,.int i] ms Q:=by
    refine mu i h hr fun ms' k'=>⟨fun z h'=>?_,fun g r' p' d z h' hr' le hd=>?_⟩
    ·rw[z]at ei
     exact(hq ms' k').2 _ _ p _ ei h' hr rfl
    ·rw[z]at ei
     exact(hq ms' k').2 _ _ p' _ ei h' hr' (nw d _ _ le hd)
   clear nw ei hq hv hM
   ktr_rel
   exact s.mono fun r _ h=>match r,h with| .error _,h=>h| .ok _,h=>h
inductive qK (M:Nat->Prop)(ms:MS):List (List Nat×O)->List (List Nat×V)->Prop
 |nil:qK M ms [] []
 |cons {k:List Nat} {x:O} {v:V} {r:List (List Nat×O)} {r':List (List Nat×V)}:St M ms x v->qK M ms r r'->qK M ms ((k,x)::r) ((k,v)::r')
noncomputable def l7 (k:List Nat)(v:O)(l:List (List Nat×O)):List (List Nat×O):=l.rec [(k,v)] fun p r a=>if p.1=k then(p.1,v)::r else p::a
theorem qs{s:Type} [DecidableEq s](k:s)(v:V)(p:s×V)(r:List (s×V)):ee k v (p::r)=if p.1=k then(p.1,v)::r else p::ee k v r:=rfl
theorem rR (k:List Nat)(v:O)(p:List Nat×O)(r:List (List Nat×O)):l7 k v (p::r)=if p.1=k then(p.1,v)::r else p::l7 k v r:=rfl
theorem qK.mono (k:Kp R e c)(g:∀i,i<e.length->N i\/R i->M i)(h:qK M e l d):qK N c l d:=by induction h with|nil=>exact .nil|cons s _ f=>exact .cons (s.mono k g) f
theorem qK.put (h:qK M b l a)(s:List Nat)(g:St M b x v):qK M b (l7 s x l) (ee s v a):=by induction h with|nil=>exact .cons g .nil| @cons k d f r i q t c=>
  rw[rR,qs];by_cases e:k=s
  ·rw[au e,au e];exact .cons g t
  ·rw[aH e,aH e];exact .cons q c
theorem qK.st (h:qK M d l a):a.map (·.1)=(uQ l).keys/\St M d (uQ l) (.tup (a.map (·.2))):=by induction h with|nil=>exact⟨rfl,rfl⟩|cons q t c=>exact⟨congrArg (_::·) c.1,_,_,rfl,q,c.2⟩
theorem qK.len (h:qK M c l a):l.length=a.length:=by induction h with|nil=>rfl|cons q t b=>exact congrArg (· +1) b
theorem qK.filt (h:qK M i l d):qK M i (l.filter fun p=>p.2.nn) (d.filter fun p=>!ni p.2):=by induction h with|nil=>exact .nil| @cons k x v r j q t g=>
  have e:=q.isN;refine bS (x.nn) ?_ ?_
  ·intro z;rw[z]at e;rw[Al (by exact z),Al (by show(!ni v)=true;rw[e];rfl)];exact .cons q g
  ·intro z;rw[z]at e;rw[yq (by show ¬x.nn=true;rw[z];exact Bool.noConfusion),yq (by show ¬(!ni v)=true;rw[e];exact Bool.noConfusion)];exact g
theorem FX{s:Type} [DecidableEq s]{k:s}{v:V}{l:List (s×V)}{x:s}(h:x∈ (ee k v l).map (·.1)):x=k\/x∈l.map (·.1):=by induction l with
 |nil=>exact .inl (List.mem_singleton.mp h)|cons p r d=>
  rw[qs]at h;by_cases e:p.1=k
  ·rw[au e]at h;exact .inr h
  ·rw[aH e]at h;rcases zC h with h|h
   ·exact .inr (h▸dR)
   ·exact(d h).imp id (eh _)
theorem wl{s:Type} [DecidableEq s]{k:s}{v:V}{l:List (s×V)}(h:(l.map (·.1)).Nodup):((ee k v l).map (·.1)).Nodup:=by induction l with
 |nil=>exact List.nodup_cons.mpr ⟨dq,sE⟩|cons p r d=>
  have h:=List.nodup_cons.mp h;rw[qs];by_cases e:p.1=k
  ·rw[au e];exact List.nodup_cons.mpr h
  ·rw[aH e];exact List.nodup_cons.mpr ⟨fun g=>(FX g).elim e h.1,d h.2⟩
theorem JP{s:Type} [DecidableEq s]{k:s}{v:V}{l:List (s×V)}(h:k ∉ l.map (·.1)):ee k v l=l++[(k,v)]:=by induction l with
 |nil=>rfl|cons p r a=>
  rw[qs,aH fun e=>h (List.mem_cons.mpr (.inl (Eq.symm e))),a fun g=>h (eh _ g)];rfl
theorem xV{s:Type} [DecidableEq s](k:s)(v:V)(l:List (s×V)):(ee k v l).length<=l.length+1:=by induction l with|nil=>exact cc _|cons p r a=>
  rw[qs];by_cases e:p.1=k
  ·rw[au e];exact eO _
  ·rw[aH e];exact pJ a
theorem tR{w:Type} [BEq w] [LawfulBEq w]{s:w}{v:V}{u:List (w×V)}:∀{t:List (w×V)},s ∉ t.map (·.1)->(t++(s,v)::u).lookup s=some v
 | [],_=>by rw[Ao,gZ,jK]|p::t,h=>by
  have e:(s==p.1)=false:=beq_eq_false_iff_ne.mpr fun e=>h (List.mem_cons.mpr (.inl e));rw[sA,gZ,e];exact tR fun g=>h (eh _ g)
theorem JG{w:Type}{s:w}{t u:List (w×V)}(h:((t++(s,v)::u).map (·.1)).Nodup):s ∉ t.map (·.1):=by rw[bZ]at h;exact fun g=>(List.nodup_append.mp h).2.2 s g s dR rfl
theorem Fh(h:c[l]?=some (.dictS b))(g:b.lookup s=some v):br c (.loc l) (.str s)=some v:=by show(c[l]?).bind _=_;rw[h];exact g
theorem MM(h:d[l]?=some (.dictS b))(g:b.length<1000000):fY d (.loc l) (.str s) v=some (d.set l (.dictS (ee s v b))):=by show(d[l]?).bind _=_;rw[h];show Option.bind (if b.length<1000000 then some (ah.dictS (ee s v b))else none) _=_;rw[au g];rfl
theorem Mp(h:f[l]?=some (.dictS a))(e:a.length=n):next f (.keys l i n)=some (a[i]?.bind fun p=>some (.str p.1,.keys l (i+1) n)):=by show(f[l]?).bind _=_;rw[h];exact au e
theorem N8(h:d[l]?=some (.dictS c)):aA d (.loc l)=some (.keys l 0 c.length):=by show(d[l]?).bind _=_;rw[h];rfl
theorem JD{s:Type}(t:List s)(x:s)(r:List s):(t++x::r)[t.length]?=some x:=by rw[my (cc _),pL];rfl
theorem ry{f:V->MF}(j:∀v,c.set n v=f v)(h:aj (next a l) fun o=>o.casesOn (Q .next c a) fun p=>pSs k b (f p.1) a (rx Q fun c a=>mP k (.loc n) b p.2 c a Q)):mP k (.loc n) b l c a Q:=by
 refine jI ?_;refine h.elim fun o e g=>aj.mk o e ?_;cases o with
 |none=>exact g|some p=>
  show pSs k b (c.set n p.1) a _;rw[j];exact g
noncomputable def kF (a:List (List Nat×O)):List O:=a.rec [] fun p _ b=>.name p.1::p.2::b
noncomputable def dM (c b:List (List Nat×O)):List (List Nat×O):=c.foldl (fun a p=>l7 p.1 p.2 a) b
theorem xc(hF:M F)(hI:F≠I)(hC:F≠C):∀(w y:List (List Nat×O)) (m G:List V) (g:List (List Nat×V)) (n:MS) (b:List (Nat×V)),vs=m++G->lg M n (kF w) G->qK M n y g->(g.map (·.1)).Nodup->g.length+w.length<1000000->(∀v,az 1953460339 v b=[(1953460339,v)])->n[I]?=some (.list vs)->n[C]?=some (.cell (some (.loc F)))->n[F]?=some (.dictS g)->(∀o l b,Kp (· =F) n o->o[F]?=some (.dictS l)->qK M o (dM w y) l->(l.map (·.1)).Nodup->Q .next ⟨(495756604521,.loc I)::b,[(431349919590,C)]⟩ o)->mP k jS jR (.rng m.length w.length 2) ⟨(495756604521,.loc I)::b,[(431349919590,C)]⟩ n Q
 | [],y,m,G,g,n,b,H,J,he,P,hl,hv,K,R,L,hq=>by
  have hq:=hq n g b (Kp.refl _ _) L he P;refine jI ?_;ktr_rel|(s,x)::w,y,m,G,g,n,b,H,J,he,P,hl,hv,K,R,L,hq=>by
  obtain⟨nv,us1,U,⟨d,ed,nd',hd⟩,X⟩:=J;obtain⟨z,A,e2,hx,J⟩:=X;cases U;cases e2;cases ed;have g1:=pz K (p:=m.length) (by rw[H];exact JD ..);have g2:=pz K (p:=(m++[V.loc d]).length) (v:=z) (by rw[H,show m++V.loc d::z::A=(m++[V.loc d])++z::A by rw[dU];rfl];exact JD ..);have U:(((m++[V.loc d]).length:Nat):Int)=(m.length:Int)+1:=by rw[aK];rfl
  rw[U]at g2;have g3:aY n (.loc d) 1954047348=some (.str s):=fH hd rfl;have hl:g.length+(w.length+1)<1000000:=hl;have g4:=MM (s:=s) (v:=z) L (by exact cN (dn ..) (by assumption));have c1:bn ⟨[(495756604521,V.loc I),(1953460339,V.int m.length)],[(431349919590,C)]⟩ 431349919590 n=_:=aD rfl R;show mP k _ _ (.rng m.length (w.length+1) 2) _ _ _;refine ry (f:=fun v=>⟨(495756604521,.loc I)::[(1953460339,v)],[(431349919590,C)]⟩) (fun v=>congrArg (fun q=>MF.mk ((495756604521,V.loc I)::q) _) (hv v)) ?_;ktr_rel;have e4:(m.length:Int)+2=((m++[V.loc d,z]).length:Int):=by rw[aK];rfl
  show mP k _ _ (.rng ((m.length:Int)+2) w.length 2) _ _ _;rw[e4];have Y:Kp (· =F) n (n.set F (.dictS (ee s z g))):=Kp.set _ _ rfl;have gg:∀i,i<n.length->M i\/i=F->M i:=fun i _ h=>h.elim id fun e=>e▸hF;have hp:=xV s z g;exact xc hF hI hC w _ (m++[V.loc d,z]) A _ _ _ (by rw[H,dU];rfl) (St.mono Y gg _ J) (qK.mono Y gg (he.put s hx)) (wl P) (by lia) (fun _=>rfl) (aW _ hI K) (aW _ hC R) (aq _ L) fun o l b k'=>hq o l b (Y.tr k')
theorem rm(hl:c.length<1000000)(U:(c.map (·.1)).Nodup)(hF:R≠F)(hC:R≠C):∀(D e out:List (List Nat×V)) (l:MS) (m:List (Nat×V)),c=e++D->(∀x,x∈out.map (·.1)->x∈e.map (·.1))->out.length<=e.length->(∀v,az 7955819 v m=[(7955819,v)])->l[C]?=some (.cell (some (.loc F)))->l[F]?=some (.dictS c)->l[R]?=some (.dictS out)->(∀q,Kp (· =R) l q->q[R]?=some (.dictS (out++D.filter fun p=>!ni p.2))->Q q)->ku k 7955819 [.cmp (.sub (.cell 431349919590) (.loc 7955819)) .isnot (.val .none)] (.loc 7955819) (.sub (.cell 431349919590) (.loc 7955819)) R (.keys F e.length c.length) ⟨m,[(431349919590,C)]⟩ l Q
 | [],e,out,l,m,u,L,hn,Y,M,H,N,hq=>by
  have n1:=Mp (i:=e.length) H rfl;rw[show c[e.length]?=none by rw[u,cF];exact List.getElem?_eq_none (cc _)]at n1;have hq:=hq l (Kp.refl _ _) (by rw[List.filter_nil,cF];exact N);refine xa Y ?_;ktr_rel|(s,v)::D,e,out,l,m,u,L,hn,Y,M,H,N,hq=>by
  have n1:=Mp (i:=e.length) H rfl;rw[show c[e.length]?=some (s,v) by rw[u];exact JD ..]at n1;have n1:next l (.keys F e.length c.length)=some (some (.str s,.keys F (e.length+1) c.length)):=n1;have ns:s ∉ e.map (·.1):=JG (u▸U);have g1:=Fh (s:=s) (v:=v) H (by rw[u];exact tR ns);have c1:bn ⟨[(7955819,V.str s)],[(431349919590,C)]⟩ 431349919590 l=_:=aD rfl M;have lk:c.length=e.length+(D.length+1):=by rw[u,aK];rfl
  have e4:e.length+1=(e++[(s,v)]).length:=by rw[aK];rfl
  have J:c=(e++[(s,v)])++D:=by rw[u,dU];rfl
  have ho2:∀x,x∈out.map (·.1)->x∈ (e++[(s,v)]).map (·.1):=fun x h=>by rw[bZ];exact sx _ (L x h)
  rw[e4]at n1;refine xa Y ?_;refine bS (ni v) ?_ ?_
  ·intro z;have e3:bc l .isnot v .none=some (!ni v):=rfl;rw[z]at e3;rw[yq (by show ¬(!ni v)=true;rw[z];exact Bool.noConfusion)]at hq
   clear e4 lk u;ktr_rel;exact rm hl U hF hC D (e++[(s,v)]) out l _ J ho2 (by rw[aK];exact qD (by assumption)) (fun _=>rfl) M H N hq
  ·intro z;have e3:bc l .isnot v .none=some (!ni v):=rfl;rw[z]at e3;rw[Al (by show(!ni v)=true;rw[z];rfl)]at hq;have no:out.length<1000000:=by lia
   clear lk u;ktr_rel;refine⟨no,?_⟩;show ku k _ _ _ _ _ _ _ (l.set R (.dictS (ee s v out))) _;rw[JP fun g=>ns (L s g)];refine rm hl U hF hC D (e++[(s,v)]) (out++[(s,v)]) _ _ J (fun x h=>?_) (by rw[aK,aK];exact pJ hn) (fun _=>rfl) (aW _ hC M) (aW _ hF H) (aq _ N) fun q k' g=>hq q ((Kp.set (P:=(· =R)) _ _ rfl).tr k') (by rw[g,dU];rfl);rw[bZ]at h;rw[bZ];exact(zG h).elim (fun h=>sx _ (L x h)) fun h=>iD _ h
theorem Kp.fresh(x:Kp (fun _=>False) e a)(y:Kp R a c)(h:∀i,R i->e.length<=i):Kp (fun _=>False) e c:=x.trans y fun i f r=>absurd (h i r) (Nat.not_le.mpr f)
theorem nT (c:MS)(n C:Nat)(v:V)(e:MF)(g:MS)(hc:e.cells.lookup n=some c.length):iy e n v (c++ .cell none::g)=some (e,c++ .cell (some v)::g):=by show(e.cells.lookup n).bind _=_;rw[hc];show((c++ah.cell none::g)[c.length]?).bind _=_;rw[ag];show some (_,(c++ah.cell none::g).set c.length _)=_;rw[oS]
theorem jd (b:List (List Nat×O)):(kF b).length=2*b.length:=by induction b with
 |nil=>rfl|cons p r c=>
  show(kF r).length+1+1=2*(r.length+1);lia
noncomputable def nY (a:List (List Nat×O)):List (List Nat×O):=(dM a []).filter fun p=>p.2.nn
theorem y3 (hM:∀i,M i->i<g.length)(hI:g[I]?=some (.list w))(X:lg M g (kF t) w)(hl:w.length<1000000) (hq:∀y v',Kp (fun _=>False) g y->St M y (.dict (uQ (nY t))) v'->Q (.ok v') y):Call (k+1) 61 0 [.loc I] g Q:=by
 have b1:=td (ai [ah.cell (some (.loc (g.length+1))),.dictS []] hI);have lv:w.length=2*t.length:=(X.len).symm.trans (jd t);have i1:aA (g++[ah.cell (some (.loc (g.length+1))),.dictS []]) (.rng 0 (w.length:Nat) 2)=some (.rng 0 t.length 2):=by
  have:=xZ t.length;rw[<- lv]at this;exact(v6 _ hl (c:=2) (by decide)).trans (by rw[show e6 0 ((w.length:Nat):Int) ((2:Nat):Int)=t.length from this];rfl)
 have t1:fZ (g++[ah.cell (some (.loc (g.length+1))),.dictS []]) .range [.int 0,.int (w.length:Nat),.int 2]=some (.rng 0 (w.length:Nat) 2,g++[ah.cell (some (.loc (g.length+1))),.dictS []]):=rfl;have s1:=nT g 431349919590 g.length (.loc (g.length+1)) ⟨[(495756604521,.loc I)],[(431349919590,g.length)]⟩ [.dictS []] rfl;have e1:(g++[ah.cell none])++[.dictS []]=g++[.cell none,.dictS []]:=dU ..;have e2:(g++[ah.cell none]).length=g.length+1:=aK;have lI:=bK hI;refine gC (fn:=jD) rfl rfl ?_;show pSs k jD.body ⟨[(495756604521,.loc I)],[(431349919590,g.length)]⟩ (g++[ah.cell none]) _;obtain⟨B,hB⟩:∃B:Int,B=((w.length:Nat):Int):=⟨_,rfl⟩;rw[<- hB]at b1 t1 i1
 clear lv;show aj (iy _ 431349919590 (.loc (g++[ah.cell none]).length) ((g++[ah.cell none])++[.dictS []])) _;rw[e1,e2]
 clear e1 e2 hB;ktr_rel;have hC:(g++[ah.cell (some (V.loc (g.length+1))),.dictS []])[g.length]?=some (.cell (some (V.loc (g.length+1)))):=ag g _ _;have hF:(g++[ah.cell (some (V.loc (g.length+1))),.dictS []])[g.length+1]?=some (.dictS []):=by rw[my (eO _),show g.length+1-g.length=1 by rw[uG]];rfl
 have hs1:lg (fun i=>M i\/i=g.length+1) (g++[ah.cell (some (V.loc (g.length+1))),.dictS []]) (kF t) w:=St.mono (Kp.app (fun _=>False) g _) (fun i Y K=>K.elim (fun K=>K.elim id fun e=>absurd Y (by lia)) False.elim) _ X
 refine xc (M:=fun i=>M i\/i=g.length+1) (I:=I) (vs:=w) (.inr rfl) (by lia) (by lia) t [] [] w [] _ [] rfl hs1 .nil sE (by have:=X.len;rw[jd]at this;rw[fm];lia) (fun _=>rfl) (ai _ hI) hC hF fun o L P k1 Y he nd=>?_
 have U:=k1.at hC (by lia)
 have c1:bn ⟨(495756604521,.loc I)::P,[(431349919590,g.length)]⟩ 431349919590 o=_:=aD rfl U
 have i2:=N8 Y
 have l1:=k1.len
 rw[aK]at l1
 have l1:g.length+2<=o.length:=l1
 ktr_rel
 have hk:L.length<1000000:=by
  have q1:=he.len
  have q2:∀(t s:List (List Nat×O)),(dM t s).length<=s.length+t.length:=by
   intro t
   induction t with
   |nil=>exact fun s=>cc _
   |cons p t Z=>
    intro s
    have a:=Z (l7 p.1 p.2 s)
    have b:(l7 p.1 p.2 s).length<=s.length+1:=by
     clear a Z
     induction s with
     |nil=>exact cc _
     |cons q r Z=>
      rw[rR]
      by_cases e:q.1=p.1
      ·rw[au e];exact eO _
      ·rw[aH e];exact pJ Z
    show(dM t (l7 p.1 p.2 s)).length<=s.length+(t.length+1)
    lia
  have q3:=q2 t []
  have q4:=X.len
  rw[jd]at q4
  rw[fm]at q3
  lia
 have n1:o.length≠g.length+1:=by exact fP (by assumption)
 have n2:o.length≠g.length:=by lia
 refine rm (F:=g.length+1) (C:=g.length) hk nd n1 n2 L [] [] _ [] rfl (fun _ h=>h) (cc _) (fun _=>rfl) (ai _ U) (ai _ Y) (ag o _ []) fun A k2 K=>?_
 have ka:Kp (fun _=>False) g A:=((Kp.app (fun _=>False) g _).fresh k1 fun i h=>h▸eO _).fresh ((Kp.app (fun _=>False) o _).trans (R:=(· =o.length)) k2 fun i h n=>absurd n (eo h)) fun i h=>h.elim
 have kb:Kp (fun _=>False) o A:=(Kp.app (fun _=>False) o [ah.dictS []]).fresh k2 fun i h=>iG h.symm
 have hf:=(he.mono (N:=M) kb fun i _ h=>.inl (h.elim id False.elim)).filt.st
 have hq:=hq A (.loc o.length) ka ⟨_,⟨_,rfl,fun m=>absurd (hM _ m) (by lia),K⟩,hf⟩
 ktr_rel
set_option genCtorIdx true in
inductive Fr where
 |arr (l:List O)|dct (ps:List (List Nat×O)) (pend:Option (List Nat))
noncomputable def Fr.isA (f:Fr):Bool:=f.casesOn (fun _=>true) fun _ _=>false
noncomputable def Fr.items (f:Fr):List O:=f.casesOn id fun b a=>kF b++a.casesOn [] fun s=>[.name s]
noncomputable def Fr.wants (f:Fr):Bool:=f.casesOn (fun _=>false) fun _ a=>a.casesOn true fun _=>false
theorem Fr.wk (f:Fr):wk f.isA f.items.length=f.wants:=by cases f with|arr l=>rfl|dct b a=>
  cases a with
  |none=>
   show(!false&&decide ((((kF b++[]).length:Nat):Int) % 2=0))=true;rw[cF,jd];exact dD (by lia)|some s=>
   show(!false&&decide ((((kF b++[O.name s]).length:Nat):Int) % 2=0))=false;rw[aK,jd];exact cO (by show ¬((2*b.length+1:Nat):Int) % 2=0;omega)
inductive FS (M:Nat->Prop)(ms:MS)(lo:Nat):Nat->List Fr->List V->Prop
 |nil {n:Nat}:lo<=n->FS M ms lo n [] []
 |cons {n d il:Nat} {f:Fr} {fs:List Fr} {ls vs:List V}:il<n->d<il->ms[d]?=some (rz (.bytes (lZ f.isA)) il)->ms[il]?=some (.list vs)->lg M ms f.items vs->M d->M il->FS M ms lo d fs ls->FS M ms lo n (f::fs) (.loc d::ls)
theorem FS.le{c:Nat}(h:FS M d c n e f):c<=n:=by induction h with|nil h=>exact h|cons a b _ _ _ _ _ _ g=>lia
theorem FS.mono{o:Nat}(k:Kp R p q)(y:∀i,i<p.length->N i->M i)(h:FS M p o n s u):(∀i,i<p.length->R i->M i/\(i<o\/n<=i))->(∀i,M i->i<n->N i)->FS N q o n s u:=by induction h with|nil h=>exact fun _ _=>.nil h| @cons n d v f s u F a b hd w z A B t C=>
  intro l e;have D:=t.le;exact .cons a b (k.at hd fun r=>(l d (bK hd) r).2.elim (fun x=>by lia) fun x=>by lia) (k.at w fun r=>(l v (bK w) r).2.elim (fun x=>by lia) fun x=>by lia) (St.mono k (fun i g m=>m.elim (y i g) fun r=>(l i g r).1) _ z) (e d A (by lia)) (e v B a) (C (fun i g m=>⟨(l i g m).1,(l i g m).2.imp id fun x=>by lia⟩) fun i g m=>e i g (by lia))
theorem FS.up{k:Nat}(h:FS M m k n o p)(l:n<=q):FS M m k q o p:=by cases h with|nil h=>exact .nil (bR h l)|cons a b c d e f g t=>exact .cons (k9 a l) b c d e f g t
theorem mZ(h:c[f]?=some (.list e)):bc (c++[ah.list []]) .eq (.loc f) (.loc c.length)=some e.isEmpty:=by show(aC (c++[ah.list []]) (.loc f)).bind (fun e=>(aC (c++[ah.list []]) (.loc c.length)).bind fun g=>bif e.length==g.length then jJ (mW 39 (c++[ah.list []])) e g else some false)=_;rw[b5 (ai _ h),b5 (ag c _ [])];cases e<;>rfl
theorem Bz(h:d[f]?=some (.list g)):bc (d++[ah.list []]) .ne (.loc f) (.loc d.length)=some !g.isEmpty:=congrArg (Option.bind · fun x=>some !x) (mZ h)
noncomputable def rZ (a:Bool):List UInt8:=bif a then [93]else [62,62]
noncomputable def Fr.close (f:Fr)(a:Bool):Option O:=f.casesOn (fun l=>bif a then some (.arr (zJ l))else none) fun e b=>bif a then none else b.casesOn (some (.dict (uQ (nY e)))) fun _=>none
theorem yZ (a:Bool)(b:Int)(h:f[g]?=some (.list []))(hq:Q (.error b) (f++[ah.list []])):Call (k+2) 62 0 [.loc g,.bytes (rZ a),.int b] f Q:=by have j:=mZ h;refine ar (fn:=eC) rfl rfl rfl ?_;cases a with|true=>ktr_rel|false=>ktr_rel
theorem kE (l:List V)(v:V):(l++[v]).isEmpty=false:=by cases l<;>rfl
theorem pw{f:Fr}(a:Bool)(at_:Int)(hM:∀i,M i->i<j.length)(mf:M r)(h:j[r]?=some (.list (w++[.loc d])))(hd:j[d]?=some (rz (.bytes (lZ f.isA)) il))(hi:j[il]?=some (.list B))(hs:lg M j f.items B)(hl:B.length<1000000)(fd:r<d)(di:d<il) (hq:∀p,Kp (· =r) j p->(f.close a=none->Q (.error at_) p)/\∀o v,f.close a=some o->p[r]?=some (.list w)->St (fun i=>M i/\i<d) p o v->Q (.ok v) p):Call (k+2) 62 0 [.loc r,.bytes (rZ a),.int at_] j Q:=by
 have c1:=mZ h;rw[kE]at c1;have z:=ai [.list []] h;have g1:=rB z;have d1:=ai [.list []] hd;have i1:=ai [.list []] hi;have k0:Kp (· =r) j (j++[ah.list []]):=Kp.app _ _ _;have k1:Kp (· =r) j ((j++[ah.list []]).set r (ah.list w)):=k0.tr (Kp.set _ _ rfl);have a2:aY (j++[ah.list []]) (.loc d) 1802658157=some (.bytes (lZ f.isA)):=fH d1 rfl;have p1:=CS z;have p2:=Bo z;have d2:=aW (.list w) (eo fd) d1;have i2:=aW (.list w) (eo (pg fd di)) i1;have a3:aY ((j++[ah.list []]).set r (ah.list w)) (.loc d) 495756604521=some (.loc il):=fH d2 rfl;have a4:c9 ((j++[ah.list []]).set r (ah.list w)) (.loc d) 2239364072688673775991=some (.own 56 2):=jV d2 rfl rfl;have sm:∀o v,St M j o v->St (fun i=>M i/\i<d) ((j++[ah.list []]).set r (ah.list w)) o v:=fun o v h=>St.mono k1 (fun i z h2=>h2.elim (fun h=>h.1) fun e=>e▸mf) o h;refine ar (fn:=eC) rfl rfl rfl ?_;cases f with
 |arr l=>
  have a2:aY (j++[ah.list []]) (.loc d) 1802658157=some (.bytes [91]):=a2
  cases a with
  |false=>
   have hq:=(hq _ k0).1 rfl
   ktr_rel
  |true=>
   have hq:=(hq _ k1).2 _ (.loc il) rfl (aq _ z) ⟨B,⟨il,rfl,fun m=>absurd m.2 (Nat.not_lt.mpr (ju di)),i2⟩,sm (zJ l) _ hs⟩
   clear sm
   ktr_rel
 |dct ps x=>
  have a2:aY (j++[ah.list []]) (.loc d) 1802658157=some (.bytes [60,60]):=a2
  cases a with
  |true=>
   have hq:=(hq _ k0).1 rfl
   clear sm
   ktr_rel
  |false=>
   clear sm
   have A:=(Fr.dct ps x).wk
   rw[hs.len]at A
   ktr_rel
   refine mN (a:=false) d2 i2 ?_
   cases x with
   |some s=>
    have hq:=(hq _ k1).1 rfl
    have A:wk false B.length=false:=A
    rw[A]
    ktr_rel
   |none=>
    have A:wk false B.length=true:=A
    rw[A]
    ktr_rel
    have e1:Fr.items (.dct ps none)=kF ps:=cF _
    rw[e1]at hs
    have hs2:lg M ((j++[ah.list []]).set r (ah.list w)) (kF ps) B:=St.mono k1 (fun i z h2=>h2.elim id fun e=>e▸mf) _ hs
    have l2:=k1.len
    refine y3 (M:=M) (fun i h=>k9 (hM i h) l2) i2 hs2 hl fun p v' k' hs'=>?_
    have kk:=k1.tr (k'.mono fun i _ h=>False.elim h)
    have hq:=(hq p kk).2 _ v' rfl (k'.at (aq _ z) id) (St.mono (Kp.refl (fun _=>False) p) (fun i _ h=>h.elim And.left False.elim) _ hs')
    ktr_rel
theorem eG:∀(r:List UInt8) (t:Bool),aG t r<:+r
 | [],t=>qF []|c::r,t=>by
  have d:∀t,aG t r<:+c::r:=fun t=>(eG r t).trans (mA c r);cases t with|true=>exact d _|false=>
   rw[x8];cases decide ((c.toNat:Int)=37)with
   |true=>exact d true|false=>
    cases sK c.toNat with|true=>exact d false|false=>exact qF _
theorem r6:∀(r:List UInt8) (t:Bool) {c:UInt8} {s:List UInt8},aG t r=c::s->sK c.toNat=false/\decide ((c.toNat:Int)=37)=false
 | [],t,c,s,h=>nomatch (show([]:List UInt8)=c::s from h)|a::r,t,c,s,h=>by
  cases t with
  |true=>exact r6 r _ h|false=>
   rw[x8]at h;refine bS (decide ((a.toNat:Int)=37)) ?_ ?_
   ·intro d;rw[d]at h;exact r6 r true h
   ·intro d;rw[d]at h;refine bS (sK a.toNat) ?_ ?_
    ·intro e;rw[e]at h;exact r6 r false h
    ·intro e;rw[e]at h;have h:a::r=c::s:=h;cases h;exact⟨e,d⟩
theorem xF:∀(r:List UInt8) (cr:Bool) (d:Int) (a:List UInt8) {o f:List UInt8},nq r cr d a=some (o,f)->f<:+r
 | [],cr,d,a,o,f,h=>bN (show(none:Option (List UInt8×List UInt8))=some (o,f)from h)|c::r,cr,d,a,o,f,h=>by
  have g:∀cr d a,nq r cr d a=some (o,f)->f<:+c::r:=fun cr d a h=>(xF r cr d a h).trans (mA c r);rw[qk]at h;refine bS ((cr&&decide ((c.toNat:Int)=10))) ?_ ?_
  ·intro i;rw[i]at h;exact g _ _ _ h
  ·intro i;rw[i]at h;refine bS (decide ((c.toNat:Int)=13)) ?_ ?_
   ·intro j;rw[j]at h;exact g _ _ _ h
   ·intro j;rw[j]at h;refine bS (decide ((c.toNat:Int)=10)) ?_ ?_
    ·intro k;rw[k]at h;exact g _ _ _ h
    ·intro k;rw[k]at h;have h:pA c r d a=some (o,f):=h;unfold pA at h;refine bS (decide ((c.toNat:Int)=40)) ?_ ?_
     ·intro l;rw[l]at h;exact g _ _ _ h
     ·intro l;rw[l]at h;refine qI (decide ((c.toNat:Int)=41)) ?_ ?_
      ·intro m;rw[m]at h;exact g _ _ _ h
      ·intro m;rw[m]at h;refine qI (decide (d-1=0)) ?_ ?_
       ·intro n;rw[n]at h;exact g _ _ _ h
       ·intro n;rw[n]at h;have h:some (a,r)=some (o,f):=h;cases h;exact mA c r
theorem tJ:∀(r:List UInt8) (b:List Int) {o:List Int} {f:List UInt8},jf r b= .ok (o,f)->f<:+r
 | [],b,o,f,h=>nomatch (show(Except.error none:Except (Option Nat) (List Int×List UInt8))= .ok (o,f)from h)|c::r,b,o,f,h=>by
  have k:∀b,jf r b= .ok (o,f)->f<:+c::r:=fun b h=>(tJ r b h).trans (mA c r);have n:jf (c::r) b=bif decide ((c.toNat:Int)=62)then .ok (b,r)else bif decide (fS c.toNat>=0)then jf r (b++[fS c.toNat])else bif sK c.toNat then jf r b else .error (some (r.length+1)):=rfl;rw[n]at h;refine bS (decide ((c.toNat:Int)=62)) ?_ ?_
  ·intro j;rw[j]at h;have h:(Except.ok (b,r):Except (Option Nat) (List Int×List UInt8))= .ok (o,f):=h;cases h;exact mA c r
  ·intro j;rw[j]at h;cases l:decide (fS c.toNat>=0)with
   |true=>rw[l]at h;exact k _ h|false=>
    rw[l]at h;cases m:sK c.toNat with|true=>rw[m]at h;exact k _ h|false=>rw[m]at h;exact nomatch (show(Except.error _:Except (Option Nat) (List Int×List UInt8))= .ok (o,f)from h)
theorem cS{s t:Type}{a b:t}(h:(Except.ok a:Except s t)= .ok b):a=b:=sF h
theorem bW{s t:Type}{a:s}{b:t}{P:Prop}(h:Except.error a=Except.ok b):P:=nomatch h
theorem tA(h:gE c t= .ok (k,r)):r<:+t:=by
 unfold gE at h;refine bS (decide ((c.toNat:Int)=47)) ?_ ?_
 ·intro b;rw[b]at h;rw[<- (dE (cS h)).2];exact yt _
 ·intro b;rw[b]at h;refine bS (decide ((c.toNat:Int)=40)) ?_ ?_
  ·intro d;rw[d]at h;cases z:nq t false 1 []with
   |none=>rw[z]at h;exact bW h|some q=>rw[z]at h;rw[<- (dE (cS h)).2];exact xF t _ _ _ z
  ·intro d;rw[d]at h;refine bS (Au 60 60 (c::t)) ?_ ?_
   ·intro e;rw[e]at h;rw[<- (dE (cS h)).2];exact List.tail_suffix t
   ·intro e;rw[e]at h;refine bS (Au 62 62 (c::t)) ?_ ?_
    ·intro f;rw[f]at h;rw[<- (dE (cS h)).2];exact List.tail_suffix t
    ·intro f;rw[f]at h;refine bS (decide ((c.toNat:Int)=60)) ?_ ?_
     ·intro g;rw[g]at h;refine yv (jf t []) ?_ ?_
      ·intro x z;cases x<;>(rw[z]at h;exact bW h)
      ·intro q z;rw[z]at h;rw[<- (dE (cS h)).2];exact tJ t _ z
     ·intro g;rw[g]at h;cases i:sgI c.toNat with|true=>rw[i]at h;rw[<- (dE (cS h)).2];exact qF t|false=>rw[i]at h;exact bW h
theorem rO(h:(a||b)=false):a=false/\b=false:=by cases a<;>cases b<;>first|exact⟨rfl,rfl⟩|exact Bool.noConfusion h
theorem E6 (i:Int)(h:(decide (i=47)||(decide (i=40)||(decide (i=41)||(decide (i=60)||(decide (i=62)||sgI i)))))=false)(g:decide (i=37)=false):M9 i=false:=by obtain⟨b,h⟩:=rO h;obtain⟨c,h⟩:=rO h;obtain⟨d,h⟩:=rO h;obtain⟨f,h⟩:=rO h;obtain⟨j,h⟩:=rO h;have h:(decide (91=i)||(decide (93=i)||(decide (123=i)||(decide (125=i)||false))))=false:=h;obtain⟨k,h⟩:=rO h;obtain⟨l,h⟩:=rO h;obtain⟨m,h⟩:=rO h;obtain⟨o,h⟩:=rO h;have a:∀{n:Int},decide (i=n)=false->decide (n=i)=false:=fun h=>cO fun e=>sy h e.symm;unfold M9;rw[k,l,m,o,a b,a c,a d,a f,a j,a g];rfl
theorem xE(b:aG f x=c::t)(h:dW (c::t)= .ok (k,r)):r<:+t:=by
 have d:dW (c::t)=bif decide ((c.toNat:Int)=47)||(decide ((c.toNat:Int)=40)||(decide ((c.toNat:Int)=41)||(decide ((c.toNat:Int)=60)||(decide ((c.toNat:Int)=62)||sgI c.toNat))))then gE c t else .ok (ma ((c::t).takeWhile rg),(c::t).dropWhile rg):=rfl;rw[d]at h;refine bS ((decide ((c.toNat:Int)=47)||(decide ((c.toNat:Int)=40)||(decide ((c.toNat:Int)=41)||(decide ((c.toNat:Int)=60)||(decide ((c.toNat:Int)=62)||sgI c.toNat)))))) ?_ ?_
 ·intro q;rw[q]at h;exact tA h
 ·intro q;rw[q]at h;rw[<- (dE (cS h)).2];have a:=r6 x f b;have e:rg c=true:=by unfold rg;rw[a.1,E6 _ q a.2];rfl
  rw[uJ,au e];exact yt _
theorem nj(h:dW (aG f x)= .ok (k,r)):k= .fin\/r.length+1<=x.length:=by
 refine Nh (aG f x) ?_ ?_
 ·intro q;rw[q]at h;exact .inl (dE (cS h)).1.symm
 ·intro c t q;rw[q]at h;have d:=(xE q h).length_le;have b:=(eG x f).length_le;rw[q,fj]at b;exact .inr (by exact cN (by assumption) (by assumption))
theorem DB(h:ir n r=some (g,c)):c<:+r:=by
 have d:(aG false ((aG false r).dropWhile rg)).dropWhile rg<:+r:=(yt _).trans ((eG _ _).trans ((yt _).trans (eG _ _)));unfold ir at h;refine El (BJ ((aG false r).takeWhile rg)) ?_ ?_
 ·intro q;rw[q]at h;exact bN h
 ·intro x q;obtain⟨t,m⟩:=x;cases m with
  |some m=>rw[q]at h;exact bN h|none=>
   rw[q]at h;have h:(bif decide (t>=0)&&decide ((aG false ((aG false r).dropWhile rg)).takeWhile rg=[82])then some (t,(aG false ((aG false r).dropWhile rg)).dropWhile rg)else none)=some (g,c):=h;refine qI ((decide (t>=0)&&decide ((aG false ((aG false r).dropWhile rg)).takeWhile rg=[82]))) ?_ ?_
   ·intro z;rw[z]at h;exact bN h
   ·intro z;rw[z]at h;rw[<- (dE (e9 h)).2];exact d
theorem rT(h:pv t r=some (o,r')):r'<:+r:=by
 have a:∀{x:O},some (x,r)=some (o,r')->r'<:+r:=fun h=>by rw[<- (dE (e9 h)).2];exact qF r
 cases t with
 |fin=>exact bN h|sign=>exact bN h|name=>exact a h|str=>exact a h|hex=>exact a h|real=>exact a h|word w=>
  have h:(jZ w).bind _=some (o,r'):=h;refine El (jZ w) ?_ ?_
  ·intro z;rw[z]at h;exact bN h
  ·intro x z;rw[z]at h;exact a h|int i=>
  have h:(bif decide (i>=0)then(match ir i r with|none=>some (.int i,r)|some (g,r')=>some (.ref i g,r'))else some (.int i,r))=some (o,r'):=h;refine qI (decide (i>=0)) ?_ ?_
  ·intro z;rw[z]at h;exact a h
  ·intro z;rw[z]at h;refine El (ir i r) ?_ ?_
   ·intro q;rw[q]at h;exact a h
   ·intro x q;rw[q]at h;rw[<- (dE (e9 h)).2];exact DB q
noncomputable def O.nameO (x:O):Option (List Nat):=x.casesOn none (fun _=>none) (fun _=>none) (fun _ _=>none) some (fun _ _=>none) (fun _ _=>none) (fun _=>none) (fun _=>none) none fun _ _ _=>none
noncomputable def Fr.put (f:Fr)(x:O):Fr:=f.casesOn (fun l=>.arr (l++[x])) fun c a=>a.casesOn (.dct c x.nameO) fun s=>.dct (c++[(s,x)]) none
noncomputable def Fr.new (a:Bool):Fr:=bif a then .arr []else .dct [] none
noncomputable def Tok.signO (t:Tok):Option (List UInt8):=t.casesOn none (fun _=>none) (fun _=>none) (fun _=>none) some (fun _=>none) (fun _=>none) fun _ _=>none
noncomputable def Tok.isName (t:Tok):Bool:=t.casesOn false (fun _=>true) (fun _=>false) (fun _=>false) (fun _=>false) (fun _=>false) (fun _=>false) fun _ _=>false
noncomputable def isSg (t:Tok)(s:List UInt8):Bool:=t.signO.casesOn false fun o=>decide (o=s)
noncomputable def dY (a:List Fr):Bool:=a.casesOn false fun f _=>f.wants
noncomputable abbrev yS:=Except Nat ((O×List UInt8) ⊕ (List Fr×List UInt8))
noncomputable def jm (a:List Fr)(x:O)(r:List UInt8):yS:=a.casesOn (.ok (.inl (x,r))) fun f a=>.ok (.inr (f.put x::a,r))
noncomputable def bX (c:List Fr)(a:Bool)(m:Nat)(r:List UInt8):yS:=bif decide (c.length=40)then .error m else .ok (.inr (Fr.new a::c,r))
noncomputable def cU (c:List Fr)(a:Bool)(m:Nat)(r:List UInt8):yS:=c.casesOn (.error m) fun f c=>(f.close a).casesOn (.error m) fun o=>jm c o r
noncomputable def bI (b:List Fr)(t:Tok)(m:Nat)(r:List UInt8):yS:=(pv t r).casesOn (.error m) fun q=>jm b q.1 q.2
noncomputable def bG (a:List Fr)(t:Tok)(m:Nat)(r:List UInt8):yS:=bif dY a&&!t.isName&&!isSg t [62,62]then .error m else bif isSg t [91]then bX a true m r else bif isSg t [60,60]then bX a false m r else bif isSg t [93]then cU a true m r else bif isSg t [62,62]then cU a false m r else bI a t m r
noncomputable def fg (run:List Fr->List UInt8->Except Nat (O×List UInt8))(b:List Fr)(t:Tok)(m:Nat)(r:List UInt8):Except Nat (O×List UInt8):=match bG b t m r with| .error m=>.error m| .ok (.inl x)=>.ok x| .ok (.inr (b,r))=>run b (aG false r)
noncomputable def tO{s:Type}(x:Except Nat (Tok×List UInt8))(f:Tok->List UInt8->Except Nat s):Except Nat s:=x.casesOn .error fun q=>f q.1 q.2
noncomputable def run (n:Nat):List Fr->List UInt8->Except Nat (O×List UInt8):=n.rec (fun _ _=>.error 0) fun _ a b s=>tO (dW s) fun t r=>fg a b t s.length r
def AI (l e:Nat)(b:List UInt8)(d:MS)(Q:Ks)(x:Except Nat (O×List UInt8)):Prop:=∀a,Kp (· =l) d a->match x with| .error m=>∀g,Q (.error ((e:Int)-m)) g a| .ok (o,j)=>∀(h:Nat) v g,a[l]?=some (aT b h e)->aE b e h j->St (· <d.length) a o v->Q (.ok (.ret v)) g a
structure sL (l fr:Nat)(ms0:MS)(M:Nat->Prop)(ms:MS)(fs:List Fr)(ls:List V):Prop where
 hM:∀i,M i->i<ms.length
 m0:∀i,i<ms0.length->M i
 hl:l<ms0.length
 hfr:ms0.length<=fr
 mf:M fr
 hf:ms[fr]?=some (.list ls.reverse)
 fs:FS M ms (fr+1) ms.length fs ls
 kb:Kp (· =l) ms0 ms
theorem sL.mono{c:List Fr}(i:sL l f d M g c m)(k:Kp (· =l) g e):sL l f d M e c m:=by
 have n1:f≠l:=by have:=i.hl;have:=i.hfr;lia
 refine⟨fun j h=>k9 (i.hM j h) k.len,i.m0,i.hl,i.hfr,i.mf,k.at i.hf n1,((i.fs.mono (N:=M) k (fun _ _ h=>h) (fun j _ h=>?_) fun _ h _=>h)).up k.len,i.kb.tr k⟩;subst h;exact⟨i.m0 _ i.hl,.inl (by have:=i.hl;have:=i.hfr;lia)⟩
noncomputable def OX:E:=.and [.cmp (.loc 126879463993958) .ne (.list []),.meth (.sub (.loc 126879463993958) (.neg (.val (.int 1)))) 2239364072688673775991 [],.cmp (.loc 1684957547) .ne (.val (.str [110,97,109,101])),.not (.call (.val (.fn 43)) [.loc 474147942260,.val (.bytes [62,62])])]
noncomputable def xM:List S:=[.ite (.cmp (.loc 126879463993958) .eq (.list [])) [.ret [.loc 435761734006]] [],.expr (.meth (.attr (.sub (.loc 126879463993958) (.neg (.val (.int 1)))) 495756604521) 110425311047777 [.loc 435761734006])]
noncomputable def Nd:S:=.assign (.loc 474147942260) (.call (.val (.fn 42)) [.loc 125823003817315])
noncomputable abbrev li (l c:Nat)(d:V)(e:List (Nat×V)):MF:=⟨(125823003817315,.loc l)::(474147942260,d)::(599170539855555716570910520482489708,.bool true)::(126879463993958,.loc c)::e,[]⟩
noncomputable abbrev gV (t:Tok)(v:V)(a:Int):V:=.tup [.str t.kind,v,.int a]
theorem zn{n0:Nat}(c:t.is n0 d v)(a:Int)(o:List UInt8)(hq:Q (.ok (.bool (isSg t o))) d):Call (k+1) 43 0 [gV t v a,.bytes o] d Q:=by
 refine ar (fn:=lM) rfl rfl rfl ?_;cases t with
 |sign s=>
  cases (show v= .bytes s from c);ktr_rel|real t n=>clear c;ktr_rel|_=>clear c;ktr_rel
theorem zr (t:Tok):decide (t.kind=[110,97,109,101])=t.isName:=by cases t<;>rfl
theorem Fi{n0:Nat}(a:Int)(vs:List (Nat×V))(i:sL l fr ms0 M g fs ls)(r:t.is n0 g v)(hq:Q (dY fs&&!t.isName&&!isSg t [62,62]) (g++[.list []])):pB (k+5) (li l fr (gV t v a) ((1684957547,.str t.kind)::vs)) OX g Q:=by
 have c1:=Bz i.hf;have kn:=zr t;have e2:bc (g++[.list []]) .ne (.str t.kind) (.str [110,97,109,101])=some !t.isName:=by rw[<- kn];rfl
 have p:t.is n0 (g++[.list []]) v:=by cases t with
  |real t n=>exact r.imp fun d h=>⟨h.1,h.2.1,ai _ h.2.2⟩|_=>exact r
 have hs:∀Q:Kv,Q (.ok (.bool (isSg t [62,62]))) (g++[.list []])->Call (k+5) 43 0 [gV t v a,.bytes [62,62]] (g++[.list []]) Q:=fun Q h=>zn p a _ h
 obtain⟨_,_,_,_,_,hf,u,_⟩:=i
 clear r p kn
 cases u with
 |nil h=>ktr_rel
 | @cons n d il f fs ls vs' a b hd hi q md mi tl=>
  rw[uK]at hf c1
  rw[kE]at c1
  have h1:=ai [.list []] hf
  have g1:=rB h1
  have d1:=ai [.list []] hd
  have i1:=ai [.list []] hi
  have a4:c9 (g++[.list []]) (.loc d) 2239364072688673775991=some (.own 56 2):=jV d1 rfl rfl
  have ew:=f.wk
  rw[q.len]at ew
  clear q
  ktr_rel
  refine mN d1 i1 ?_
  rw[ew]
  have hq:Q (f.wants&&!t.isName&&!isSg t [62,62]) (g++[.list []]):=hq
  refine qI (f.wants) ?_ ?_
  ·intro z;rw[z]at hq;ktr_rel
  ·intro z
   rw[z]at hq
   refine bS (t.isName) ?_ ?_
   ·intro w;rw[w]at hq e2;ktr_rel
   ·intro w
    rw[w]at hq e2
    ktr_rel
    refine hs _ ?_
    cases z3:isSg t [62,62]with
    |true=>rw[z3]at hq;ktr_rel
    |false=>rw[z3]at hq;ktr_rel
def LV (g:List (Nat×V)):Prop:=∃f,(∀a b c,az 29793 c (az 448630255479 b (az 1684957547 a g))=(1684957547,a)::(448630255479,b)::(29793,c)::f)/\∃e,(∀d,az 488440486704836507562857 d f=(488440486704836507562857,d)::e)/\∀w,az 435761734006 w e=[(435761734006,w)]
theorem LV.n0:LV []:=⟨[],fun _ _ _=>rfl,[],fun _=>rfl,fun _=>rfl⟩
theorem LV.n4(h:∀w,az 435761734006 w e=[(435761734006,w)]):LV ((1684957547,a)::(448630255479,b)::(29793,c)::(488440486704836507562857,d)::e):=⟨_,fun _ _ _=>rfl,e,fun _=>rfl,h⟩
def Em (n:Nat)(b:List Fr)(r:List UInt8):Prop:=b.length+r.length<n/\(∀f∈b,f.items.length+r.length<n)/\∀f∈b.tail,f.wants=false
def NX (k n l g e:Nat)(b:List UInt8)(c:MS)(Q:Ks):Prop:=∀(M:Nat->Prop) (a:MS) (f:List Fr) (i:List V) (r:List UInt8) (p:Nat) (h:List (Nat×V)) (j:V),sL l g c M a f i->LV h->a[l]?=some (aT b p e)->aE b e p r->r.length<n->Em 1000000 f r->AI l e b c Q (run n f (aG false r))->pS (k+5) Nd (li l g j h) a (me (jY Q fun d a=>aV (k+5) aJ aI d a Q) fun d a=>jY Q (fun d a=>aV (k+5) aJ aI d a Q) (.ok .next) d a)
def Nj (n l g e:Nat)(b:List UInt8)(a:MS)(Q:Ks)(x:yS):Prop:=match x with| .error _=>False| .ok (.inl x)=>AI l e b a Q (.ok x)| .ok (.inr (f,r))=>AI l e b a Q (run n f (aG false r))
theorem qh{f:Fr}(h:f.wants=true->∃s,x= .name s):(f.put x).items=f.items++[x]:=by cases f with
 |arr l=>rfl|dct c d=>
  cases d with
  |none=>
   obtain⟨s,e⟩:=h rfl;subst e;show kF c++[O.name s]=(kF c++[])++[O.name s];rw[cF]|some s=>
   show kF (c++[(s,x)])++[]=(kF c++[O.name s])++[x];rw[cF,dU]
   clear h;induction c with|nil=>rfl|cons p c g=>exact congrArg (fun q=>O.name p.1::p.2::q) g
theorem FW (f:Fr)(x:O):(f.put x).isA=f.isA:=by cases f with|arr l=>rfl|dct b a=>cases a<;>rfl
theorem Id{p:Nat}(R:NX k n l I e b D Q)(i:sL l I D M u J ls)(ho:St M u o v)(U:dY J=true->∃s,o= .name s)(h:u[l]?=some (aT b p e))(hr:aE b e p r)(hn:r.length<n)(hf:Em 999999 J r)(hq:Nj n l I e b D Q (jm J o r)):pSs (k+5) xM (li l I tv [(1684957547,a),(448630255479,b'),(29793,c),(488440486704836507562857,d),(435761734006,v)]) u (me (jY Q fun F u=>aV (k+5) aJ aI F u Q) fun F u=>pSs (k+5) [Nd] F u (jY Q fun F u=>aV (k+5) aJ aI F u Q)):=by
 have c1:=mZ i.hf;have k0:Kp (· =l) u (u++[ah.list []]):=Kp.app _ _ _;have i':=i;obtain⟨hM,X,hl,hfr,F,G,hfs,Y⟩:=i;cases hfs with
 |nil _=>
  have hq:=hq _ (Y.tr k0) p v (li l I tv [(1684957547,a),(448630255479,b'),(29793,c),(488440486704836507562857,d),(435761734006,v)]) (ai _ h) hr (St.mono k0 (fun i h1 h2=>h2.elim (X i) fun e=>e▸X _ hl) _ ho)
  clear R U hf i';ktr_rel| @cons _ dl C f J ls us a1 b1 hd hi hs md mi tl=>
  rw[uK]at G c1;rw[kE]at c1;have h1:=ai [.list []] G;have g1:=rB h1;have d1:=ai [.list []] hd;have i1:=ai [.list []] hi;have a4:aY (u++[ah.list []]) (.loc dl) 495756604521=some (.loc C):=fH d1 rfl;have lp:=fK i1;have lu:us.length<999999:=by have:=hf.2.1 f dR;have:=hs.len;lia
  have bp:=fx v i1 (by exact qD (by assumption));have tle:=tl.le;have n1:I≠C:=by lia
  have n2:l≠C:=by lia
  have n3:C≠dl:=by exact fP (by assumption)
  have B:Kp (· =C) u ((u++[ah.list []]).set C (ah.list (us++[v]))):=(Kp.app (· =C) u [.list []]).tr (Kp.set _ _ rfl);have s1:=fun i (h1:i<u.length) (h2:M i\/i=C)=>h2.elim id fun e=>e▸mi;have iv:sL l I D M ((u++[ah.list []]).set C (ah.list (us++[v]))) (f.put o::J) (.loc dl::ls):=by
   refine⟨fun j hj=>k9 (hM j hj) B.len,X,hl,hfr,F,?_,?_,Y.trans B fun i h e=>by have:=Y.len;lia⟩
   ·rw[uK];exact B.at G n1
   ·refine FS.cons (vs:=us++[v]) (k9 a1 B.len) b1 ?_ (aq _ i1) ?_ md mi (tl.mono (N:=M) B (fun _ _ h=>h) (fun i _ e=>⟨e▸mi,.inr (by lia)⟩) fun _ h _=>h)
    ·rw[FW];exact B.at hd (ci n3)
    ·rw[qh U]
     exact lg.app (St.mono B s1 _ hs) (St.mono B s1 _ ho)
  have R:=R M _ (f.put o::J) (.loc dl::ls) r p [(1684957547,a),(448630255479,b'),(29793,c),(488440486704836507562857,d),(435761734006,v)] tv iv (LV.n4 fun _=>rfl) (B.at h n2) hr hn ⟨qC hf.1,(fun g P=>by
   rcases zC P with P|P
   ·have:=hf.2.1 f dR
    rw[P,qh U,aK,Am];lia
   ·have:=hf.2.1 g (eh _ P);exact qD (by assumption)),hf.2.2⟩ hq
  clear iv s1 B U hf hq hs i' tl hM X Y k0 ho lu
  ktr_rel
  exact R
theorem FS.len{a:Nat}(h:FS M e a n b c):b.length=c.length:=by induction h with|nil _=>rfl|cons _ _ _ _ _ _ _ _ d=>exact congrArg (· +1) d
theorem oo(h:isSg t s=true):t= .sign s:=by cases t with|sign o=>rw[eP (show decide (o=s)=true from h)]|_=>exact Bool.noConfusion h
noncomputable def Oe:List S:=[.ite (.cmp (.call (.val (.bi .len)) [.loc 126879463993958]) .eq (.val (.int 40))) [.raise (.loc 29793)] [],.expr (.meth (.loc 126879463993958) 110425311047777 [.call (.val (.cls 56)) [.loc 448630255479]])]
noncomputable def KU:S:=.ite (.and [.cmp (.loc 1684957547) .eq (.val (.str [115,105,103,110])),.cmp (.loc 448630255479) .isin (.tup [.val (.bytes [93]),.val (.bytes [62,62])])]) [.assign (.loc 435761734006) (.call (.val (.fn 62)) [.loc 126879463993958,.loc 448630255479,.loc 29793])] [.assign (.loc 435761734006) (.call (.val (.fn 60)) [.loc 125823003817315,.loc 474147942260,.loc 599170539855555716570910520482489708])]
def A9 (n l g e:Nat)(b:List UInt8)(a:MS)(Q:Ks)(x:yS):Prop:=match x with| .error m=>AI l e b a Q (.error m)| .ok (.inl x)=>AI l e b a Q (.ok x)| .ok (.inr (f,r))=>AI l e b a Q (run n f (aG false r))
noncomputable abbrev Nc (k:Nat)(Q:Ks):Ks:=jY Q fun a b=>aV (k+5) aJ aI a b Q
noncomputable abbrev wu (k:Nat)(Q:Ks):Ks:=me (Nc k Q) fun a b=>pSs (k+5) [Nd] a b (Nc k Q)
theorem Ob (n:Nat)(a:Nat):decide ((n:Int)=(a:Int))=decide (n=a):=by
 by_cases h:n=a
 ·rw[dD h,dD (congrArg _ h)]
 ·rw[cO h,cO fun e=>h (Int.ofNat_inj.mp e)]
theorem JL{p:Nat}{b r:List UInt8}{ms0 ms:MS}{M:Nat->Prop}{fs:List Fr}{ls:List V}{Q:Ks}{vs:List (Nat×V)}{tv:V}(a:Bool)(nx:NX k n l fr e b ms0 Q)(i:sL l fr ms0 M ms fs ls){kd:List Nat}{isop:V}(hv:∀w,az 435761734006 w vs=[(435761734006,w)])(h:ms[l]?=some (aT b p e))(hr:aE b e p r)(hn:r.length<n)(hf:Em 999999 fs r)(tw:dY fs=false)(hq:A9 n l fr e b ms0 Q (bX fs a m r)):pSs (k+5) Oe (li l fr tv ((1684957547,.str kd)::(448630255479,.bytes (lZ a))::(29793,.int ((e:Int)-m))::(488440486704836507562857,isop)::vs)) ms (wu k Q):=by
 have lv:LV ((1684957547,.str kd)::(448630255479,.bytes (lZ a))::(29793,.int ((e:Int)-m))::(488440486704836507562857,isop)::vs):=LV.n4 hv;have b1:=td i.hf;have fl:=i.fs.len;have e0:ls.reverse.length=fs.length:=by rw[List.length_reverse,fl]
 rw[e0]at b1;have ei:=Ob fs.length 40
 refine bS (decide (fs.length=40)) ?_ ?_
 ·intro q
  have hq:AI l e b ms0 Q (.error m):=by
   have e1:bX fs a m r= .error m:=by unfold bX;rw[q];rfl
   rw[e1]at hq;exact hq
  have hq:=hq ms i.kb
  rw[q]at ei
  clear nx hf lv i
  ktr_rel
  exact hq _
 ·intro q
  have hq:AI l e b ms0 Q (run n (Fr.new a::fs) (aG false r)):=by
   have e1:bX fs a m r= .ok (.inr (Fr.new a::fs,r)):=by unfold bX;rw[q];rfl
   rw[e1]at hq;exact hq
  rw[q]at ei
  have lp:=fK i.hf
  obtain⟨hM,m0,hl,hfr,mf,hf1,hfs,kb⟩:=i
  have hf2:=ai [rz (.bytes (lZ a)) (ms.length+1),.list []] hf1
  have lf:=bK hf1
  have fsL:fs.length<1000000:=by
   have:=hf.1;lia
  have bp:=fx (.loc ms.length) hf2 (by rw[e0];exact fsL)
  have k1:Kp (fun i=>i=fr) ms ((ms++[rz (.bytes (lZ a)) (ms.length+1),.list []]).set fr (.list (ls.reverse++[.loc ms.length]))):=(Kp.app _ _ _).tr (Kp.set _ _ rfl)
  have ll:((ms++[rz (.bytes (lZ a)) (ms.length+1),.list []]).set fr (.list (ls.reverse++[.loc ms.length]))).length=ms.length+2:=by rw[sD,aK];rfl
  have iv:sL l fr ms0 (fun i=>M i\/i=ms.length\/i=ms.length+1) ((ms++[rz (.bytes (lZ a)) (ms.length+1),.list []]).set fr (.list (ls.reverse++[.loc ms.length]))) (Fr.new a::fs) (.loc ms.length::ls):=by
   refine⟨fun j hj=>?_,fun i h=>.inl (m0 i h),hl,hfr,.inl mf,?_,?_,kb.trans k1 fun i h e=>by lia⟩
   ·rw[ll];exact hj.elim (fun h=>Nat.lt_add_right 2 (hM j h)) fun h=>by lia
   ·rw[uK];exact aq _ hf2
   ·refine FS.cons (vs:=[]) (il:=ms.length+1) (by rw[ll];exact cc _) (by exact cc _) ?_ ?_ ?_ (.inr (.inl rfl)) (.inr (.inr rfl)) (hfs.mono (N:=fun i=>M i\/i=ms.length\/i=ms.length+1) k1 (fun i h1 h2=>h2.elim id fun h=>by lia) (fun i h1 h2=>⟨h2▸mf,.inl (by lia)⟩) fun i h1 _=>.inl h1)
    ·rw[show(Fr.new a).isA=a by cases a<;>rfl];exact aW _ (eo lf) (ag ms _ _)
    ·refine aW _ (by lia) ?_
     rw[my (eO _),show ms.length+1-ms.length=1 by rw[uG]];rfl
    ·cases a<;>exact rfl
  have nx:=nx _ _ (Fr.new a::fs) _ r p _ tv iv lv (k1.at h (by lia)) hr hn ⟨by have:=hf.1;rw[fj];lia,(fun g hg=>by
   rcases zC hg with hg|hg
   ·rw[hg,show(Fr.new a).items=[] by cases a<;>rfl,fm]
    have:=hf.1;lia
   ·have:=hf.2.1 g hg;exact qD (by assumption)),fun g hg=>by
   cases fs with
   |nil=>exact absurd hg dq
   |cons f' fs'=>exact(zC hg).elim (fun e=>e▸tw) (hf.2.2 g)⟩ hq
  clear iv k1 hf hq hfs hM m0 kb lv
  ktr_rel
  refine vM ms _ ?_
  ktr_rel
  exact nx
theorem EX{p:Nat}(a:Bool)(nx:NX k n l fr e b ms0 Q)(i:sL l fr ms0 M ms fs ls)(hv:∀w,az 435761734006 w vs=[(435761734006,w)])(h:ms[l]?=some (aT b p e))(hr:aE b e p r)(hn:r.length<n)(hf:Em 999999 fs r)(hq:A9 n l fr e b ms0 Q (cU fs a m r)):pSs (k+5) (KU::xM) (li l fr tv ((1684957547,.str [115,105,103,110])::(448630255479,.bytes (rZ a))::(29793,.int ((e:Int)-m))::(488440486704836507562857,isop)::vs)) ms (wu k Q):=by
 have go:Call (k+5) 62 0 [.loc fr,.bytes (rZ a),.int ((e:Int)-m)] ms fun r ms'=>match r with
  | .error z=>∀mf,Q (.error z) mf ms'| .ok v=>pSs (k+5) xM (li l fr tv [(1684957547,.str [115,105,103,110]),(448630255479,.bytes (rZ a)),(29793,.int ((e:Int)-m)),(488440486704836507562857,isop),(435761734006,v)]) ms' (wu k Q):=by
  have i':=i;obtain⟨hM,m0,hl,hfr,mf,hf1,hfs,kb⟩:=i;cases hfs with|nil _=>exact yZ a _ hf1 (hq _ (kb.tr (Kp.app _ _ _)))| @cons _ d il f fs ls us a1 b1 hd hi hs md mi tl=>
   have tle:=tl.le;rw[uK]at hf1;have lu:us.length<1000000:=by have:=hf.2.1 f dR;have:=hs.len;lia
   refine pw a _ hM mf hf1 hd hi hs lu (by lia) b1 fun ms' k'=>⟨fun z=>?_,fun o v z hf' ho=>?_⟩
   ·have e1:cU (f::fs) a m r= .error m:=by show Option.casesOn (motive:=fun _=>yS) (f.close a) (.error m) (fun o=>jm fs o r)=_;rw[z]
    rw[e1]at hq;exact hq _ (kb.trans k' fun i h e=>by lia)
   ·have e1:cU (f::fs) a m r=jm fs o r:=by show Option.casesOn (motive:=fun _=>yS) (f.close a) (.error m) (fun o=>jm fs o r)=_;rw[z]
    rw[e1]at hq;have iv:sL l fr ms0 (fun i=>M i/\i<d) ms' fs ls:=⟨fun j hj=>k9 (hM j hj.1) k'.len,fun j hj=>⟨m0 j hj,by lia⟩,hl,hfr,⟨mf,by lia⟩,hf',(tl.mono (N:=fun i=>M i/\i<d) k' (fun _ _ h=>h.1) (fun j _ h=>⟨h▸mf,.inl (by lia)⟩) fun j h1 h2=>⟨h1,h2⟩).up (bR (ju (bK hd)) k'.len),kb.trans k' fun i h e=>by lia⟩;have nw:dY fs=false:=by cases fs with|nil=>rfl|cons f' fs'=>exact hf.2.2 f' dR
    refine Id nx iv ho (fun z=>Bool.noConfusion (nw.symm.trans z)) (k'.at h (by lia)) hr hn ⟨by have:=hf.1;rw[fj]at this;lia,fun g hg=>hf.2.1 g (eh _ hg),fun g hg=>hf.2.2 g ((List.tail_suffix _).subset hg)⟩ ?_;cases fs with
    |nil=>exact hq|cons f' fs'=>exact hq
 clear nx i hf hq
 cases a with
 |true=>
  ktr_rel
  refine go.mono fun r ms' hc=>?_
  cases r with
  |error z=>exact hc _
  |ok v=>
   show pSs (k+5) xM (li l fr tv (_::_::_::_::az 435761734006 v vs)) ms' (wu k Q)
   rw[hv]
   exact hc
 |false=>
  ktr_rel
  refine go.mono fun r ms' hc=>?_
  cases r with
  |error z=>exact hc _
  |ok v=>
   show pSs (k+5) xM (li l fr tv (_::_::_::_::az 435761734006 v vs)) ms' (wu k Q)
   rw[hv]
   exact hc
theorem FT{p:Nat}{n0:Nat}(ns:∀a,isSg t (rZ a)=false)(nx:NX k n l fr e b ms0 Q)(i:sL l fr ms0 M ms fs ls)(hv:∀w,az 435761734006 w vs=[(435761734006,w)])(h:ms[l]?=some (aT b p e))(hr:aE b e p r)(hd:∀d,v= .loc d->¬M d)(ht:t.is n0 ms v) (hk:t= .fin\/(r.length<n/\Em 999999 fs r)) (tw:dY fs=true->t.isName=true) (hq:A9 n l fr e b ms0 Q (bI fs t m r)):pSs (k+5) (KU::xM) (li l fr (gV t v ((e:Int)-m)) ((1684957547,.str t.kind)::(448630255479,v)::(29793,.int ((e:Int)-m))::(488440486704836507562857,isop)::vs)) ms (wu k Q):=by
 have go:Call (k+5) 60 0 [.loc l,gV t v ((e:Int)-m),.bool true] ms fun r ms'=>match r with
  | .error z=>∀mf,Q (.error z) mf ms'| .ok u=>pSs (k+5) xM (li l fr (gV t v ((e:Int)-m)) [(1684957547,.str t.kind),(448630255479,v),(29793,.int ((e:Int)-m)),(488440486704836507562857,isop),(435761734006,u)]) ms' (wu k Q):=by
  refine pF (M:=M) _ i.hM hd ht h hr fun ms' k'=>⟨fun z=>?_,fun o r' p' u z h' hr' ho=>?_⟩
  ·have e1:bI fs t m r= .error m:=by unfold bI;rw[z]
   rw[e1]at hq;exact hq _ (i.kb.tr k')
  ·have e1:bI fs t m r=jm fs o r':=by unfold bI;rw[z]
   rw[e1]at hq
   have le:=(rT z).length_le
   rcases hk with hk|⟨hn,hf⟩
   ·subst hk;exact bN z
   refine Id nx (i.mono k') ho (fun z2=>?_) h' hr' (by exact cN (by assumption) (by assumption)) ⟨by have:=hf.1;lia,(fun g hg=>by have:=hf.2.1 g hg;lia),hf.2.2⟩ ?_
   ·have z3:=tw z2
    cases t with
    |name s=>exact⟨_,(dE (e9 (show some (O.name (s.map (·.toNat)),r)=some (o,r')from z))).1.symm⟩
    |_=>exact Bool.noConfusion z3
   ·cases fs with
    |nil=>exact hq
    |cons f' fs'=>exact hq
 clear nx i hk hq hd tw
 have fin:∀(r:Except Int V) (ms':MS),(match r with
  | .error z=>∀mf,Q (.error z) mf ms'
  | .ok u=>pSs (k+5) xM (li l fr (gV t v ((e:Int)-m)) [(1684957547,.str t.kind),(448630255479,v),(29793,.int ((e:Int)-m)),(488440486704836507562857,isop),(435761734006,u)]) ms' (wu k Q))->
  LU (wu k Q) (li l fr (gV t v ((e:Int)-m)) ((1684957547,.str t.kind)::(448630255479,v)::(29793,.int ((e:Int)-m))::(488440486704836507562857,isop)::vs)) (fun v' ms=>pSs (k+5) xM (li l fr (gV t v ((e:Int)-m)) ((1684957547,.str t.kind)::(448630255479,v)::(29793,.int ((e:Int)-m))::(488440486704836507562857,isop)::az 435761734006 v' vs)) ms (wu k Q)) r ms':=by
  intro r ms' hc
  cases r with
  |error z=>exact hc _
  |ok u=>
   show pSs (k+5) xM (li l fr _ (_::_::_::_::az 435761734006 u vs)) ms' (wu k Q)
   rw[hv]
   exact hc
 cases t with
 |sign o=>
  cases (show v= .bytes o from ht)
  have n1:decide ([93]=o)=false:=cO fun e=>sy (show decide (o=[93])=false from ns true) e.symm
  have n2:decide ([62,62]=o)=false:=cO fun e=>sy (show decide (o=[62,62])=false from ns false) e.symm
  have e1:bc ms .isin (.bytes o) (.tup [.bytes [93],.bytes [62,62]])=some (decide ([93]=o)||(decide ([62,62]=o)||false)):=rfl
  rw[n1,n2]at e1
  clear n1 n2 ns ht
  ktr_rel
  exact go.mono fin
 |real t n=>clear ns ht;ktr_rel;exact go.mono fin
 |fin=>clear ns ht;ktr_rel;exact go.mono fin
 |name o=>clear ns ht;ktr_rel;exact go.mono fin
 |str o=>clear ns ht;ktr_rel;exact go.mono fin
 |hex o=>clear ns ht;ktr_rel;exact go.mono fin
 |word o=>clear ns ht;ktr_rel;exact go.mono fin
 |int o=>clear ns ht;ktr_rel;exact go.mono fin
noncomputable def Of:List S:=[.ite OX [.raise (.loc 29793)] [],.ite (.loc 488440486704836507562857) Oe (KU::xM),Nd]
theorem JR{p:Nat}{b r:List UInt8}{ms0 ms:MS}{M:Nat->Prop}{fs:List Fr}{ls:List V}{Q:Ks}{vs:List (Nat×V)}{t:Tok}{v:V}{n0:Nat}(nx:NX k n l fr e b ms0 Q)(i:sL l fr ms0 M ms fs ls)(hv:∀w,az 435761734006 w vs=[(435761734006,w)])(h:ms[l]?=some (aT b p e))(hr:aE b e p r)(hd:∀d,v= .loc d->¬M d)(ht:t.is n0 ms v) (hk:t= .fin\/(r.length<n/\Em 999999 fs r)) (hq:∀x,bG fs t m r=x->A9 n l fr e b ms0 Q x):pSs (k+5) Of (li l fr (gV t v ((e:Int)-m)) ((1684957547,.str t.kind)::(448630255479,v)::(29793,.int ((e:Int)-m))::(488440486704836507562857,.bool (isSg t [91]||isSg t [60,60]))::vs)) ms (Nc k Q):=by
 have k1:Kp (· =l) ms (ms++[.list []]):=Kp.app _ _ _;have i1:=i.mono k1;have h1:=k1.len;have ht1:t.is n0 (ms++[.list []]) v:=by cases t with
  |real t n=>exact ht.imp fun d h=>⟨h.1,h.2.1,ai _ h.2.2⟩|_=>exact ht
 have h':=ai [ah.list []] h
 have es:bG fs t m r=bif dY fs&&!t.isName&&!isSg t [62,62]then .error m
  else bif isSg t [91]then bX fs true m r else bif isSg t [60,60]then bX fs false m r
  else bif isSg t [93]then cU fs true m r else bif isSg t [62,62]then cU fs false m r
  else bI fs t m r:=rfl
 refine Fi (n0:=n0) (fs:=fs) (ls:=ls) _ _ i ht ?_
 cases g:(dY fs&&!t.isName&&!isSg t [62,62])with
 |true=>
  rw[g]at es
  have hq:Q (.error ((e:Int)-m)) _ _:=hq _ es _ i1.kb (li l fr (gV t v ((e:Int)-m)) ((1684957547,.str t.kind)::(448630255479,v)::(29793,.int ((e:Int)-m))::(488440486704836507562857,.bool (isSg t [91]||isSg t [60,60]))::vs))
  clear nx i i1 ht ht1 hk es g
  ktr_rel
 |false=>
  rw[g]at es
  have es:bG fs t m r=bif isSg t [91]then bX fs true m r else bif isSg t [60,60]then bX fs false m r
   else bif isSg t [93]then cU fs true m r else bif isSg t [62,62]then cU fs false m r
   else bI fs t m r:=es
  have tw1:∀o,t= .sign o->o≠[62,62]->dY fs=false:=by
   intro o e1 e2
   subst e1
   have e3:isSg (.sign o) [62,62]=false:=cO e2
   rw[e3]at g
   cases z:dY fs with
   |false=>rfl
   |true=>rw[z]at g;exact Bool.noConfusion g
  have hks:∀o,t= .sign o->r.length<n/\Em 999999 fs r:=fun o e=>hk.elim (fun z=>Tok.noConfusion (e.symm.trans z)) id
  have op:∀a:Bool,t= .sign (lZ a)->bG fs t m r=bX fs a m r->pSs (k+5) Oe (li l fr (gV t v ((e:Int)-m)) ((1684957547,.str t.kind)::(448630255479,v)::(29793,.int ((e:Int)-m))::(488440486704836507562857,.bool true)::vs)) (ms++[.list []]) (wu k Q):=by
   intro a e1 e2
   have ev:v= .bytes (lZ a):=by subst e1;exact ht
   subst ev
   exact JL a nx i1 hv h' hr (hks _ e1).1 (hks _ e1).2 (tw1 _ e1 (by cases a<;>decide)) (hq _ e2)
  have cl:∀a:Bool,t= .sign (rZ a)->bG fs t m r=cU fs a m r->pSs (k+5) (KU::xM) (li l fr (gV t v ((e:Int)-m)) ((1684957547,.str t.kind)::(448630255479,v)::(29793,.int ((e:Int)-m))::(488440486704836507562857,.bool false)::vs)) (ms++[.list []]) (wu k Q):=by
   intro a e1 e2
   have ev:v= .bytes (rZ a):=by subst e1;exact ht
   subst ev
   have hh:=hks _ e1
   subst e1
   exact EX a nx i1 hv h' hr hh.1 hh.2 (hq _ e2)
  have pl:(∀a,isSg t (rZ a)=false)->bG fs t m r=bI fs t m r->pSs (k+5) (KU::xM) (li l fr (gV t v ((e:Int)-m)) ((1684957547,.str t.kind)::(448630255479,v)::(29793,.int ((e:Int)-m))::(488440486704836507562857,.bool false)::vs)) (ms++[.list []]) (wu k Q):=by
   intro e1 e2
   refine FT e1 nx i1 hv h' hr hd ht1 hk (fun z=>?_) (hq _ e2)
   rw[z,show isSg t [62,62]=false from e1 false]at g
   cases q:t.isName with
   |true=>rfl
   |false=>rw[q]at g;exact Bool.noConfusion g
  clear nx i i1 ht ht1 hk hks tw1 hd hq g
  cases q1:isSg t [91]with
  |true=>
   rw[q1]at es
   have s:=op true (oo q1) es
   clear op cl pl
   ktr_rel
  |false=>
   rw[q1]at es
   cases q2:isSg t [60,60]with
   |true=>
    rw[q2]at es
    have s:=op false (oo q2) es
    clear op cl pl
    ktr_rel
   |false=>
    rw[q2]at es
    have s:pSs (k+5) (KU::xM) (li l fr (gV t v ((e:Int)-m)) ((1684957547,.str t.kind)::(448630255479,v)::(29793,.int ((e:Int)-m))::(488440486704836507562857,.bool false)::vs)) (ms++[.list []]) (wu k Q):=by
     refine bS (isSg t [93]) ?_ ?_
     ·intro q3;rw[q3]at es;exact cl true (oo q3) es
     ·intro q3
      rw[q3]at es
      refine bS (isSg t [62,62]) ?_ ?_
      ·intro q4;rw[q4]at es;exact cl false (oo q4) es
      ·intro q4;rw[q4]at es;exact pl (fun a=>by cases a;exact q4;exact q3) es
    clear op cl pl es
    refine a9.neg rfl ?_
    refine aj.mk _ rfl ?_
    refine a9.neg rfl ?_
    exact s
theorem Mx{n0:Nat}(b:t.is n0 g v)(w:List S)(a:Int)(d:List (Nat×V))(K:Ks) (hq:pSs k w (li l j m ((1684957547,.str t.kind)::(448630255479,v)::(29793,.int a)::az 488440486704836507562857 (.bool (isSg t [91]||isSg t [60,60])) d)) g K):pSs k (.assign (.loc 488440486704836507562857) (.and [.cmp (.loc 1684957547) .eq (.val (.str [115,105,103,110])),.cmp (.loc 448630255479) .isin (.tup [.val (.bytes [91]),.val (.bytes [60,60])])])::w) (li l j m ((1684957547,.str t.kind)::(448630255479,v)::(29793,.int a)::d)) g K:=by cases t with
 |sign o=>
  cases (show v= .bytes o from b);have n1:decide ([91]=o)=decide (o=[91]):=decide_eq_decide.mpr eq_comm;have n2:decide ([60,60]=o)=decide (o=[60,60]):=decide_eq_decide.mpr eq_comm;have h:bc g .isin (.bytes o) (.tup [.bytes [91],.bytes [60,60]])=some (decide ([91]=o)||(decide ([60,60]=o)||false)):=rfl;rw[n1,n2,Bool.or_false]at h;have i:(isSg (.sign o) [91]||isSg (.sign o) [60,60])=(decide (o=[91])||decide (o=[60,60])):=rfl;rw[<- i]at h
  clear n1 n2 b i;ktr_rel|real t n=>clear b;ktr_rel|fin=>clear b;ktr_rel|name o=>clear b;ktr_rel|str o=>clear b;ktr_rel|hex o=>clear b;ktr_rel|word o=>clear b;ktr_rel|int o=>clear b;ktr_rel
theorem OB{K:Ks}(h:j.vars.lookup x=some (.tup [u,v,z]))(hq:pSs k w (((j.set a u).set b v).set c z) m K):pSs k (.assign (.tup [.loc a,.loc b,.loc c]) (.loc x)::w) j m K:=by show uR (j.vars.lookup x) _;rw[h];exact⟨rfl,hq⟩
theorem tX{p:Nat}{n0:Nat}(G:NX k n l j e b a Q)(i:sL l j a M o q Z)(H:LV C)(h:o[l]?=some (aT b p e))(hr:aE b e p r)(hd:∀d,v= .loc d->¬M d)(D:t.is n0 o v) (hk:t= .fin\/(r.length<n/\Em 999999 q r)) (hq:AI l e b a Q (fg (run n) q t m r)):aV (k+5) aJ aI (li l j (gV t v ((e:Int)-m)) C) o Q:=by
 obtain⟨y,I,J,K,L⟩:=H;have hq:∀x,bG q t m r=x->A9 n l j e b a Q x:=by
  intro x N;unfold fg at hq;rw[N]at hq
  match x,hq with| .error m,hq=>exact hq| .ok (.inl x),hq=>exact hq| .ok (.inr (q,r)),hq=>exact hq
 have s:=JR (m:=m) G i L h hr hd D hk hq;refine bu ?_;refine aj.mk _ rfl ?_;refine a9.pos rfl ?_;have R:pSs (k+5) (.assign (.loc 488440486704836507562857) (.and [.cmp (.loc 1684957547) .eq (.val (.str [115,105,103,110])),.cmp (.loc 448630255479) .isin (.tup [.val (.bytes [91]),.val (.bytes [60,60])])])::Of) (li l j (gV t v ((e:Int)-m)) (az 29793 (.int ((e:Int)-m)) (az 448630255479 v (az 1684957547 (.str t.kind) C)))) o (Nc k Q):=by
  rw[I];refine Mx (n0:=n0) D Of _ y _ ?_;rw[K];exact s
 exact OB rfl R
theorem Mr{e:Nat}(f:ky b)(J:∀(M:Nat->Prop) (o:MS) (c:List Fr) (D:List V) (r:List UInt8) (p m:Nat) (w:List (Nat×V)) (t:Tok) (v:V) (n0:Nat),sL l F y M o c D->LV w->o[l]?=some (aT b p e)->aE b e p r->(∀d,v= .loc d->¬M d)->t.is n0 o v->(t= .fin\/(r.length<n/\Em 999999 c r))->AI l e b y Q (fg (run n) c t m r)->aV (k+5) aJ aI (li l F (gV t v ((e:Int)-m)) w) o Q):NX k (n+1) l F e b y Q:=by
 intro M o c D r p w tv i K h hr hn hf hq;have j:run (n+1) c (aG false r)=tO (dW (aG false r)) fun t C=>fg (run n) c t (aG false r).length C:=rfl;have s:Call (k+5) 42 0 [.loc l] o fun x a=>match x with| .error z=>∀L,Q (.error z) L a| .ok u=>aV (k+5) aJ aI (li l F u w) a Q:=by refine kO f h hr ?_;cases q:dW (aG false r)with
  |error z=>
   rw[q]at j;have j:run (n+1) c (aG false r)= .error z:=j;rw[j]at hq;exact fun a G=>hq a (i.kb.tr G)|ok x=>
   obtain⟨t,C⟩:=x;rw[q]at j;have j:run (n+1) c (aG false r)=fg (run n) c t (aG false r).length C:=j;rw[j]at hq;intro a p' v G h' H I;refine J M a c D C p' _ w t v o.length (i.mono G) K h' H (fun d e m=>by
    subst e;have:=i.hM d m;cases t with
    |real t n=>exact I.elim fun d' B=>absurd B.2.1 (by cases B.1;lia)|_=>exact V.noConfusion I) I ((nj q).imp id fun z=>⟨by lia,by have:=hf.1;lia,(fun g hg=>by have:=hf.2.1 g hg;lia),hf.2.2⟩) hq
 clear j hq hf J f i;refine s.mono fun x a hc=>?_;cases x with|error z=>exact hc _|ok u=>exact hc
theorem tY{e:Nat}(f:ky b):∀(n:Nat) (M:Nat->Prop) (c:MS) (g:List Fr) (q:List V) (r:List UInt8) (p m:Nat) (j:List (Nat×V)) (t:Tok) (v:V) (n0:Nat),sL l x s M c g q->LV j->c[l]?=some (aT b p e)->aE b e p r->(∀d,v= .loc d->¬M d)->t.is n0 c v->(t= .fin\/(r.length<n/\Em 999999 g r))->AI l e b s Q (fg (run n) g t m r)->aV (k+5) aJ aI (li l x (gV t v ((e:Int)-m)) j) c Q|0,M,c,g,q,r,p,m,j,t,v,n0,i,u,h,hr,hd,w,hk,hq=>tX (n:=0) (fun _ _ _ _ _ _ _ _ _ _ _ _ h=>absurd h (Nat.not_lt_zero _)) i u h hr hd w hk hq|n+1,M,c,g,q,r,p,m,j,t,v,n0,i,u,h,hr,hd,w,hk,hq=>tX (n:=n+1) (Mr f (tY f n)) i u h hr hd w hk hq
def K8 (l e:Nat)(b:List UInt8)(c:MS)(Q:Kv)(x:Except Nat (O×List UInt8)):Prop:=match x with| .error m=>∀a,Kp (· =l) c a->Q (.error ((e:Int)-m)) a| .ok (o,i)=>∀a (g:Nat) v,Kp (· =l) c a->a[l]?=some (aT b g e)->aE b e g i->St (· <c.length) a o v->Q (.ok v) a
theorem aV.mono(h:aV k t b c d Q)(g:∀r c d,Q r c d->R r c d):aV k t b c d R:=⟨W.mono h.w fun r=>g r.1 r.2.1 r.2.2⟩
theorem Gm{n0:Nat}{t:Tok}(b:t.is n0 c v)(e:v= .loc d):n0<=d/\d<c.length:=by subst e;cases t with|real t n=>exact b.elim fun f a=>by cases a.1;exact⟨a.2.1,bK a.2.2⟩|_=>exact V.noConfusion b
theorem pD{e p:Nat}(f:ky b)(k0:Kp (· =l) c j)(hl:l<c.length)(h:j[l]?=some (aT b p e))(hr:aE b e p r)(ht:t.is c.length j v)(hk:t= .fin\/r.length<n)(hq:K8 l e b c Q (fg (run n) [] t m r)):Call (k+6) 63 0 [.loc l,gV t v ((e:Int)-m)] j Q:=by
 have le:=k0.len;have iv:sL l j.length c (fun i=>i<c.length\/i=j.length) (j++[.list []]) [] []:=by
  have e1:(j++[ah.list []]).length=j.length+1:=aK;exact⟨fun i h=>by rw[e1];lia,fun i h=>.inl h,hl,le,.inr rfl,ag j _ [],.nil (iG e1.symm),k0.tr (Kp.app _ _ _)⟩
 have ht1:t.is c.length (j++[.list []]) v:=by cases t with|real t n=>exact ht.imp fun d h=>⟨h.1,h.2.1,ai _ h.2.2⟩|_=>exact ht
 have hr1:=rW hr;have fl:=f.l9;have w:=tY (k:=k) (Q:=fun r mf j=>Q (bF r) j) f n _ _ [] [] r p m [] t v _ iv LV.n0 (ai _ h) hr (fun d e=>by have:=Gm ht e;lia) ht1 (hk.imp id fun hk=>⟨hk,by rw[fm];lia,fun g hg=>absurd hg dq,fun g hg=>absurd hg dq⟩) (fun ms' k'=>by
  cases q:fg (run n) [] t m r with|error z=>rw[q]at hq;exact fun mf=>hq ms' k'|ok x=>rw[q]at hq;exact fun p' v mf h' hr' hs=>hq ms' p' v k' h' hr' hs);refine ar (fn:=gm) rfl rfl rfl ?_;refine And.intro (aP rfl) ?_;refine(?_:aV _ _ _ _ _ _);exact w.mono fun r mf j h=>match r,h with| .error _,h=>h| .ok .next,h=>h| .ok .brk,h=>h| .ok .cont,h=>h| .ok (.ret _),h=>h
theorem gu{e p:Nat}(f:ky b)(hl:d[l]?=some (aT b p e))(hr:aE b e p r)(hk:r.length<n)(hq:K8 l e b d Q (run (n+1) [] (aG false r))):Call (k+7) 64 0 [.loc l] d Q:=by
 have c:run (n+1) [] (aG false r)=tO (dW (aG false r)) fun t g=>fg (run n) [] t (aG false r).length g:=rfl;have s:Call (k+6) 42 0 [.loc l] d fun x a=>match x with
  | .error z=>Q (.error z) a| .ok u=>Call (k+6) 63 0 [.loc l,u] a Q:=by refine kO f hl hr ?_;cases q:dW (aG false r)with
  |error z=>
   rw[q]at c;have c:run (n+1) [] (aG false r)= .error z:=c;rw[c]at hq;exact fun a i=>hq a i|ok x=>
   obtain⟨t,g⟩:=x;rw[q]at c;have c:run (n+1) [] (aG false r)=fg (run n) [] t (aG false r).length g:=c;rw[c]at hq;intro a w v i m j o;exact pD f i (bK hl) m j o ((nj q).imp id fun z=>by lia) hq
 clear c hq;refine ar (fn:=gr) rfl rfl rfl ?_;ktr_rel;refine s.mono fun x a hc=>?_;cases x with|error z=>exact hc|ok u=>exact Call.mono hc fun r _ h=>match r,h with| .error _,h=>h| .ok _,h=>h
noncomputable def O.kind (o:O):List Nat:=o.casesOn [110,117,108,108] (fun _=>[116,114,117,116,104]) (fun _=>[105,110,116]) (fun _ _=>[114,101,97,108]) (fun _=>[110,97,109,101]) (fun _ _=>[115,116,114,105,110,103]) (fun _ _=>[114,101,102]) (fun _=>[97,114,114,97,121]) (fun _=>[100,105,99,116]) [] fun _ _ _=>[]
noncomputable def O.val (o:O):Bool:=o.casesOn true (fun _=>true) (fun _=>true) (fun _ _=>true) (fun _=>true) (fun _ _=>true) (fun _ _=>true) (fun _=>true) (fun _=>true) false fun _ _ _=>false
theorem zs(h:a[d]?=some (mS t n))(hq:Q (.ok (.str [114,101,97,108])) a):Call (k+1) 49 0 [.loc d] a Q:=by have e:=iS (t:=.ty .bool) (x:=false) h rfl;have f:=iS (t:=.ty .int) (x:=false) h rfl;have g:=iS (t:=.cls 21) (x:=true) h rfl;refine ar (fn:=bU) rfl rfl rfl ?_;ktr_rel
theorem v7(h:a[d]?=some (xJ s))(hq:Q (.ok (.str [110,97,109,101])) a):Call (k+1) 49 0 [.loc d] a Q:=by have e:=iS (t:=.ty .bool) (x:=false) h rfl;have f:=iS (t:=.ty .int) (x:=false) h rfl;have g:=iS (t:=.cls 21) (x:=false) h rfl;have i:=iS (t:=.cls 45) (x:=true) h rfl;refine ar (fn:=bU) rfl rfl rfl ?_;ktr_rel
theorem CN{hx:Bool}(h:a[d]?=some (Ab s hx))(hq:Q (.ok (.str [115,116,114,105,110,103])) a):Call (k+1) 49 0 [.loc d] a Q:=by have e:=iS (t:=.ty .bool) (x:=false) h rfl;have f:=iS (t:=.ty .int) (x:=false) h rfl;have g:=iS (t:=.cls 21) (x:=false) h rfl;have i:=iS (t:=.cls 45) (x:=false) h rfl;have j:=iS (t:=.cls 46) (x:=true) h rfl;refine ar (fn:=bU) rfl rfl rfl ?_;ktr_rel
theorem CM(h:a[d]?=some (DA n g))(hq:Q (.ok (.str [114,101,102])) a):Call (k+1) 49 0 [.loc d] a Q:=by have e:=iS (t:=.ty .bool) (x:=false) h rfl;have f:=iS (t:=.ty .int) (x:=false) h rfl;have i:=iS (t:=.cls 21) (x:=false) h rfl;have j:=iS (t:=.cls 45) (x:=false) h rfl;have l:=iS (t:=.cls 46) (x:=false) h rfl;have m:=iS (t:=.ty .list) (x:=false) h rfl;have o:=iS (t:=.ty .dict) (x:=false) h rfl;have p:=iS (t:=.cls 47) (x:=false) h rfl;have q:=iS (t:=.cls 48) (x:=true) h rfl;refine ar (fn:=bU) rfl rfl rfl ?_;ktr_rel
theorem oq(h:b[d]?=some (ah.list e))(hq:Q (.ok (.str [97,114,114,97,121])) b):Call (k+1) 49 0 [.loc d] b Q:=by have g:=iS (t:=.ty .bool) (x:=false) h rfl;have i:=iS (t:=.ty .int) (x:=false) h rfl;have j:=iS (t:=.cls 21) (x:=false) h rfl;have l:=iS (t:=.cls 45) (x:=false) h rfl;have m:=iS (t:=.cls 46) (x:=false) h rfl;have n:=iS (t:=.ty .list) (x:=true) h rfl;refine ar (fn:=bU) rfl rfl rfl ?_;ktr_rel
theorem lU(h:b[d]?=some (ah.dictS c))(hq:Q (.ok (.str [100,105,99,116])) b):Call (k+1) 49 0 [.loc d] b Q:=by have g:=iS (t:=.ty .bool) (x:=false) h rfl;have i:=iS (t:=.ty .int) (x:=false) h rfl;have j:=iS (t:=.cls 21) (x:=false) h rfl;have l:=iS (t:=.cls 45) (x:=false) h rfl;have m:=iS (t:=.cls 46) (x:=false) h rfl;have n:=iS (t:=.ty .list) (x:=false) h rfl;have o:=iS (t:=.ty .dict) (x:=true) h rfl;refine ar (fn:=bU) rfl rfl rfl ?_;ktr_rel
theorem lV(h:St M a o v)(c:o.val=true)(hq:Q (.ok (.str o.kind)) a):Call (k+1) 49 0 [v] a Q:=by cases o with|null=>cases (show v= .none from h);refine ar (fn:=bU) rfl rfl rfl ?_;ktr_rel|bool b=>cases (show v= .bool b from h);refine ar (fn:=bU) rfl rfl rfl ?_;ktr_rel|int b=>cases (show v= .int b from h);refine ar (fn:=bU) rfl rfl rfl ?_;ktr_rel|real t n=>obtain⟨d,e,_,hd⟩:=h;cases e;exact zs hd hq|name s=>obtain⟨d,e,_,hd⟩:=h;cases e;exact v7 hd hq|str s hx=>obtain⟨d,e,_,hd⟩:=h;cases e;exact CN hd hq|ref n g=>obtain⟨d,e,_,hd⟩:=h;cases e;exact CM hd hq|arr l=>obtain⟨f,⟨d,e,_,hd⟩,_⟩:=h;cases e;exact oq hd hq|dict l=>obtain⟨f,⟨d,e,_,hd⟩,_⟩:=h;cases e;exact lU hd hq|nil=>exact Bool.noConfusion c|cons=>exact Bool.noConfusion c
noncomputable def O.plain (o:O):Bool:=o.casesOn true (fun _=>true) (fun _=>true) (fun _ _=>true) (fun _=>true) (fun _ _=>true) (fun _ _=>true) (fun _=>false) (fun _=>false) false fun _ _ _=>false
noncomputable def uj (a:List (List Nat))(l:List V):List V:=(bk a).map fun k=>.tup [.str k,((a.zip l).lookup k).casesOn .none id]
noncomputable def tl (o:O):List V:=o.rec [.str [110,117,108,108]] (fun b=>[.str [116,114,117,116,104],.int (bif b then 1 else 0)]) (fun i=>[.str [105,110,116],.int i]) (fun t n=>[.str [114,101,97,108],.int t,.int n]) (fun s=>[.str [110,97,109,101],.str s]) (fun o _=>[.str [115,116,114,105,110,103],.bytes o]) (fun n g=>[.str [114,101,102],.int n,.int g]) (fun _ a=>.str [97,114,114,97,121]::a) (fun l a=>.str [100,105,99,116]::uj l.keys a) [] fun _ _ _ c d=>.tup c::d
theorem si(h:St M a o v)(hv:o.plain=true)(hq:Q (.ok (.tup (tl o))) a):Call (k+1) 50 0 [.str o.kind,v] a Q:=by
 refine ar (fn:=h6) rfl rfl rfl ?_;cases o with
 |null=>cases (show v= .none from h);ktr_rel|bool b=>cases (show v= .bool b from h);cases b<;>ktr_rel|int b=>cases (show v= .int b from h);ktr_rel|real t n=>
  obtain⟨d,e,_,hd⟩:=h;cases e;have a1:aY a (.loc d) 7368564=some (.int t):=fH hd rfl;have a2:aY a (.loc d) 126879296220272=some (.int n):=fH hd rfl;ktr_rel|name s=>
  obtain⟨d,e,_,hd⟩:=h;cases e;have a1:aY a (.loc d) 1954047348=some (.str s):=fH hd rfl;ktr_rel|str s hx=>
  obtain⟨d,e,_,hd⟩:=h;cases e
  have a1:aY a (.loc d) 126943755527023=some (.bytes s):=fH hd rfl
  ktr_rel
 |ref n g=>
  obtain⟨d,e,_,hd⟩:=h
  cases e
  have a1:aY a (.loc d) 125779768604014=some (.int n):=fH hd rfl
  have a2:aY a (.loc d) 521515500513457970505063=some (.int g):=fH hd rfl
  ktr_rel
 |arr l=>exact Bool.noConfusion hv
 |dict l=>exact Bool.noConfusion hv
 |nil=>exact Bool.noConfusion hv
 |cons=>exact Bool.noConfusion hv
noncomputable def O.look (o:O)(a:List Nat):Option O:=o.rec none (fun _=>none) (fun _=>none) (fun _ _=>none) (fun _=>none) (fun _ _=>none) (fun _ _=>none) (fun _ _=>none) (fun _ _=>none) none fun k x _ _ b=>if a=k then some x else b
def O.allNN (o:O):Prop:=o.rec True (fun _=>True) (fun _=>True) (fun _ _=>True) (fun _=>True) (fun _ _=>True) (fun _ _=>True) (fun _ _=>True) (fun _ _=>True) True fun _ x _ _ a=>x.nn=true/\a
def fq (o:O):Nat->Bool->Prop:=o.rec (fun _ c=>c=false) (fun _ _ c=>c=false) (fun _ _ c=>c=false) (fun _ _ _ c=>c=false) (fun _ _ c=>c=false) (fun _ _ _ c=>c=false) (fun _ _ _ c=>c=false) (fun l b d c=>c=false/\∃a,d=a+1/\b a true/\l.keys.length<900000) (fun l b d c=>c=false/\∃a,d=a+1/\b a true/\l.keys.length<64/\l.keys.Nodup/\l.allNN) (fun _ c=>c=true) fun _ _ _ e f d c=>c=true/\e d false/\f d true
theorem fq.val(h:fq o d false):o.val=true:=by cases o with|nil=>exact Bool.noConfusion (show false=true from h)|cons=>exact Bool.noConfusion h.1|_=>rfl
def IF (d:Nat)(o:O):Prop:=∀(k:Nat) (b:MS) (v:V) (M:Nat->Prop) (Q:Kv),St M b o v->(∀a,Kp (fun _=>False) b a->Q (.ok (.tup (tl o))) a)->Call (k+d+2) 51 0 [v] b Q
def EH (d:Nat)(l:O):Prop:=∀(k D w:Nat) (f:MS) (h g out:List V) (c:List (Nat×V)) (M:Nat->Prop) (Q:MS->Prop),St M f l (.tup g)->f[D]?=some (.list (h++g))->f[w]?=some (.list out)->M w->w≠D->out.length+g.length<1000000->(∀v,az 1953653104 v c=[(1953653104,v)])->(∀e,Kp (· =w) f e->e[w]?=some (.list (out++tl l))->Q e)->j0 (k+d+2) 1953653104 [] (.call (.val (.fn 51)) [.loc 1953653104]) w (.list D h.length) ⟨c,[]⟩ f Q
def IG (d:Nat)(l:O):Prop:=∀a,a∈l.keys->∃x,l.look a=some x/\x.nn=true/\IF d x/\(l.keys.zip (tl l)).lookup a=some (.tup (tl x))
theorem Mq(h:c[D]?=some (.list d)):next c (.list D i)=some (d[i]?.bind fun v=>some (v,.list D (i+1))):=by show(aC c (.loc D)).bind _=_;rw[b5 h];rfl
theorem tM(h:b[D]?=some (.list d)):aA b (.loc D)=some (.list D 0):=by show(b[D]?).bind _=_;rw[h];rfl
theorem mK(h:f[D]?=some (.list (g++[]))):next f (.list D g.length)=some none:=by rw[Mq h,cF,List.getElem?_eq_none (cc _)];rfl
theorem mL(h:e[D]?=some (.list (d++u::f))):next e (.list D d.length)=some (some (u,.list D (d++[u]).length)):=by rw[Mq h,JD,aK];rfl
theorem EH.nil (o:O)(e:tl o=[])(h:∀M b c,St M b o (.tup c)->c=[]):EH d o:=by intro k D w b m c out f M Q i hD j n p q l hq;cases h _ _ _ i;have n1:=mK hD;have hq:=hq b (Kp.refl _ _) (by rw[e,cF];exact j);refine eS l ?_;ktr_rel
theorem EH.cons(hx:IF d x)(hr:EH d r):EH d (.cons I x r):=by
 intro k D w y J U out z M Q K hD A B C F L hq;obtain⟨u,l,e,G,n⟩:=K;cases e;have n1:=mL hD;have F:out.length+(l.length+1)<1000000:=F;have N:out.length<1000000:=by exact cN (dn ..) (by assumption)
 refine eS L ?_;ktr_rel;refine hx k y u M _ G fun o p=>?_;have X:=b5 (p.at A id);ktr_rel;refine⟨N,?_⟩;have q:Kp (· =w) y (o.set w (.list (out++[.tup (tl x)]))):=(p.mono fun i _ h=>False.elim h).tr (Kp.set _ _ rfl);refine hr k D w _ (J++[u]) l (out++[.tup (tl x)]) _ M Q (St.mono q (fun i G n=>n.elim id fun e=>e▸B) _ n) ?_ (aq _ (p.at A id)) B C (by rw[aK];show out.length+1+_<_;rw[lb];assumption) (fun _=>rfl) fun v R g=>hq v (q.tr R) ?_
 ·rw[dU];exact q.at hD (ci C)
 ·rw[g,dU];rfl
theorem f0(h:V.tup a= .tup b):a=b:=by cases h;rfl
theorem yb:∀(l:O) (a:List (List Nat×V)) {b:List Nat} {x:O},a.map (·.1)=l.keys->St M g l (.tup (a.map (·.2)))->l.look b=some x->∃u,a.lookup b=some u/\St M g x u:=by intro l;induction l with
 |cons k y r _ i=>
  intro a b x hk d hl;obtain⟨u,n,e,j,m⟩:=d;cases a with
  |nil=>exact nomatch hk|cons p a=>
   have f:=(kr (f0 e));have c:=kr (show p.1::a.map (·.1)=k::r.keys from hk);have hl:(if b=k then some y else r.look b)=some x:=hl;rw[gZ];by_cases z:b=k
   ·rw[au z]at hl;cases hl;refine⟨u,?_,j⟩;rw[c.1,z,jK,<- f.1]
   ·rw[aH z]at hl;rw[c.1,beq_eq_false_iff_ne.mpr z];exact i a c.2 (f.2▸m) hl
 |_=>intro a b x hk d hl;exact bN hl
theorem IG.cons(f:x.nn=true)(hx:IF d x)(hr:IG d r):IG d (.cons a x r):=by
 intro y g;have c:(O.cons a x r).look y=if y=a then some x else r.look y:=rfl;have e:((O.cons a x r).keys.zip (tl (.cons a x r))).lookup y=match y==a with|true=>some (.tup (tl x))|false=>(r.keys.zip (tl r)).lookup y:=rfl;by_cases z:y=a
 ·rw[c,e,au z,beq_iff_eq.mpr z];exact⟨x,rfl,f,hx,rfl⟩
 ·rw[c,e,aH z,beq_eq_false_iff_ne.mpr z];exact hr y ((zC g).elim (fun h=>absurd h z) id)
theorem BN{E:Nat}(p3:IG d l)(hk:J.map (·.1)=l.keys)(mw:M w)(wD:w≠D)(wC:w≠C)(wE:w≠E):∀(K G:List (List Nat)) (out:List V) (m:MS) (n:List (Nat×V)),(∀x∈K,x∈l.keys)->St M m l (.tup (J.map (·.2)))->m[D]?=some (.list (G.map .str++K.map .str))->m[C]?=some (.cell (some (.loc E)))->m[E]?=some (.dictS J)->m[w]?=some (.list out)->out.length+K.length<1000000->(∀v,az 7955819 v n=[(7955819,v)])->(∀y,Kp (· =w) m y->y[w]?=some (.list (out++K.map fun k=>.tup [.str k,((l.keys.zip (tl l)).lookup k).casesOn .none id]))->Q y)->j0 (k+d+2) 7955819 [.cmp (.sub (.cell 435761734006) (.loc 7955819)) .isnot (.val .none)] (.tup [.loc 7955819,.call (.val (.fn 51)) [.sub (.cell 435761734006) (.loc 7955819)]]) w (.list D G.length) ⟨n,[(435761734006,C)]⟩ m Q
 | [],G,out,m,n,N,hs,hD,hC,hE,Y,ln,hv,hq=>by
  have n1:=mK hD;rw[b0]at n1;have hq:=hq m (Kp.refl _ _) (by rw[o9,cF];exact Y);refine eS hv ?_;ktr_rel|s::K,G,out,m,n,N,hs,hD,hC,hE,Y,ln,hv,hq=>by
  have n1:=mL hD;rw[b0,show G.map V.str++[V.str s]=(G++[s]).map V.str from(bZ (l₁:=G) (l₂:=[s])).symm,b0]at n1;obtain⟨x,l1,nn,hx,l2⟩:=p3 s (N s dR);obtain⟨u,l3,h3⟩:=yb l J hk hs l1;have g1:=Fh hE l3;have c1:bn ⟨[(7955819,V.str s)],[(435761734006,C)]⟩ 435761734006 m=_:=aD rfl hC;have e3:bc m .isnot u .none=some (!ni u):=rfl;rw[h3.isN,nn]at e3;have ln:out.length+(K.length+1)<1000000:=ln;have lo:out.length<1000000:=by exact cN (dn ..) (by assumption)
  refine eS hv ?_;ktr_rel;refine hx k m u M _ h3 fun ms1 k1=>?_;have a1:=b5 (k1.at Y id);ktr_rel;refine⟨lo,?_⟩;have U:Kp (· =w) m (ms1.set w (.list (out++[.tup [.str s,.tup (tl x)]]))):=(k1.mono fun i _ h=>False.elim h).tr (Kp.set _ _ rfl);refine BN p3 hk mw wD wC wE K (G++[s]) (out++[.tup [.str s,.tup (tl x)]]) _ _ (fun x h=>N x (eh _ h)) (St.mono U (fun i h1 h2=>h2.elim id fun e=>e▸mw) _ hs) ?_ (U.at hC (ci wC)) (U.at hE (ci wE)) (aq _ (k1.at Y id)) (by rw[aK];show out.length+1+_<_;rw[lb];assumption) (fun _=>rfl) fun y k' g=>hq y (U.tr k') ?_
  ·rw[bZ,dU];exact U.at hD (ci wD)
  ·rw[g,dU,iE,l2];rfl
theorem Bf(h:d[l]?=some (.dictS b))(n:b.length<64):iH d .sorted [.loc l]=some (.loc d.length,d++[.list ((bk (b.map (·.1))).map .str)]):=by show(d[l]?).bind _=_;rw[h];show Option.bind (if b.length<64 then some (b.map (·.1))else none) _=_;rw[au n];rfl
theorem D0(h:a[l]?=some (.list d)):fZ a .tuple [.loc l]=some (.tup d,a):=by show(aC a (.loc l)).bind _=_;rw[b5 h];rfl
theorem pZ(n:(x++y).length<=1000000):c8 ms .add (.tup x) (.tup y)=some (.tup (x++y),ms):=by show(if(x++y).length<=1000000 then some (V.tup (x++y),ms)else none)=_;exact au n
theorem J9:∀(l:O) {d:Nat},fq l d true->(tl l).length=l.keys.length:=by intro l;induction l with|nil=>exact fun _=>rfl|cons k x r _ a=>exact fun h=>congrArg (· +1) (a h.2.2)|arr=>exact fun h=>Bool.noConfusion h.1|dict=>exact fun h=>Bool.noConfusion h.1|_=>exact fun h=>Bool.noConfusion (show true=false from h)
theorem J2:∀(l:O) {d:Nat} {a:List V},fq l d true->St M i l (.tup a)->a.length=l.keys.length:=by intro l;induction l with
 |nil=>intro d a _ h;cases (f0 h);rfl|cons k x r _ b=>
  intro d a h g;obtain⟨u,c,e,_,f⟩:=g;cases (f0 e);exact congrArg (· +1) (b h.2.2 f)|arr=>exact fun h=>Bool.noConfusion h.1|dict=>exact fun h=>Bool.noConfusion h.1|_=>exact fun h=>Bool.noConfusion (show true=false from h)
theorem Kf(g:o.plain=true):IF d o:=by
 intro k f v M Q h hq;have hc:(f++[ah.cell (some v)])[f.length]?=some (.cell (some v)):=ag f _ [];have s:bn ⟨[],[(435761734006,f.length)]⟩ 435761734006 (f++[.cell (some v)])=_:=aD rfl hc;have t:bn ⟨[(1684957547,.str o.kind)],[(435761734006,f.length)]⟩ 435761734006 (f++[.cell (some v)])=_:=aD rfl hc;have l:St M (f++[.cell (some v)]) o v:=St.mono (Kp.app (fun _=>False) f _) (fun i _ h=>h.elim id False.elim) o h;have hq:=hq _ (Kp.app _ f [.cell (some v)]);have u:decide (o.kind=[97,114,114,97,121])=false:=by cases o<;>first|rfl|exact Bool.noConfusion g
 have w:decide (o.kind=[100,105,99,116])=false:=by cases o<;>first|rfl|exact Bool.noConfusion g
 have x:decide (o.kind=[115,116,114,101,97,109])=false:=by cases o<;>first|rfl|exact Bool.noConfusion g
 have n:∀Q:Kv,Q (.ok (.str o.kind)) (f++[.cell (some v)])->Call (k+d+1) 49 0 [v] (f++[.cell (some v)]) Q:=fun Q hq=>lV l (by cases o<;>first|rfl|exact Bool.noConfusion g) hq
 have q:∀Q:Kv,Q (.ok (.tup (tl o))) (f++[.cell (some v)])->Call (k+d+1) 50 0 [.str o.kind,v] (f++[.cell (some v)]) Q:=fun Q hq=>si l g hq
 clear l h
 refine gC (fn:=jc) rfl rfl ?_
 show pSs (k+d+1) jc.body ⟨[],[(435761734006,f.length)]⟩ (f++[.cell (some v)]) _
 ktr_rel
 refine n _ ?_
 ktr_rel
 refine q _ ?_
 exact hq
theorem Kc(o:EH d l)(hf:fq l d true)(hk:l.keys.length<900000):IF (d+1) (.arr l):=by
 intro k f v M Q h hq;obtain⟨A,⟨x,B,F,hx⟩,p⟩:=h;cases B;have hc:(f++[ah.cell (some (V.loc x))])[f.length]?=some (.cell (some (.loc x))):=ag f _ [];have m:=ai [ah.cell (some (.loc x))] hx;have G:bn ⟨[],[(435761734006,f.length)]⟩ 435761734006 (f++[.cell (some (.loc x))])=_:=aD rfl hc;have H:bn ⟨[(1684957547,.str [97,114,114,97,121])],[(435761734006,f.length)]⟩ 435761734006 (f++[.cell (some (.loc x))])=_:=aD rfl hc;have I:=tM m;have J:=bK hx;have C:(f++[ah.cell (some (.loc x))]).length=f.length+1:=aK;have r:Kp (fun _=>False) f ((f++[ah.cell (some (.loc x))])++[.list []]):=(Kp.app _ f _).tr (Kp.app _ _ _);refine gC (fn:=jc) rfl rfl ?_;show pSs (k+(d+1)+1) jc.body ⟨[],[(435761734006,f.length)]⟩ (f++[.cell (some (.loc x))]) _;ktr_rel;refine oq m ?_;ktr_rel;refine o k x (f++[ah.cell (some (.loc x))]).length _ [] A [] [] (fun i=>M i\/i=f.length+1) _ (St.mono r (fun i L o=>o.elim (fun h=>h.elim id fun e=>by lia) False.elim) _ p) (ai _ m) (ag _ _ []) (.inr C) (by lia) (by have:=J2 l hf p;rw[fm];lia) (fun _=>rfl) fun n w g=>?_;have N:=D0 g;have D:=J9 l hf;have P:=pZ (ms:=n) (x:=[.str [97,114,114,97,121]]) (y:=tl l) (by rw[aK,D];show 1+_<=_;lia);have hq:=hq n (r.fresh w fun i h=>by lia)
 clear p o hf r w;ktr_rel
theorem zU (c:List (List Nat))(l:List V):(uj c l).length=c.length:=(b0 _).trans (yu _)
theorem Ke(D:IG d l)(hk:l.keys.length<64):IF (d+1) (.dict l):=by
 intro k j v M Q h hq;obtain⟨w,⟨x,L,U,hx⟩,z,G⟩:=h;cases L;have hc:(j++[ah.cell (some (V.loc x))])[j.length]?=some (.cell (some (.loc x))):=ag j _ [];have r:=ai [ah.cell (some (.loc x))] hx;have X:bn ⟨[],[(435761734006,j.length)]⟩ 435761734006 (j++[.cell (some (.loc x))])=_:=aD rfl hc;have Y:bn ⟨[(1684957547,.str [100,105,99,116])],[(435761734006,j.length)]⟩ 435761734006 (j++[.cell (some (.loc x))])=_:=aD rfl hc;have Z:=bK hx;have lk:w.length=l.keys.length:=by rw[<- z,b0]
 have N:=Bf r (by lia);rw[z]at N;have H:(j++[ah.cell (some (.loc x))]).length=j.length+1:=aK;have I:=ag (j++[ah.cell (some (.loc x))]) (.list ((bk l.keys).map .str)) [];have i1:=tM I;have u:((j++[ah.cell (some (.loc x))])++[ah.list ((bk l.keys).map .str)]).length=j.length+2:=by rw[aK,H];rfl
 have A:Kp (fun _=>False) j (((j++[ah.cell (some (.loc x))])++[.list ((bk l.keys).map .str)])++[.list []]):=((Kp.app _ j _).tr (Kp.app _ _ _)).tr (Kp.app _ _ _)
 have P:(bk l.keys).length=l.keys.length:=yu _
 refine gC (fn:=jc) rfl rfl ?_
 show pSs (k+(d+1)+1) jc.body ⟨[],[(435761734006,j.length)]⟩ (j++[.cell (some (.loc x))]) _
 ktr_rel
 refine lU r ?_
 ktr_rel
 refine BN (M:=fun i=>M i\/i=j.length+2) (E:=x) (C:=j.length) D z (.inr u) (by rw[u,H];lia) (by rw[u];lia) (by rw[u];lia) (bk l.keys) [] [] _ [] (fun x h=>List.mem_mergeSort.mp h) (St.mono A (fun i h1 R=>R.elim (fun h=>h.elim id fun e=>by lia) False.elim) _ G) (ai _ I) (ai _ (ai _ hc)) (ai _ (ai _ r)) (ag _ _ []) (by rw[fm,P];lia) (fun _=>rfl) fun t K g=>?_
 have t1:=D0 g
 have a1:=pZ (ms:=t) (x:=[.str [100,105,99,116]]) (y:=uj l.keys (tl l)) (by rw[aK,zU];show 1+_<=_;lia)
 have hq:=hq t (A.fresh K fun i h=>by lia)
 clear G D A K
 ktr_rel
theorem D7 (o:O):(∀d,fq o d false->IF d o)/\∀d,fq o d true->EH d o/\(o.allNN->IG d o):=by induction o with
 |nil=>exact⟨fun d h=>Bool.noConfusion (show false=true from h),fun d h=>⟨EH.nil _ rfl fun M q s h=>f0 h,fun _ m hk=>absurd hk dq⟩⟩|cons k x r a b=>exact⟨fun d h=>Bool.noConfusion h.1,fun d h=>⟨EH.cons (a.1 d h.2.1) (b.2 d h.2.2).1,fun n=>IG.cons n.1 (a.1 d h.2.1) ((b.2 d h.2.2).2 n.2)⟩⟩|arr l g=>
  refine⟨fun d h=>?_,fun d h=>Bool.noConfusion h.1⟩;obtain⟨_,i,e,c,j⟩:=h;subst e;exact Kc (g.2 i c).1 c j|dict l g=>
  refine⟨fun d h=>?_,fun d h=>Bool.noConfusion h.1⟩;obtain⟨_,i,e,c,j,t,p⟩:=h;subst e;exact Ke ((g.2 i c).2 p) j|_=>exact⟨fun d _=>Kf rfl,fun d h=>Bool.noConfusion (show true=false from h)⟩
theorem sh(hf:fq o d false)(h:St M b o v)(hq:∀a,Kp (fun _=>False) b a->Q (.ok (.tup (tl o))) a):Call (k+d+2) 51 0 [v] b Q:=(D7 o).1 d hf k b v M Q h hq
noncomputable def O.items (o:O):List O:=o.rec [] (fun _=>[]) (fun _=>[]) (fun _ _=>[]) (fun _=>[]) (fun _ _=>[]) (fun _ _=>[]) (fun _ _=>[]) (fun _ _=>[]) [] fun _ x _ _ a=>x::a
noncomputable def O.get (l:O)(k:List Nat):O:=(l.look k).casesOn .null id
theorem O.items_get:∀(l:O) {d:Nat},fq l d true->l.keys.Nodup->l.keys.map l.get=l.items/\∀k∈l.keys,l.look k=some (l.get k):=by intro l;induction l with
 |nil=>exact fun _ _=>⟨rfl,fun _ h=>absurd h dq⟩|cons a x r _ j=>
  intro d h i;have i:=List.nodup_cons.mp (show(a::r.keys).Nodup from i);have j:=j h.2.2 i.2;have m:∀k,(O.cons a x r).look k=if k=a then some x else r.look k:=fun _=>rfl;have o:(O.cons a x r).get a=x:=by unfold O.get;rw[m,au rfl];rfl
  have p:∀k∈r.keys,(O.cons a x r).get k=r.get k:=fun k hk=>by
   unfold O.get;rw[m,aH fun e:k=a=>i.1 (e▸hk)]
  refine⟨?_,fun k hk=>?_⟩
  ·show(O.cons a x r).get a::r.keys.map (O.cons a x r).get=x::r.items;rw[o,uL p,j.1]
  ·rcases zC (show k∈a::r.keys from hk)with z|z
   ·rw[z,o,m,au rfl]
   ·rw[p k z,m,aH fun e:k=a=>i.1 (e▸z)];exact j.2 k z|arr=>exact fun h=>Bool.noConfusion h.1|dict=>exact fun h=>Bool.noConfusion h.1|_=>exact fun h=>Bool.noConfusion (show true=false from h)
theorem mh (a:List (List Nat)):(bk a).Perm a:=List.mergeSort_perm a _
theorem DS:∀(l:O) {d:Nat} {a:List V},fq l d true->St M c l (.tup a)->lg M c l.items a:=by intro l;induction l with
 |nil=>exact fun _ h=>h|cons k x r _ i=>
  intro d a h g;refine g.elim fun u j=>j.elim fun b m=>m.elim fun e n=>n.elim fun o p=>?_;exact⟨u,b,e,o,i h.2.2 p⟩|arr=>exact fun h=>Bool.noConfusion h.1|dict=>exact fun h=>Bool.noConfusion h.1|_=>exact fun h=>Bool.noConfusion (show true=false from h)
theorem xQ{E:Nat}(hk:G.map (·.1)=l.keys)(hg:∀k∈l.keys,l.look k=some (l.get k))(mw:M w)(wD:w≠D)(wC:w≠C)(wE:w≠E):∀(H B:List (List Nat)) (out:List V) (f:MS) (j:List (Nat×V)),(∀x∈H,x∈l.keys)->St M f l (.tup (G.map (·.2)))->f[D]?=some (.list (B.map .str++H.map .str))->f[C]?=some (.cell (some (.loc E)))->f[E]?=some (.dictS G)->f[w]?=some (.list out)->out.length+H.length<1000000->(∀v,az 7955819 v j=[(7955819,v)])->(∀o L,Kp (· =w) f o->lg M o (H.map l.get) L->o[w]?=some (.list (out++L))->Q o)->j0 k 7955819 [] (.sub (.cell 435761734006) (.loc 7955819)) w (.list D B.length) ⟨j,[(435761734006,C)]⟩ f Q
 | [],B,out,f,j,I,Y,hD,hC,Z,P,ln,hv,hq=>by
  have n1:=mK hD;rw[b0]at n1;have hq:=hq f [] (Kp.refl _ _) rfl (by rw[cF];exact P);refine eS hv ?_;ktr_rel|s::H,B,out,f,j,I,Y,hD,hC,Z,P,ln,hv,hq=>by
  have n1:=mL hD;rw[b0,show B.map V.str++[V.str s]=(B++[s]).map V.str from(bZ (l₁:=B) (l₂:=[s])).symm,b0]at n1;obtain⟨u,l3,h3⟩:=yb l G hk Y (hg s (I s dR));have g1:=Fh Z l3;have c1:bn ⟨[(7955819,V.str s)],[(435761734006,C)]⟩ 435761734006 f=_:=aD rfl hC;have ln:out.length+(H.length+1)<1000000:=ln;have lo:out.length<1000000:=by exact cN (dn ..) (by assumption)
  have a1:=b5 P;have J:Kp (· =w) f (f.set w (.list (out++[u]))):=Kp.set _ _ rfl;have ss:∀i,i<f.length->M i\/i=w->M i:=fun i h1 h2=>h2.elim id fun e=>e▸mw;refine eS hv ?_;refine aj.mk _ n1 ?_;refine a9.pos rfl ?_;refine aj.mk _ c1 ?_;refine aj.mk _ g1 ?_;refine aj.mk _ a1 ?_;refine⟨lo,?_⟩;refine xQ hk hg mw wD wC wE H (B++[s]) (out++[u]) _ _ (fun x h=>I x (eh _ h)) (St.mono J ss _ Y) ?_ (J.at hC (ci wC)) (J.at Z (ci wE)) (aq _ P) (by rw[aK];show out.length+1+_<_;rw[lb];assumption) (fun _=>rfl) fun o L k' hs' g=>hq o (u::L) (J.tr k') ⟨u,L,rfl,St.mono (J.tr k') ss _ h3,hs'⟩ ?_
  ·rw[bZ,dU];exact J.at hD (ci wD)
  ·rw[g,dU];rfl
theorem J5(h:b[l]?=some (.list e)):fZ b .list [.loc l]=some (.loc b.length,b++[.list e]):=by show(b[l]?).bind _=_;rw[h];rfl
theorem FP(hf:fq (.arr l) d false)(h:St M c (.arr l) v)(hq:∀j P m,Kp (fun _=>False) c j->lg M j l.items m->j[P]?=some (.list m)->c.length<=P->Q (.ok (.loc P)) j):Call (k+2) 52 0 [v] c Q:=by
 obtain⟨m,⟨x,u,C,hx⟩,s⟩:=h;refine hf.elim fun _ w=>w.elim fun D y=>y.elim fun _ z=>z.elim fun hf _=>?_;cases u;have hc:(c++[ah.cell (some (V.loc x))])[c.length]?=some (.cell (some (.loc x))):=ag c _ [];have o:=ai [ah.cell (some (.loc x))] hx;have F:bn ⟨[],[(435761734006,c.length)]⟩ 435761734006 (c++[.cell (some (.loc x))])=_:=aD rfl hc;have G:bn ⟨[(1684957547,.str [97,114,114,97,121])],[(435761734006,c.length)]⟩ 435761734006 (c++[.cell (some (.loc x))])=_:=aD rfl hc;have H:=J5 o;have q:Kp (fun _=>False) c ((c++[ah.cell (some (.loc x))])++[.list m]):=(Kp.app _ c _).tr (Kp.app _ _ _);have hq:=hq _ _ m q (St.mono q (fun i _ h=>h.elim id False.elim) _ (DS l hf s)) (ag _ _ []) (by rw[aK];exact dn ..)
 clear s hf q;refine gC (fn:=d6) rfl rfl ?_;show pSs (k+1) d6.body ⟨[],[(435761734006,c.length)]⟩ (c++[.cell (some (.loc x))]) _;ktr_rel;refine oq o ?_;ktr_rel
theorem FQ(hf:fq (.dict l) d false)(h:St M f (.dict l) v)(hq:∀m P B,Kp (fun _=>False) f m->lg M m ((bk l.keys).map l.get) B->m[P]?=some (.list B)->f.length<=P->Q (.ok (.loc P)) m):Call (k+2) 52 0 [v] f Q:=by
 obtain⟨D,⟨x,R,nx,hx⟩,F,I⟩:=h;obtain⟨_,d',_,hf,hk,J,_⟩:=hf;cases R;have U:=(O.items_get l hf J).2;have hc:(f++[ah.cell (some (V.loc x))])[f.length]?=some (.cell (some (.loc x))):=ag f _ [];have s:=ai [ah.cell (some (.loc x))] hx;have c0:bn ⟨[],[(435761734006,f.length)]⟩ 435761734006 (f++[.cell (some (.loc x))])=_:=aD rfl hc;have c1:bn ⟨[(1684957547,.str [100,105,99,116])],[(435761734006,f.length)]⟩ 435761734006 (f++[.cell (some (.loc x))])=_:=aD rfl hc;have lx:=bK hx;have lk:D.length=l.keys.length:=by rw[<- F,b0]
 have X:=Bf s (by lia);rw[F]at X;have K:(f++[ah.cell (some (.loc x))]).length=f.length+1:=aK;have L:=ag (f++[ah.cell (some (.loc x))]) (.list ((bk l.keys).map .str)) [];have i1:=tM L;have w:((f++[ah.cell (some (.loc x))])++[ah.list ((bk l.keys).map .str)]).length=f.length+2:=by rw[aK,K];rfl
 have G:Kp (fun _=>False) f (((f++[ah.cell (some (.loc x))])++[.list ((bk l.keys).map .str)])++[.list []]):=((Kp.app _ f _).tr (Kp.app _ _ _)).tr (Kp.app _ _ _)
 have Y:(bk l.keys).length=l.keys.length:=yu _
 clear hf J
 refine gC (fn:=d6) rfl rfl ?_
 show pSs (k+1) d6.body ⟨[],[(435761734006,f.length)]⟩ (f++[.cell (some (.loc x))]) _
 ktr_rel
 refine lU s ?_
 ktr_rel
 refine xQ (M:=fun i=>M i\/i=f.length+2) (E:=x) (C:=f.length) F U (.inr w) (by rw[w,K];lia) (by rw[w];lia) (by rw[w];lia) (bk l.keys) [] [] _ [] (fun x h=>List.mem_mergeSort.mp h) (St.mono G (fun i h1 Z=>Z.elim (fun h=>h.elim id fun e=>by lia) False.elim) _ I) (ai _ L) (ai _ (ai _ hc)) (ai _ (ai _ s)) (ag _ _ []) (by rw[fm,Y];lia) (fun _=>rfl) fun m B N A g=>?_
 have hq:=hq m _ B (G.fresh N fun i h=>by lia) (St.mono (Kp.refl (fun _=>False) m) (fun i _ h=>h.elim .inl False.elim) _ A) g (by rw[w];exact dn ..)
 clear I A G N
 ktr_rel
noncomputable def dp (o:O):Nat->Nat:=o.rec (fun _=>0) (fun _ _=>0) (fun _ _=>0) (fun _ _ _=>0) (fun _ _=>0) (fun _ _ _=>0) (fun _ _ _=>0) (fun _ b a=>max (b (a+1)) (a+1)) (fun _ b a=>max (b (a+1)) (a+1)) (fun _=>0) fun _ _ _ c d a=>max (c a) (d a)
noncomputable def sz (o:O):Nat:=o.rec 1 (fun _=>1) (fun _=>1) (fun _ _=>1) (fun _=>1) (fun _ _=>1) (fun _ _=>1) (fun _ n=>n+1) (fun _ n=>n+1) 0 fun _ _ _ n m=>n+m
noncomputable def Ad (a D:Nat)(b:List O):Nat:=b.foldr (fun x D=>max (dp x a) D) D
noncomputable def sg (a:List O):Nat:=a.foldr (fun x n=>sz x+n) 0
theorem qw:∀(l:O) {d:Nat} (a D:Nat),fq l d true->Ad a D l.items=max (dp l a) D/\sg l.items=sz l:=by
 intro l;induction l with
 |nil=>exact fun a D _=>⟨(Nat.zero_max D).symm,rfl⟩|cons k x r _ b=>
  intro d a D h;have b:=b a D h.2.2;refine⟨?_,congrArg (sz x+ ·) b.2⟩;show max (dp x a) (Ad a D r.items)=max (max (dp x a) (dp r a)) D;rw[b.1,Nat.max_assoc]|arr=>exact fun _ _ h=>Bool.noConfusion h.1|dict=>exact fun _ _ h=>Bool.noConfusion h.1|_=>exact fun _ _ h=>Bool.noConfusion (show true=false from h)
theorem DY(h:e.Perm f)(a:Nat):∀D,Ad a D e=Ad a D f/\sg e=sg f:=by induction h with
 |nil=>exact fun _=>⟨rfl,rfl⟩|cons x _ g=>exact fun D=>⟨congrArg (max (dp x a)) (g D).1,congrArg (sz x+ ·) (g D).2⟩|swap x y l=>
  intro D;exact⟨Nat.max_left_comm ..,Nat.add_left_comm ..⟩|trans _ _ c d=>exact fun D=>⟨(c D).1.trans (d D).1,(c D).2.trans (d D).2⟩
def LD (c:List (Nat×V)):Prop:=∃b,(∀h a,az 435778708065 a (az 1701995880 h c)=(1701995880,h)::(435778708065,a)::b)/\∀p,az 1953653104 p b=[(1953653104,p)]
noncomputable abbrev y4 (a:V)(D L:Nat)(b:List (Nat×V)):MF:=⟨(435761734006,a)::(32777976813020516,.int D)::(1701734764,.loc L)::b,[]⟩
noncomputable abbrev sj (a:Nat)(u:V):V:=.tup [u,.int a]
def AN (o:O):Prop:=∀(k:Nat) (f:MS) (M:Nat->Prop) (D L a d:Nat) (h v:V) (g:List V) (i:List (Nat×V)) (Q:Ks),fq o d false->St M f o v->M L->f[L]?=some (.list (g++[sj a v]))->g.length+sz o<900000->LD i->(∀b e,Kp (· =L) f b->b[L]?=some (.list g)->LD e->aV (k+2) bf be (y4 h (max (dp o a) D) L e) b Q)->aV (k+2) bf be (y4 h D L i) f Q
theorem yg(h:b[l]?=some (.list d)):cD b (.loc l)=some !d.isEmpty:=by show(aC b (.loc l)).bind _=_;rw[b5 h];rfl
theorem Il(v:M L):∀(l:List O) (t j:List V) (m:MS) (p:List (Nat×V)),(∀x∈l,AN x/\fq x d false)->lg M m l t->m[L]?=some (.list (j++t.map (sj a)))->j.length+sg l<900000->LD p->(∀o r,Kp (· =L) m o->o[L]?=some (.list j)->LD r->aV (k+2) bf be (y4 P (Ad a D l) L r) o Q)->(∀x∈l,1<=sz x)->aV (k+2) bf be (y4 P D L p) m Q
 | [],t,j,m,p,w,z,h,A,B,hq,hz=>by
  cases f0 z;exact hq m p (Kp.refl _ _) (by rw[o9,cF]at h;exact h) B|x::l,t,j,m,p,w,z,h,A,B,hq,hz=>by
  obtain⟨u,C,e,Y,Z⟩:=z;cases f0 e;have A:j.length+(sz x+sg l)<900000:=A;have hx:=w x dR;have z1:=hz x dR;refine Il v l C (j++[sj a u]) m p (fun y F=>w y (eh _ F)) Z (by rw[dU];exact h) (by rw[aK];show j.length+1+_<_;lia) B (fun G H R g1 I=>?_) fun y F=>hz y (eh _ F);exact hx.1 k G M _ L a d P u j H Q hx.2 (St.mono R (fun i _ h=>h.elim id fun e=>e▸v) _ Y) v g1 (by lia) I fun J K k2 g2 N=>hq J K (R.tr k2) g2 N
theorem Dv{H:List (Nat×V)}(G:L≠P)(I:∀p,az 1953653104 p H=[(1953653104,p)]):∀(w x o:List V) (s:MS) (c:List (Nat×V)),(∀p,az 1953653104 p c=[(1953653104,p)])->s[P]?=some (.list (x++w))->s[L]?=some (.list o)->o.length+w.length<1000000->(∀j c,Kp (· =L) s j->j[L]?=some (.list (o++w.map (sj (a+1))))->(∀p,az 1953653104 p c=[(1953653104,p)])->Q .next (y4 A D L ((1701995880,B)::(435778708065,.int a)::c)) j)->mP (k+2) fC fB (.list P x.length) (y4 A D L ((1701995880,B)::(435778708065,.int a)::c)) s Q
 | [],x,o,s,c,v,hP,y,C,hq=>by
  have n1:=mK hP;have hq:=hq s c (Kp.refl _ _) (by rw[o9,cF];exact y) v;refine jI ?_;ktr_rel|u::w,x,o,s,c,v,hP,y,C,hq=>by
  have n1:=mL hP;have C:o.length+(w.length+1)<1000000:=C;have N:=fK y;have R:=fx (sj (a+1) u) y (by exact cN (dn ..) (by assumption));refine ry (n:=1953653104) (f:=fun p=>y4 A D L ((1701995880,B)::(435778708065,.int a)::[(1953653104,p)])) (fun p=>congrArg (fun q=>y4 A D L ((1701995880,B)::(435778708065,.int a)::q)) (v p)) ?_;ktr_rel;refine Dv G I w (x++[u]) (o++[sj (a+1) u]) _ _ (fun _=>rfl) (by rw[dU];exact aW _ G hP) (aq _ y) (by rw[aK];show o.length+1+_<_;rw[lb];assumption) fun j c K g F=>hq j c ((Kp.set (P:=(· =L)) _ _ rfl).tr K) (by rw[g,dU];rfl) F
theorem DZ:∀{o:O} {d:Nat},fq o d false->1<=sz o:=by intro o d h;cases o with|nil=>exact Bool.noConfusion (show false=true from h)|cons=>exact Bool.noConfusion h.1|arr=>exact jv _|dict=>exact jv _|_=>exact cc 1
noncomputable def OR:List S:=[.ite (.cmp (.call (.val (.fn 49)) [.loc 1701995880]) .isin (.tup [.val (.str [97,114,114,97,121]),.val (.str [100,105,99,116]),.val (.str [115,116,114,101,97,109])])) [.assign (.loc 32777976813020516) (.call (.val (.bi .max)) [.loc 32777976813020516,.bin .add (.loc 435778708065) (.val (.int 1))]),.for fC (.call (.val (.fn 52)) [.loc 1701995880]) fB] []]
noncomputable abbrev OS (k:Nat)(Q:Ks):Ks:=jY Q fun a b=>aV (k+2) bf be a b Q
theorem BO{k:Nat}{ms:MS}{D L a:Nat}{v0 v:V}{st:List V}{vs vs':List (Nat×V)}{Q:Ks}(h:ms[L]?=some (.list (st++[sj a v])))(lv:∀h a,az 435778708065 a (az 1701995880 h vs)=(1701995880,h)::(435778708065,a)::vs') (hq:pSs (k+2) OR (y4 v0 D L ((1701995880,v)::(435778708065,.int a)::vs')) (ms.set L (.list st)) (OS k Q)):aV (k+2) bf be (y4 v0 D L vs) ms Q:=by have t1:=yg h;rw[kE]at t1;have l1:=CS h;have l2:=Bo h;refine bu ?_;refine aj.mk _ t1 ?_;refine a9.pos rfl ?_;refine aj.mk _ l1 ?_;refine aj.mk _ l2 ?_;refine And.intro rfl ?_;show pSs (k+2) OR (y4 v0 D L (az 435778708065 (.int a) (az 1701995880 v vs))) (ms.set L (.list st)) (OS k Q);rw[lv];exact hq
theorem JO(r:o.plain=true):AN o:=by
 intro k m M D L a d H v p I Q hf s x h J y hq;obtain⟨j,z,t⟩:=y;have A:dp o a=0:=by cases o<;>first|rfl|exact Bool.noConfusion r
 have u:Kp (· =L) m (m.set L (.list p)):=Kp.set _ _ rfl;have hq:=hq _ ((1701995880,v)::(435778708065,.int a)::j) u (aq _ h) ⟨j,fun _ _=>rfl,t⟩;rw[A,Nat.zero_max]at hq;have q:St M (m.set L (.list p)) o v:=St.mono u (fun i _ h=>h.elim id fun e=>e▸x) o s;have C:∀Q:Kv,Q (.ok (.str o.kind)) (m.set L (.list p))->Call (k+2) 49 0 [v] (m.set L (.list p)) Q:=fun Q hq=>lV q hf.val hq;have w:(decide ([97,114,114,97,121]=o.kind)||(decide ([100,105,99,116]=o.kind)||(decide ([115,116,114,101,97,109]=o.kind)||false)))=false:=by cases o<;>first|rfl|exact Bool.noConfusion r
 have F:bc (m.set L (.list p)) .isin (.str o.kind) (.tup [.str [97,114,114,97,121],.str [100,105,99,116],.str [115,116,114,101,97,109]])=some (decide ([97,114,114,97,121]=o.kind)||(decide ([100,105,99,116]=o.kind)||(decide ([115,116,114,101,97,109]=o.kind)||false))):=rfl;rw[w]at F
 clear s q hf t w;refine BO (vs':=j) h z ?_;ktr_rel;refine C _ ?_;ktr_rel
theorem Oc (a b:Nat)(d:MS):iH d .max [.int a,.int b]=some (.int (max a b:Nat),d):=by
 have:(max (a:Int) (b:Int))=((max a b:Nat):Int):=by omega
 exact congrArg (fun i=>some (V.int i,d)) this
theorem xD:∀(b:List O),(∀x∈b,1<=sz x)->b.length<=sg b
 | [],_=>cc _|x::b,h=>by
  have:=xD b fun y c=>h y (eh _ c);have:=h x dR;show b.length+1<=sz x+sg b;lia
theorem Du(hk:o.kind=[97,114,114,97,121]\/o.kind=[100,105,99,116])(hx:∀x∈xs,AN x/\fq x d false)(hz:sg xs+1=sz o)(hf:fq o (d+1) false){l:List V}(s:Ad (a+1) (max D (a+1)) xs=max (dp o a) D) (K:∀(j:MS) (Q:Kv),St M j o v->(∀f P p,Kp (fun _=>False) j f->lg M f xs p->f[P]?=some (.list p)->j.length<=P->Q (.ok (.loc P)) f)->Call (k+2) 52 0 [v] j Q) (R:St M j o v) (z:M L) (h:j[L]?=some (.list (l++[sj a v]))) (hn:l.length+sz o<900000) (lv:LD vs) (hq:∀f m,Kp (· =L) j f->f[L]?=some (.list l)->LD m->aV (k+2) bf be (y4 v0 (max (dp o a) D) L m) f Q):aV (k+2) bf be (y4 v0 D L vs) j Q:=by
 obtain⟨m,e1,U⟩:=lv;have X:Kp (· =L) j (j.set L (.list l)):=Kp.set _ _ rfl;have Y:(j.set L (.list l))[L]?=some (.list l):=aq _ h;have r:St M (j.set L (.list l)) o v:=St.mono X (fun i _ h=>h.elim id fun e=>e▸z) o R;have s1:∀Q:Kv,Q (.ok (.str o.kind)) (j.set L (.list l))->Call (k+2) 49 0 [v] (j.set L (.list l)) Q:=fun Q hq=>lV r hf.val hq;have s2:∀Q:Kv,(∀f P p,Kp (fun _=>False) (j.set L (.list l)) f->lg M f xs p->f[P]?=some (.list p)->(j.set L (.list l)).length<=P->Q (.ok (.loc P)) f)->Call (k+2) 52 0 [v] (j.set L (.list l)) Q:=fun Q hq=>K _ Q r hq;have q1:(decide ([97,114,114,97,121]=o.kind)||(decide ([100,105,99,116]=o.kind)||(decide ([115,116,114,101,97,109]=o.kind)||false)))=true:=by rcases hk with h|h<;>rw[h]<;>rfl
 have c1:bc (j.set L (.list l)) .isin (.str o.kind) (.tup [.str [97,114,114,97,121],.str [100,105,99,116],.str [115,116,114,101,97,109]])=some (decide ([97,114,114,97,121]=o.kind)||(decide ([100,105,99,116]=o.kind)||(decide ([115,116,114,101,97,109]=o.kind)||false))):=rfl;rw[q1]at c1;have m1:iH (j.set L (.list l)) .max [.int D,.int ((a:Int)+1)]=some (.int (max D (a+1):Nat),j.set L (.list l)):=Oc D (a+1) _
 clear R hf q1 K r;refine BO (vs':=m) h e1 ?_;ktr_rel;refine s1 _ ?_;ktr_rel;refine s2 _ fun A P p k2 u hP leP=>?_;have i1:=tM hP;have nP:L≠P:=by have:=bK Y;lia
 ktr_rel;have lu:=u.len;have lx:xs.length<=sg xs:=xD xs fun x h=>DZ (hx x h).2;refine Dv (a:=a) (D:=max D (a+1)) nP U p [] l A m U hP (k2.at Y id) (by lia) fun w B k3 g3 C=>?_;have F:Kp (· =L) (j.set L (.list l)) w:=(k2.mono fun i _ h=>False.elim h).tr k3;exact Il (a:=a+1) (d:=d) z xs p l w _ hx (St.mono k3 (fun i _ h=>h.elim id fun e=>e▸z) _ u) g3 (by lia) ⟨B,fun _ _=>rfl,C⟩ (fun G H k4 g4 I=>by rw[s];exact hq G H ((X.tr F).tr k4) g4 I) fun x J=>DZ (hx x J).2
theorem qf:∀(l:O) {d:Nat},fq l d true->∀x∈l.items,fq x d false:=by intro l;induction l with|nil=>exact fun _ _ h=>absurd h dq|cons k x r _ a=>exact fun h y b=>(zC b).elim (fun e=>e▸h.2.1) (a h.2.2 y)|arr=>exact fun h=>Bool.noConfusion h.1|dict=>exact fun h=>Bool.noConfusion h.1|_=>exact fun h=>Bool.noConfusion (show true=false from h)
theorem Dt (o:O):AN o/\∀x∈o.items,AN x:=by induction o with
 |nil=>exact⟨fun k n M D L a d p v q t Q hf=>Bool.noConfusion (show false=true from hf),fun _ h=>absurd h dq⟩|cons k x r u w=>exact⟨fun k n M D L a d p v q t Q hf=>Bool.noConfusion hf.1,fun y H=>(zC H).elim (fun e=>e▸u.1) (w.2 y)⟩|arr l z=>
  refine⟨fun k n M D L a d p v q t Q hf g A h B C hq=>?_,fun _ h=>absurd h dq⟩;have c:=hf;obtain⟨_,I,e,m,J⟩:=hf;subst e;have s:=qw l (a+1) (max D (a+1)) m;refine Du (xs:=l.items) (.inl rfl) (fun x hx=>⟨z.2 x hx,qf l m x hx⟩) (congrArg (· +1) s.2) c ?_ (fun n Q g hq=>FP c g hq) g A h B C hq;rw[s.1];exact(congrArg (max _) (Nat.max_comm ..)).trans (Nat.max_assoc ..).symm|dict l z=>
  refine⟨fun k n M D L a d p v q t Q hf g A h B C hq=>?_,fun _ h=>absurd h dq⟩;have c:=hf;obtain⟨_,I,e,m,J,nd,_⟩:=hf;subst e;have s:=qw l (a+1) (max D (a+1)) m;have ig:=(O.items_get l m nd).1;have F:((bk l.keys).map l.get).Perm l.items:=ig▸ (mh l.keys).map l.get;have G:=DY F (a+1) (max D (a+1));refine Du (xs:=(bk l.keys).map l.get) (.inr rfl) (fun x hx=>⟨z.2 x (F.mem_iff.mp hx),qf l m x (F.mem_iff.mp hx)⟩) (congrArg (· +1) (G.2.trans s.2)) c ?_ (fun n Q g hq=>FQ c g hq) g A h B C hq;rw[G.1,s.1];exact(congrArg (max _) (Nat.max_comm ..)).trans (Nat.max_assoc ..).symm|_=>exact⟨JO rfl,fun _ h=>absurd h dq⟩
theorem vB(y:∀i,M i->i<c.length)(hf:fq o d false)(q:St M c o v)(hz:sz o<900000)(hq:∀g,Kp (fun _=>False) c g->Q (.ok (.int (dp o 0))) g):Call (k+3) 53 0 [v] c Q:=by have m:Kp (fun _=>False) c (c++[.list [sj 0 v]]):=Kp.app _ _ _;refine ar (fn:=j5) rfl rfl rfl ?_;ktr_rel;refine(Dt o).1 k _ (fun i=>M i\/i=c.length) 0 c.length 0 d v v [] [] _ hf (St.mono m (fun i B s=>s.elim (fun h=>h.elim id fun e=>by lia) False.elim) _ q) (.inr rfl) (ag c _ []) (by rw[fm];exact pc (by assumption) _) ⟨[],fun _ _=>rfl,fun _=>rfl⟩ fun j t u w x=>?_;have C:=yg w;have hq:=hq j (m.fresh u fun i h=>iG h.symm);rw[Nat.max_zero];refine bu ?_;ktr_rel
noncomputable def KZ (x:yS):Nat:=x.casesOn (fun _=>0) fun s=>s.casesOn (fun q=>q.2.length) fun q=>q.2.length
theorem Im (a:List Fr)(x:O)(r:List UInt8):KZ (jm a x r)=r.length:=by cases a<;>rfl
theorem J3 (d:List Fr)(t:Tok)(m:Nat)(r:List UInt8):KZ (bG d t m r)<=r.length:=by
 have i:∀a,KZ (bX d a m r)<=r.length:=fun a=>by
  unfold bX;cases decide (d.length=40)with
  |true=>exact jw _|false=>exact cc _
 have j:∀a,KZ (cU d a m r)<=r.length:=fun a=>by
  cases d with
  |nil=>exact jw _|cons f d=>
   show KZ (Option.casesOn (motive:=fun _=>yS) (f.close a) (.error m) fun o=>jm d o r)<=_;cases f.close a with
   |none=>exact jw _|some o=>exact iG (Im d o r)
 unfold bG;cases (dY d&&!t.isName&&!isSg t [62,62])with|true=>exact jw _|false=>
  cases isSg t [91]with
  |true=>exact i true|false=>
   cases isSg t [60,60]with|true=>exact i false|false=>
    cases isSg t [93]with
    |true=>exact j true|false=>
     cases isSg t [62,62]with|true=>exact j false|false=>
      show KZ (bI d t m r)<=_;unfold bI;cases q:pv t r with|none=>exact jw _|some k=>exact bR (iG (Im d k.1 k.2)) (rT q).length_le
theorem kW (a:List Fr)(m:Nat)(r:List UInt8):bG a .fin m r= .error m:=by unfold bG;cases dY a<;>rfl
theorem rX:∀(n:Nat) (b:List Fr) (r:List UInt8) {o:O} {a:List UInt8},run n b (aG false r)= .ok (o,a)->a.length+1<=r.length
 |0,b,r,o,a,h=>bW h|n+1,b,r,o,a,h=>by
  have f:run (n+1) b (aG false r)=tO (dW (aG false r)) fun t a=>fg (run n) b t (aG false r).length a:=rfl;rw[f]at h;refine yv (dW (aG false r)) ?_ ?_
  ·intro z q;rw[q]at h;exact bW h
  ·intro x q;obtain⟨t,c⟩:=x;rw[q]at h;have h:fg (run n) b t (aG false r).length c= .ok (o,a):=h;unfold fg at h;have d:=J3 b t (aG false r).length c;rcases nj q with z|z
   ·subst z;rw[kW]at h;exact bW h
   ·refine yv (bG b t (aG false r).length c) ?_ ?_
    ·intro z e;rw[e]at h;exact bW h
    ·intro x e;rw[e]at h d;cases x with
     |inl x=>
      have h:x=(o,a):=cS h;subst h;have d:a.length<=c.length:=d;exact cN (by assumption) (by assumption)|inr x=>
      have h:run n x.1 (aG false x.2)= .ok (o,a):=h;have d:x.2.length<=c.length:=d;have:=rX n x.1 x.2 h;lia
noncomputable def vD (o:O)(s:List UInt8):Except Nat O:=s.casesOn (.ok o) fun _ t=>.error (t.length+1)
noncomputable def dO (b:List UInt8):Except Nat O:=(run (b.length+2) [] (aG false b)).casesOn .error fun q=>vD q.1 (aG false q.2)
noncomputable def fh (N n:Nat):List UInt8->Except Nat (List O):=n.rec (fun _=>.ok []) fun _ b s=>s.casesOn (.ok []) fun c t=>(run N [] (aG false (c::t))).casesOn .error fun q=>(b (aG false q.2)).casesOn .error fun l=>.ok (q.1::l)
theorem ue (b:List UInt8):aE b b.length 0 b:=⟨cc _,by rw[List.take_length];rfl,iF _⟩
theorem xw (a:MS)(hq:Q (.ok .none) (a++[aT b (0:Nat) b.length])):Call (k+1) 11 1 [.loc a.length,.bytes b] (a++[.inst 11 []]) Q:=by have j:=cX a 1635017060 11 [] (.bytes b) ⟨rfl,iP rfl,aP rfl⟩;have l:=cX a 29793 11 [(1635017060,.bytes b)] (.int 0) ⟨rfl,iP rfl,aP rfl⟩;have m:=cX a 6581861 11 [(1635017060,.bytes b),(29793,.int 0)] (.int b.length) ⟨rfl,iP rfl,aP rfl⟩;refine ar (fn:=eA) rfl rfl rfl ?_;ktr_rel
theorem dP (f:ky b)(hq:∀x,dO b=x->match x with| .error m=>∀a,Kp (fun _=>False) d a->Q (.error ((b.length:Int)-m)) a| .ok o=>∀a v,Kp (fun _=>False) d a->St (· <d.length) a o v->Q (.ok v) a):Call (k+8) 65 0 [.bytes b] d Q:=by
 have P:=ag d (aT b (0:Nat) b.length) [];have U:(d++[aT b (0:Nat) b.length]).length=d.length+1:=aK;have u:Kp (fun _=>False) d (d++[aT b (0:Nat) b.length]):=Kp.app _ _ _;have e:dO b=(run (b.length+2) [] (aG false b)).casesOn .error fun q=>vD q.1 (aG false q.2):=rfl;have s:∀R:Kv,(∀z a,R (.error z) a ↔ Q (.error z) a)->(∀v a (w:Nat) o y,run (b.length+2) [] (aG false b)= .ok (o,y)->Kp (fun _=>False) d a->a[d.length]?=some (aT b w b.length)->aE b b.length w y->St (· <d.length+1) a o v->R (.ok v) a)->Call (k+7) 64 0 [.loc d.length] (d++[aT b (0:Nat) b.length]) R:=by
  intro R h1 h2;refine gu (n:=b.length+1) f P (ue b) (uM _) ?_;cases q:run (b.length+2) [] (aG false b)with
  |error m=>
   rw[q]at e;exact fun a C=>(h1 _ _).mpr (hq _ e a (u.fresh C fun i h=>iG h.symm))|ok x=>
   obtain⟨o,y⟩:=x;exact fun a w v C h' D hs=>h2 v a w o y q (u.fresh C fun i h=>iG h.symm) h' D (U▸hs)
 refine ar (fn:=hZ) rfl rfl rfl ?_;ktr_rel;refine xw d ?_;ktr_rel;refine s _ (fun z a=>Iff.rfl) fun v r p1 o L q F G H l=>?_;rw[q]at e;have e:dO b=vD o (aG false L):=e;have l1:=lH G;ktr_rel;refine cM G H fun I p=>?_;have J:=aq (aT b (I:Nat) b.length) G;have l2:=j4 J;have l3:=bA J;have A:Kp (· =d.length) r (r.set d.length (aT b (I:Nat) b.length)):=Kp.set _ _ rfl;have B:=F.fresh A fun i h=>iG h.symm;ktr_rel;refine d8 J p ?_;cases z:aG false L with
 |nil=>
  rw[z]at e;have hq:=hq _ e _ v B (St.mono A (fun i _ h=>by lia) _ l)
  clear e s l u F A B;ktr_rel|cons c t=>
  rw[z]at e p;have hq:=hq _ e _ B;have N:(I:Int)=(b.length:Int)-((t.length+1:Nat):Int):=by have:=p.ln;rw[fj]at this;lia
  rw[<- N]at hq
  clear e s l u F A B N
  ktr_rel
def HG (l F e:Nat)(M:Nat->Prop)(d:MS)(Q:Ks)(h:List O)(x:Except Nat (List O)):Prop:=match x with| .error m=>∀a c,Kp (o0 l F) d a->Q (.error ((e:Int)-m)) c a| .ok j=>∀a c f,Kp (o0 l F) d a->a[F]?=some (.list f)->lg M a (h++j) f->c.vars.lookup 431349919590=some (.loc F)->Q (.ok .next) c a
theorem Ku (f:ky b)(hN:b.length+1<N)(ml:M l)(mF:M F)(lF:l≠F):∀(n:Nat) (s:List UInt8) (j:MS) (p:Nat) (r:List V) (w:List O),s.length<=n->(∀i,M i->i<j.length)->j[l]?=some (aT b p b.length)->aE b b.length p s->j[F]?=some (.list r)->lg M j w r->r.length+s.length<1000000->(∀x,fh N n s=x->HG l F b.length M j Q w x)->aV (k+7) dJ dI ⟨[(1635017060,v0),(125823003817315,.loc l),(431349919590,.loc F)],[]⟩ j Q:=by
 have e0:∀n,fh N n []= .ok []:=fun n=>by cases n<;>rfl
 have H:∀(n:Nat) (j:MS) (p:Nat) (r:List V) (w:List O),j[l]?=some (aT b p b.length)->aE b b.length p []->j[F]?=some (.list r)->lg M j w r->(∀x,fh N n []=x->HG l F b.length M j Q w x)->aV (k+7) dJ dI ⟨[(1635017060,v0),(125823003817315,.loc l),(431349919590,.loc F)],[]⟩ j Q:=by
  intro n j p r w h hr hF C hq;have l2:=j4 h;have hq:=hq _ (e0 n) j ⟨[(1635017060,v0),(125823003817315,.loc l),(431349919590,.loc F)],[]⟩ r (Kp.refl _ _) hF (by rw[cF];exact C) rfl;refine bu ?_;ktr_rel;refine d8 h hr ?_;ktr_rel
 intro n;induction n with
 |zero=>
  intro s j p r w ln hM h hr hF C hn hq;cases s with
  |nil=>exact H 0 j p r w h hr hF C hq|cons c t=>exact absurd ln (ko _)
 |succ n ih=>
  intro s j p r w ln hM h hr hF C hn hq;cases s with|nil=>exact H (n+1) j p r w h hr hF C hq|cons c t=>
   have G:fh N (n+1) (c::t)=(run N [] (aG false (c::t))).casesOn .error fun q=>(fh N n (aG false q.2)).casesOn .error fun l=>.ok (q.1::l):=rfl;have l2:=j4 h;have l3:=fK hF;have hsl:(c::t).length<=b.length:=rW hr;have s1:∀R:Kv,(∀z d,(∀I,Q (.error z) I d)->R (.error z) d)->(∀v d (p':Nat) o r',run N [] (aG false (c::t))= .ok (o,r')->Kp (· =l) j d->d[l]?=some (aT b p' b.length)->aE b b.length p' r'->St M d o v->R (.ok v) d)->Call (k+7) 64 0 [.loc l] j R:=by
    intro R h1 h2;obtain⟨N',eN⟩:∃N',N=N'+1:=⟨N-1,by lia⟩;refine gu (n:=N') f h hr (by lia) ?_;rw[<- eN];cases q:run N [] (aG false (c::t))with
    |error m=>
     rw[q]at G
     exact fun d J=>h1 _ _ fun I=>hq _ G d I (J.mono fun i _ e=>.inl e)
    |ok x=>
     obtain⟨o,r'⟩:=x
     exact fun d p' v J h' hr' C=>h2 v d p' o r' q J h' hr' (St.mono (Kp.refl (fun _=>False) d) (fun i _ h=>h.elim (hM i) False.elim) _ C)
   clear H e0
   refine bu ?_
   ktr_rel
   refine d8 h hr ?_
   ktr_rel
   refine s1 _ (fun z d h=>h _) fun v ms1 p1 o r1 q k1 g1 hr1 hs1=>?_
   have rl:=rX _ _ _ q
   rw[q]at G
   have G:fh N (n+1) (c::t)=(fh N n (aG false r1)).casesOn .error fun l=>.ok (o::l):=G
   have hF1:=k1.at hF (ci lF)
   have l4:=fx v hF1 (by exact cN (dn ..) (by assumption))
   have g2:=aW (.list (r++[v])) (ci lF) g1
   have l5:=lH g2
   clear s1
   ktr_rel
   refine cM g2 hr1 fun p2 hr2=>?_
   ktr_rel
   have kM:Kp (o0 l F) j ((ms1.set F (.list (r++[v]))).set l (aT b p2 b.length)):=((k1.mono fun i _ e=>.inl e).tr (Kp.set _ _ (.inr rfl))).tr (Kp.set _ _ (.inl rfl))
   have k2:Kp (o0 l F) ms1 ((ms1.set F (.list (r++[v]))).set l (aT b p2 b.length)):=(Kp.set (P:=o0 l F) _ _ (.inr rfl)).tr (Kp.set _ _ (.inl rfl))
   have mm:∀i,M i\/o0 l F i->M i:=fun i h=>h.elim id fun h=>h.elim (fun e=>e▸ml) fun e=>e▸mF
   have sl:=(eG r1 false).length_le
   have ln':t.length+1<=n+1:=ln
   have rl':r1.length+1<=t.length+1:=rl
   have hn':r.length+(t.length+1)<1000000:=hn
   refine ih (aG false r1) _ p2 (r++[v]) (w++[o]) (by lia) (fun i h=>k9 (hM i h) kM.len) (aq _ g2) hr2 (aW _ lF (aq _ hF1)) (lg.app (St.mono kM (fun i _ h=>mm i h) _ C) (St.mono k2 (fun i _ h=>mm i h) _ hs1)) (by rw[aK];show r.length+1+_<_;lia) fun x ex=>?_
   rw[ex]at G
   cases x with
   |error m=>exact fun d I J=>hq _ G d I (kM.tr J)
   |ok l'=>exact fun d I us J g hs' em=>hq _ G d I us (kM.tr J) g (by rw[dU]at hs';exact hs') em
theorem pG (f:ky b)(hq:∀x,fh (b.length+2) b.length (aG false b)=x->match x with| .error m=>∀c,Kp (fun _=>False) d c->Q (.error ((b.length:Int)-m)) c| .ok u=>∀c F o,Kp (fun _=>False) d c->d.length<=F->c[F]?=some (.list o)->lg (fun i=>i<d.length\/i=F) c u o->Q (.ok (.loc F)) c):Call (k+8) 66 0 [.bytes b] d Q:=by have v:=ag d (aT b (0:Nat) b.length) [];have P:=lH (ai [ah.list []] v);have w:=ai [ah.list []] v;have p:(d++[aT b (0:Nat) b.length]).length=d.length+1:=aK;have C:Kp (fun _=>False) d ((d++[aT b (0:Nat) b.length])++[ah.list []]):=(Kp.app _ _ _).tr (Kp.app _ _ _);have G:=f.l9;refine ar (fn:=gs) rfl rfl rfl ?_;ktr_rel;refine xw d ?_;ktr_rel;rw[p];refine cM w (ue b) fun r s=>?_;have H:=(eG b false).length_le;have y:Kp (o0 d.length (d.length+1)) ((d++[aT b (0:Nat) b.length])++[ah.list []]) (((d++[aT b (0:Nat) b.length])++[ah.list []]).set d.length (aT b r b.length)):=Kp.set _ _ (.inl rfl);have t:=y.len;rw[aK,p]at t;have t:d.length+2<=_:=t;refine Ku (N:=b.length+2) (F:=d.length+1) (l:=d.length) (v0:=.bytes b) (M:=fun i=>i<d.length\/i=d.length\/i=d.length+1) f (by exact cc _) (.inr (.inl rfl)) (.inr (.inr rfl)) (by lia) b.length (aG false b) _ r [] [] H (fun i h=>by lia) (aq _ w) s (aW _ (by lia) (p▸ag (d++[aT b (0:Nat) b.length]) _ [])) rfl (by rw[fm];lia) fun x I=>?_;have hq:=hq x I;have z:∀{c},Kp (o0 d.length (d.length+1)) (((d++[aT b (0:Nat) b.length])++[ah.list []]).set d.length (aT b r b.length)) c->Kp (fun _=>False) d c:=fun n=>C.fresh (y.tr n) fun i h=>h.elim (fun e=>iG e.symm) fun e=>e▸eO _;cases x with|error m=>exact fun c J n=>hq c (z n)|ok u=>exact fun c J o n g K L=>bY L (hq c (d.length+1) o (z n) (eO _) g (St.mono (Kp.refl (fun _=>False) c) (fun i _ h=>h.elim (fun h=>h.elim .inl fun e=>.inr (.inr e)) False.elim) _ K))
def gv (P:Nat)(c:MS):Prop:=∃n t:Int,0<=n/\0<=t/\c[P]?=some (.list [.int n,.int t])
theorem gv.mono(h:gv P b)(k:Kp R b a)(n:¬R P):gv P a:=h.imp fun _ h=>h.imp fun _ h=>⟨h.1,h.2.1,k.at h.2.2 n⟩
theorem gv.lt(h:gv P a):P<a.length:=h.elim fun _ h=>h.elim fun _ h=>bK h.2.2
theorem JY{d:List V}(v:V)(h:f[l]?=some (.list d))(n:i<d.length):fY f (.loc l) (.int i) v=some (f.set l (.list (d.set i v))):=by show(f[l]?).bind _=_;rw[h];show Option.bind (if 0<= (i:Int)/\(i:Int).toNat<d.length then some (ah.list (d.set (i:Int).toNat v))else none) _=_;rw[au ⟨kq _,by rw[Int.toNat_natCast];exact n⟩,Int.toNat_natCast];rfl
theorem tB{Q:Kv}(y:List (Nat×V))(D:∀d,az 499984591204 d y=[(499984591204,d)])(h:f[P]?=some (.list [.int n,.int t]))(F:0<=n)(G:0<=t)(B:0<a)(H:a<1000000000)(hq:∀s (d:Nat),d<a->Kp (· =P) f s->gv P s->Q (.ok (.int d)) s):pSs k [.assign (.loc 499984591204) (.bin .mod (.sub (.loc 7234928) (.val (.int 0))) (.loc 2037277037)),.assign (.sub (.loc 7234928) (.val (.int 0))) (.bin .fdiv (.sub (.loc 7234928) (.val (.int 0))) (.loc 2037277037)),.ret [.loc 499984591204]] ⟨(7234928,.loc P)::(2037277037,.int a)::y,[]⟩ f fun r I f=>Q (bF r) f:=by
 have C:=pz (p:=0) h rfl;have J:c8 f .mod (.int n) (.int a)=some (.int (n % a),f):=by show(if 0< (a:Int)then some (V.int (n % a),f)else none)=_;exact au (Int.natCast_pos.mpr B)
 have b2:c8 f .fdiv (.int n) (.int a)=some (.int (n / a),f):=by
  show(if 0< (a:Int)/\(a:Int)<1000000000 then some (V.int (n / a),f)else none)=_;exact au ⟨Int.natCast_pos.mpr B,by lia⟩
 have K:=JY (i:=0) (.int (n / a)) h (jv _);have L:((n % a).toNat:Int)=n % a:=Int.toNat_of_nonneg (Int.emod_nonneg _ (by lia));have R:n % a<a:=Int.emod_lt_of_pos _ (by exact Int.ofNat_le.mpr (by assumption));have hq:=hq _ (n % a).toNat (by lia) (Kp.set f (.list [.int (n / a),.int t]) rfl) ⟨n / a,t,Int.ediv_nonneg F (by lia),G,aq _ h⟩;rw[L]at hq;refine aj.mk _ C ?_;refine aj.mk _ J ?_;show pSs k [.assign (.sub (.loc 7234928) (.val (.int 0))) (.bin .fdiv (.sub (.loc 7234928) (.val (.int 0))) (.loc 2037277037)),.ret [.loc 499984591204]] ⟨(7234928,.loc P)::(2037277037,.int a)::az 499984591204 (.int (n % a)) y,[]⟩ f fun r I f=>Q (bF r) f;rw[D];refine aj.mk _ C ?_;refine aj.mk _ b2 ?_;refine aj.mk _ K ?_;exact hq
theorem g9(s:gv P j)(m:0<many)(l:many<1000000000)(hq:∀c (d:Nat),d<many->Kp (· =P) j c->gv P c->Q (.ok (.int d)) c):Call (k+1) 69 0 [.loc P,.int many] j Q:=by
 obtain⟨n,t,u,v,h⟩:=s;have o:=pz (p:=0) h rfl;refine ar (fn:=j9) rfl rfl rfl ?_;refine qI (decide (n=0)) ?_ ?_
 ·intro z;refine aj.mk _ o ?_;refine aj.mk _ rfl ?_;refine a9.neg z ?_;exact tB [] (fun _=>rfl) h u v m l hq
 ·intro z;have w:=pz (p:=1) h rfl;have x:=JY (i:=1) (.int (t+1)) h (uM _);have q:=aq (.list [.int n,.int (t+1)]) h;have y:=pz (p:=1) q rfl;have A:c8 (j.set P (.list [.int n,.int (t+1)])) .mul (.int 1049) (.int (t+1))=some (.int (1049*(t+1)),j.set P (.list [.int n,.int (t+1)])):=by
   show(if(1049:Int).natAbs<1000000000\/(t+1).natAbs<1000000000 then some (V.int (1049*(t+1)),j.set P (.list [.int n,.int (t+1)]))else none)=_;exact au (.inl (by decide))
  have r:=JY (i:=0) (.int (1049*(t+1)+8117)) q (jv _);rw[iu]at r;refine aj.mk _ o ?_;refine aj.mk _ rfl ?_;refine a9.pos z ?_;refine aj.mk _ w ?_;refine aj.mk _ rfl ?_;refine aj.mk _ x ?_;refine aj.mk _ y ?_;refine aj.mk _ A ?_;refine aj.mk _ rfl ?_;refine aj.mk _ r ?_;exact tB [] (fun _=>rfl) (aq (.list [.int (1049*(t+1)+8117),.int (t+1)]) h) (by lia) (by lia) m l fun c d hd B p=>hq c d hd ((Kp.set (P:=(· =P)) _ _ rfl).tr B) p
theorem oH{S:Nat}(l:gv P e)(hS:e[S]?=some (.list f))(n:S≠P)(m:0<f.length)(g:f.length<1000000000)(hq:∀b v,v∈f->Kp (· =P) e b->gv P b->Q (.ok v) b):Call (k+2) 70 0 [.loc P,.loc S] e Q:=by have o:=td hS;refine ar (fn:=ke) rfl rfl rfl ?_;refine aj.mk _ o ?_;refine g9 l m g fun b d hd j p=>?_;have q:=pz (j.at hS n) (yo hd);refine aj.mk _ q ?_;exact hq b _ (List.getElem_mem hd) j p
noncomputable def Qd (l:List (List UInt8)):V:=.tup (l.map .bytes)
noncomputable def rQ:List (List (List UInt8)):=[[[55]],[[48]],[[45,50]],[[51,46,53]],[[40,120,41]],[[60,52,49,62]],[[47,65]],[[116,114,117,101]],[[102,97,108,115,101]],[[110,117,108,108]],[[49],[48],[82]],[[40,62,62,41]]]
theorem iX(c:ms[a]?=some (.list x))(hb:ms[b]?=some (.list y))(n:(x++y).length<=1000000):c8 ms .add (.loc a) (.loc b)=some (.loc ms.length,ms++[.list (x++y)]):=by show(aC ms (.loc a)).bind (fun x=>(aC ms (.loc b)).bind fun y=>if(x++y).length<=1000000 then some (V.loc ms.length,ms++[.list (x++y)])else none)=_;rw[b5 c,b5 hb];exact au n
mutual
noncomputable def cE:E->Option V
 | .val v=>some v
 | .neg e=>(cE e).bind KS
 | .tup es=>(cEs es).bind fun vs=>if vs.length<=1000000 then some (.tup vs)else none
 |_=>none
noncomputable def cEs:List E->Option (List V)
 | []=>some []
 |e::es=>(cE e).bind fun v=>(cEs es).bind fun vs=>some (v::vs)
end
mutual
theorem oG (k:Nat)(mf:MF):∀(e:E) (ms:MS) (Q:Kv) (v:V),cE e=some v->Q (.ok v) ms->pE k mf e ms Q
 | .val v,ms,Q,u,h,hq=>by cases (show some v=some u from h);exact hq
 | .neg e,ms,Q,u,h,hq=>by
  have h:(cE e).bind KS=some u:=h
  cases q:cE e with
  |none=>rw[q]at h;exact bN h
  |some v=>
   rw[q]at h
   exact oG k mf e ms _ v q (aj.mk u h hq)
 | .tup es,ms,Q,u,h,hq=>by
  have h:(cEs es).bind (fun vs=>if vs.length<=1000000 then some (V.tup vs)else none)=some u:=h
  cases q:cEs es with
  |none=>rw[q]at h;exact bN h
  |some vs=>
   rw[q]at h
   have h:(if vs.length<=1000000 then some (V.tup vs)else none)=some u:=h
   by_cases n:vs.length<=1000000
   ·rw[au n]at h
    cases h
    exact pEs_const k mf es ms _ vs q ⟨n,hq⟩
   ·rw[aH n]at h;exact bN h
 | .loc _,_,_,_,h,_| .cell _,_,_,_,h,_| .list _,_,_,_,h,_| .bin _ _ _,_,_,_,h,_| .cmp _ _ _,_,_,_,h,_| .cmp2 _ _ _ _ _,_,_,_,h,_| .not _,_,_,_,h,_| .and _,_,_,_,h,_| .or _,_,_,_,h,_| .ite _ _ _,_,_,_,h,_| .attr _ _,_,_,_,h,_| .sub _ _,_,_,_,h,_| .slice _ _ _,_,_,_,h,_| .call _ _,_,_,_,h,_
 | .meth _ _ _,_,_,_,h,_| .comp _ _ _ _ _,_,_,_,h,_| .dcomp _ _ _ _ _ _,_,_,_,h,_| .dict _ _,_,_,_,h,_| .sdict,_,_,_,h,_| .lam _ _,_,_,_,h,_=>bN h
theorem pEs_const (k:Nat)(mf:MF):∀(es:List E) (ms:MS) (Q:Except Int (List V)->MS->Prop) (vs:List V),cEs es=some vs->Q (.ok vs) ms->pEs k mf es ms Q
 | [],ms,Q,vs,h,hq=>by cases (show some []=some vs from h);exact hq
 |e::es,ms,Q,vs,h,hq=>by
  have h:(cE e).bind (fun v=>(cEs es).bind fun vs=>some (v::vs))=some vs:=h
  cases q:cE e with
  |none=>rw[q]at h;exact bN h
  |some v=>
   rw[q]at h
   have h:((cEs es).bind fun vs=>some (v::vs))=some vs:=h
   cases q2:cEs es with
   |none=>rw[q2]at h;exact bN h
   |some us=>
    rw[q2]at h
    cases h
    exact oG k mf e ms _ v q (pEs_const k mf es ms _ us q2 hq)
end
theorem Np{K:Ks}(h:cEs f=some vs)(l:vs.length<=1000000)(hq:pSs k w (g.set n (.loc e.length)) (e++[.list vs]) K):pSs k (.assign (.loc n) (.list f)::w) g e K:=pEs_const k g f e _ vs h ⟨l,hq⟩
noncomputable def MD:List V:=[.tup [.bytes [55]],.tup [.bytes [48]],.tup [.bytes [45,50]],.tup [.bytes [51,46,53]],.tup [.bytes [40,120,41]],.tup [.bytes [60,52,49,62]],.tup [.bytes [47,65]],.tup [.bytes [116,114,117,101]],.tup [.bytes [102,97,108,115,101]],.tup [.bytes [110,117,108,108]]]
noncomputable def Oj:List V:=[.tup [.bytes [49],.bytes [48],.bytes [82]],.tup [.bytes [40,62,62,41]]]
theorem Dp (hq:∀e S,Kp (fun _=>False) f e->f.length<=S->e[S]?=some (.list (rQ.map Qd))->Q (.ok (.loc S)) e):Call (k+1) 71 0 [] f Q:=by
 have l:=iX (ms:=(f++[.list (MD)])++[.list (Oj)]) (ai _ (ag f _ [])) (ag (f++[.list (MD)]) _ []) (aP rfl);have hq:=hq _ _ (((Kp.app (fun _=>False) f [ah.list (MD)]).tr (Kp.app _ _ [ah.list (Oj)])).tr (Kp.app _ _ [ah.list (MD++Oj)])) (by rw[aK,aK,pf];exact dn ..) (ag _ _ []);refine ar (fn:=hV) rfl rfl rfl ?_;refine Np (vs:=MD) rfl (aP rfl) ?_;repeat refine And.intro (aP rfl) ?_
 refine aj.mk _ l ?_;exact hq
noncomputable def da:List (List UInt8):=[[91],[93],[60,60],[62,62],[82],[111,98,106],[123],[125],[55],[48],[49],[45,50],[51,46,53],[40,120,41],[60,52,49,62],[40,62,62,41],[47,65],[47,66],[47,67],[116,114,117,101],[102,97,108,115,101],[110,117,108,108]]
noncomputable def cw (i:Nat)(t:List UInt8):Nat:=match i with|0=>if t=[91]\/t=[60,60]then 1 else 0|1=>2*t.count 91+t.count 60|2=>1|_=>t.count 47
noncomputable def cs (i:Nat)(r:List (List UInt8)):Nat:=(r.map (cw i)).sum
noncomputable def bd (i:Nat)(d:Nat):Nat:=match i,d with|0,0=>0|0,1=>1|0,2=>3|0,_=>7|1,0=>1|1,1=>4|1,2=>10|1,_=>22|2,0=>3|2,1=>10|2,2=>24|2,_=>52|_,0=>1|_,1=>4|_,2=>10|_,_=>22
structure Qk (d:Nat)(r:List (List UInt8)):Prop where
 ne:r≠[]
 mem:∀t∈r,t∈da
 bd:∀i,i<4->cs i r<=bd i d
theorem lG (i:Nat)(a b:List (List UInt8)):cs i (a++b)=cs i a+cs i b:=by unfold cs;rw[bZ,List.sum_append]
structure gw (c:Nat->Nat)(r:List (List UInt8)):Prop where
 ne:r≠[]
 mem:∀t∈r,t∈da
 bd:∀i,i<4->cs i r<=c i
theorem Jj{p:Nat->Prop}(a:p 0)(b:p 1)(c:p 2)(d:p 3):∀i,i<4->p i|0,_=>a|1,_=>b|2,_=>c|3,_=>d|n+4,h=>absurd h (by lia)
theorem Fy{l s:List (List UInt8)}(h:(l.all fun x=>decide (x∈s))=true):∀x∈l,x∈s:=fun x hx=>eP (zE h x hx)
noncomputable def JV (d:Nat)(l:List (List UInt8)):Bool:=!l.isEmpty&&(l.all fun x=>decide (x∈da))&&(Nat.ble (cs 0 l) (bd 0 d)&&Nat.ble (cs 1 l) (bd 1 d)&&Nat.ble (cs 2 l) (bd 2 d)&&Nat.ble (cs 3 l) (bd 3 d))
theorem F5(h:JV d l=true):gw (bd · d) l:=by unfold JV at h;rw[mz,mz,mz,mz,mz]at h;refine h.elim fun f g=>g.elim fun i j=>f.elim fun c k=>i.elim fun m n=>m.elim fun o p=>?_;exact⟨fun e=>by rw[e]at c;exact Bool.noConfusion c,Fy k,Jj (aP o) (aP p) (aP n) (aP j)⟩
theorem zP:∀l∈rQ,gw (bd · 0) l:=fun l hl=>F5 (zE (show rQ.all (JV 0)=true by decide+kernel) l hl)
theorem gw.app(x:gw c a)(y:gw j b):gw (fun i=>c i+j i) (a++b):=⟨fun e=>x.ne (List.append_eq_nil_iff.mp e).1,fun t h=>(zG h).elim (x.mem t) (y.mem t),fun i h=>by rw[lG];exact Nat.add_le_add (x.bd i h) (y.bd i h)⟩
theorem gw.mono(x:gw c a)(h:∀i,i<4->c i<=d i):gw d a:=⟨x.ne,x.mem,fun i b=>bR (x.bd i b) (h i b)⟩
theorem im (r:List (List UInt8)):cs 2 r=r.length:=by induction r with|nil=>rfl|cons a r b=>show 1+cs 2 r=r.length+1;lia
theorem F4 (n:Nat):e6 0 (n:Nat) 1=n:=by
 unfold e6;by_cases h:n=0
 ·subst h;rfl
 ·rw[au (by lia)];lia
def ID (d:Nat):Prop:=∀(k P:Nat) (e:MS) (Q:Kv) (b:Int),b+d=3->gv P e->(∀a R c,gw (bd · d) c->Kp (· =P) e a->gv P a->e.length<=R->a[R]?=some (.list (c.map .bytes))->Q (.ok (.loc R)) a)->Call (k+d+3) 73 0 [.loc P,.int b] e Q
theorem cI (a b:List (List UInt8)):a.map V.bytes++b.map V.bytes=(a++b).map V.bytes:=List.map_append.symm
theorem HI(K:ID d){deep:V}{dp:Int}(hd:dp+1+d=3):∀(n:Nat) (x:Int) (m:MS) (F:Nat) (a:List (List UInt8)) (c:Nat->Nat) (o:List (Nat×V)),(∀v,az 1852994932 v o=[(1852994932,v)])->gv P m->gw c a->c 2+n*60<=1000->bd 2 d<=52->m[F]?=some (.list (a.map .bytes))->F≠P->(∀g A h o,gw (fun i=>c i+n*bd i d) h->Kp (· =P) m g->gv P g->g[A]?=some (.list (h.map .bytes))->A≠P->Q .next ⟨(7234928,.loc P)::(1885693284,.int dp)::(7954807,u)::(431349919590,.loc A)::o,[]⟩ g)->mP (k+d+3) gI gH (.rng x n 1) ⟨(7234928,.loc P)::(1885693284,.int dp)::(7954807,u)::(431349919590,.loc F)::o,[]⟩ m Q
 |0,x,m,F,a,c,o,L,G,hr,hc,hb,hF,H,hq=>by
  have hq:=hq m F a o (hr.mono fun i _=>dn ..) (Kp.refl _ _) G hF H;refine jI ?_;exact aj.mk _ rfl hq|n+1,x,m,F,a,c,o,L,G,hr,hc,hb,hF,H,hq=>by
  refine ry (n:=1852994932) (f:=fun v=>⟨(7234928,.loc P)::(1885693284,.int dp)::(7954807,u)::(431349919590,.loc F)::[(1852994932,v)],[]⟩) (fun v=>congrArg (fun q=>MF.mk ((7234928,.loc P)::(1885693284,.int dp)::(7954807,u)::(431349919590,.loc F)::q) []) (L v)) ?_;refine aj.mk _ rfl ?_;refine aj.mk _ rfl ?_;refine K k P m _ (dp+1) hd G fun B R h t M N le Y=>?_;have e1:=im a;have e2:=im h;have b1:=hr.bd 2 (by lia);have b2:=t.bd 2 (by lia);have U:=iX (M.at hF H) Y (by rw[aK,b0,b0];lia);rw[cI]at U;refine aj.mk _ U ?_;have Z:Kp (· =P) m (B++[.list ((a++h).map .bytes)]):=M.tr (Kp.app _ _ _);refine HI K (deep:=deep) hd n (x+1) _ B.length (a++h) (fun i=>c i+bd i d) [(1852994932,.int x)] (fun _=>rfl) (N.mono (Kp.app (fun _=>False) _ _) id) (hr.app t) (by show c 2+bd 2 d+n*60<=1000;lia) hb (ag _ _ []) (fP N.lt) fun g A D o w k' p' I J=>hq g A D o (w.mono fun i _=>?_) (Z.tr k') p' I J;rw[Nat.succ_mul];lia
theorem HN(ih:ID d){dp:Int}(hd:dp+1+d=3):∀(n:Nat) (x:Int) (A:MS) (F:Nat) (o:List (List UInt8)) (c:Nat->Nat) (B:List (Nat×V)),(∀v,az 1852994932 v B=[(1852994932,v)])->gv P A->gw c o->c 2+n*60<=1000->bd 2 d<=52->A[F]?=some (.list (o.map .bytes))->F≠P->(∀w M y B,gw (fun i=>c i+n*(cw i [47,65]+bd i d)) y->Kp (· =P) A w->gv P w->w[M]?=some (.list (y.map .bytes))->M≠P->Q .next ⟨(7234928,.loc P)::(1885693284,.int dp)::(7954807,H)::(431349919590,.loc M)::B,[]⟩ w)->mP (k+d+3) gK gJ (.rng x n 1) ⟨(7234928,.loc P)::(1885693284,.int dp)::(7954807,H)::(431349919590,.loc F)::B,[]⟩ A Q
 |0,x,A,F,o,c,B,hv,X,hr,hc,hb,hF,Y,hq=>by
  have hq:=hq A F o B (hr.mono fun i _=>dn ..) (Kp.refl _ _) X hF Y;refine jI ?_;exact aj.mk _ rfl hq|n+1,x,A,F,o,c,B,hv,X,hr,hc,hb,hF,Y,hq=>by
  refine ry (n:=1852994932) (f:=fun v=>⟨(7234928,.loc P)::(1885693284,.int dp)::(7954807,H)::(431349919590,.loc F)::[(1852994932,v)],[]⟩) (fun v=>congrArg (fun q=>MF.mk ((7234928,.loc P)::(1885693284,.int dp)::(7954807,H)::(431349919590,.loc F)::q) []) (hv v)) ?_;refine aj.mk _ rfl ?_;refine And.intro (aP rfl) ?_;have k0:Kp (fun _=>False) A (A++[.list [.bytes [47,65],.bytes [47,66],.bytes [47,67]]]):=Kp.app _ _ _;refine oH (k:=k+d+1) (X.mono k0 id) (ag A _ []) (fP X.lt) (jv _) (aP rfl) fun D v Z k1 p1=>?_;obtain⟨t,et,ht⟩:∃t,v= .bytes t/\gw (cw · [47,65]) [t]:=by
   have:=zF (show v∈[[47,65],[47,66],[47,67]].map V.bytes from Z);obtain⟨t,hm,e⟩:=this
   refine⟨t,e.symm,?_⟩
   have:([[47,65],[47,66],[47,67]].all fun t:List UInt8=>decide (t∈da)&&(Nat.ble (cs 0 [t]) (cw 0 [47,65])&&Nat.ble (cs 1 [t]) (cw 1 [47,65])&&Nat.ble (cs 2 [t]) (cw 2 [47,65])&&Nat.ble (cs 3 [t]) (cw 3 [47,65])))=true:=by decide+kernel
   have:=zE this t hm
   rw[mz,mz,mz,mz]at this
   exact⟨by simp,fun x hx=>by rw[List.mem_singleton.mp hx];exact eP this.1,Jj (aP this.2.1.1.1) (aP this.2.1.1.2) (aP this.2.1.2) (aP this.2.2)⟩
  subst et
  have e1:=im o
  have b1:=hr.bd 2 (by lia)
  refine And.intro (aP rfl) ?_
  have F1:=k1.at (ai [ah.list [.bytes [47,65],.bytes [47,66],.bytes [47,67]]] hF) Y
  have a0:=iX (ai [ah.list ([t].map .bytes)] F1) (ag D (.list ([t].map .bytes)) []) (by rw[aK,b0];show _+1<=_;lia)
  rw[cI]at a0
  refine aj.mk _ a0 ?_
  refine aj.mk _ rfl ?_
  have p2:gv P ((D++[.list ([t].map .bytes)])++[.list ((o++[t]).map .bytes)]):=p1.mono ((Kp.app (fun _=>False) _ _).tr (Kp.app _ _ _)) id
  have F2:=ag (D++[ah.list ([t].map .bytes)]) (.list ((o++[t]).map .bytes)) []
  have nF2:(D++[ah.list ([t].map .bytes)]).length≠P:=by rw[aK];have:=p1.lt;lia
  refine ih k P _ _ (dp+1) hd p2 fun N R y G k3 p3 le hR=>?_
  have e2:=im y
  have b2:=G.bd 2 (by lia)
  have a1:=iX (k3.at F2 nF2) hR (by rw[aK,b0,b0,aK];show _+1+_<=_;lia)
  rw[cI]at a1
  refine aj.mk _ a1 ?_
  have k4:Kp (· =P) A (N++[.list (((o++[t])++y).map .bytes)]):=(((((k0.mono fun i _ h=>False.elim h).tr k1).tr (Kp.app _ _ _)).tr (Kp.app _ _ _)).tr k3).tr (Kp.app _ _ _)
  refine HN ih hd n (x+1) _ N.length ((o++[t])++y) (fun i=>c i+cw i [47,65]+bd i d) [(1852994932,.int x)] (fun _=>rfl) (p3.mono (Kp.app (fun _=>False) _ _) id) ((hr.app ht).app G) (by show c 2+1+bd 2 d+n*60<=1000;lia) hb (ag _ _ []) (fP p3.lt) fun w M U B J k' p' hF' nF'=>hq w M U B (J.mono fun i _=>?_) (k4.tr k') p' hF' nF'
  rw[Nat.succ_mul];lia
noncomputable abbrev PQ (P:Nat)(dp w:Int):MF:=⟨[(7234928,.loc P),(1885693284,.int dp),(7954807,.int w)],[]⟩
theorem qo{Q:Kv}{d:Nat}{dp:Int}(D:gv P o)(hq:∀g R c,gw (bd · 0) c->Kp (· =P) o g->gv P g->o.length<=R->g[R]?=some (.list (c.map .bytes))->Q (.ok (.loc R)) g):pSs (k+2) [.ret [.call (.val (.ty .list)) [.call (.val (.fn 70)) [.loc 7234928,.call (.val (.fn 71)) []]]]] (PQ P dp w) o fun r U o=>Q (bF r) o:=by refine Dp fun H S A X hS=>?_;refine oH (D.mono A id) hS (by have:=D.lt;lia) (by rw[b0];exact k9 (jv 11) (cc _)) (by rw[b0];exact aP rfl) fun u v I F J=>?_;refine(zF I).elim fun c K=>K.elim fun hr e=>?_;subst e;refine aj.mk _ rfl ?_;have L:Kp (· =P) o (u++[.list (c.map .bytes)]):=((A.mono fun i _ h=>False.elim h).tr F).tr (Kp.app _ _ _);exact hq _ u.length c (zP c hr) L (J.mono (Kp.app (fun _=>False) _ _) id) (bR A.len F.len) (ag _ _ [])
theorem nz(h:t∈da):gw (cw · t) [t]:=⟨uF _ _,fun x hx=>List.mem_singleton.mp hx▸h,fun i _=>cc _⟩
theorem Le (d:Nat)(hd:d<3)(m:Nat)(j:m<=2):∀i,i<4->cw i [91]+m*bd i d+cw i [93]<=bd i (d+1)/\cw i [60,60]+m*(cw i [47,65]+bd i d)+cw i [62,62]<=bd i (d+1):=by
 have:((List.range 3).all fun d=>(List.range 3).all fun m=>(List.range 4).all fun i=>Nat.ble (cw i [91]+m*bd i d+cw i [93]) (bd i (d+1))&&Nat.ble (cw i [60,60]+m*(cw i [47,65]+bd i d)+cw i [62,62]) (bd i (d+1)))=true:=by decide+kernel
 intro i h;have g:=zE (zE (zE this d (List.mem_range.mpr hd)) m (List.mem_range.mpr (by exact pJ (by assumption)))) i (List.mem_range.mpr h);rw[mz]at g;exact⟨aP g.1,aP g.2⟩
theorem xz (b:MS){n:Nat}(h:n<1000000):aA b (.rng 0 n 1)=some (.rng 0 n 1):=(v6 b h (c:=1) (by decide)).trans (by rw[show e6 0 ((n:Nat):Int) ((1:Nat):Int)=n from F4 n];rfl)
theorem wZ (d:Nat):bd 2 d<=52:=by match d with|0|1|2=>exact aP rfl|n+3=>exact cc _
theorem Ie:∀d,d<=3->ID d
 |0,_=>by
  intro k P ms Q deep he hp hq;have e1:deep=3:=by lia
  subst e1
  refine ar (fn:=fe) rfl rfl rfl ?_
  refine aj.mk _ rfl ?_
  refine a9.neg rfl ?_
  refine aj.mk _ rfl ?_
  refine a9.neg rfl ?_
  refine aj.mk _ rfl ?_
  refine a9.neg rfl ?_
  exact qo (d:=0) (w:=3) (dp:=3) hp hq
 |d+1,hd3=>by
  have ih:=Ie d (by exact ju (by assumption))
  intro k P ms Q deep he hp hq
  have e1:decide (deep<3)=true:=dD (by lia)
  refine ar (fn:=fe) rfl rfl rfl ?_
  refine aj.mk _ rfl ?_
  refine a9.pos e1 ?_
  refine g9 (many:=4) hp (jv _) (aP rfl) fun ms1 w hw k1 p1=>?_
  have up:∀{c:Nat->Nat} {ms2 ms':MS} {R:Nat} {row:List (List UInt8)},Kp (· =P) ms1 ms2->gw c row->(∀i,i<4->c i<=bd i (d+1))->Kp (· =P) ms2 ms'->gv P ms'->ms.length<=R->ms'[R]?=some (.list (row.map .bytes))->Q (.ok (.loc R)) ms':=fun k2 hr hb k3 p3 le hR=>hq _ _ _ (hr.mono hb) ((k1.tr k2).tr k3) p3 le hR
  have l1:=k1.len
  refine bS (decide ((w:Int)=0)) ?_ ?_
  ·intro q0
   refine aj.mk _ rfl ?_
   refine a9.pos q0 ?_
   refine And.intro (aP rfl) ?_
   have k2:Kp (· =P) ms1 (ms1++[.list ([[91]].map .bytes)]):=Kp.app _ _ _
   refine g9 (many:=3) (p1.mono (Kp.app (fun _=>False) ms1 [.list ([[91]].map .bytes)]) id) (jv _) (aP rfl) fun ms3 m hm k3 p3=>?_
   have i1:=xz ms3 (n:=m) (by lia)
   have t1:fZ ms3 .range [.int m]=some (.rng 0 m 1,ms3):=rfl
   have F3:=k3.at (ag ms1 (.list ([[91]].map .bytes)) []) (fP p1.lt)
   refine aj.mk _ t1 ?_
   refine aj.mk _ i1 ?_
   refine HI ih (deep:=.none) (dp:=deep) (by lia) m 0 ms3 ms1.length [[91]] (cw · [91]) [] (fun _=>rfl) p3 (nz (by decide+kernel)) (by show 1+m*60<=1000;lia) (wZ d) F3 (fP p1.lt) fun ms4 F' row vs hr k4 p4 hF nF=>?_
   refine And.intro (aP rfl) ?_
   have e1:=im row
   have b1:cs 2 row<=1+m*bd 2 d:=hr.bd 2 (by lia)
   have b2:=wZ d
   have b3:m*bd 2 d<=2*52:=Nat.mul_le_mul (by lia) b2
   have a1:=iX (ai [.list ([[93]].map .bytes)] hF) (ag ms4 (.list ([[93]].map .bytes)) []) (by rw[aK,b0];show _+1<=_;lia)
   rw[cI]at a1
   refine aj.mk _ a1 ?_
   have k5:Kp (· =P) ms4 ((ms4++[.list ([[93]].map .bytes)])++[.list ((row++[[93]]).map .bytes)]):=(Kp.app _ _ _).tr (Kp.app _ _ _)
   have l3:=k3.len
   have l4:=k4.len
   rw[aK]at l3
   refine up (((k2.tr k3).tr k4).tr k5) (hr.app (nz (t:=[93]) (by decide+kernel))) (fun i hi=>((Le d (by lia) m (by lia)) i hi).1) (Kp.refl _ _) (p4.mono ((Kp.app (fun _=>False) _ _).tr (Kp.app _ _ _)) id) (by rw[aK];lia) (ag _ _ [])
  ·intro q0
   refine aj.mk _ rfl ?_
   refine a9.neg q0 ?_
   cases q1:decide ((w:Int)=1)with
   |true=>
    refine aj.mk _ rfl ?_
    refine a9.pos q1 ?_
    refine And.intro (aP rfl) ?_
    have k2:Kp (· =P) ms1 (ms1++[.list ([[60,60]].map .bytes)]):=Kp.app _ _ _
    refine g9 (many:=3) (p1.mono (Kp.app (fun _=>False) ms1 [.list ([[60,60]].map .bytes)]) id) (jv _) (aP rfl) fun ms3 m hm k3 p3=>?_
    have i1:=xz ms3 (n:=m) (by lia)
    have t1:fZ ms3 .range [.int m]=some (.rng 0 m 1,ms3):=rfl
    have F3:=k3.at (ag ms1 (.list ([[60,60]].map .bytes)) []) (fP p1.lt)
    refine aj.mk _ t1 ?_
    refine aj.mk _ i1 ?_
    refine HN ih (dp:=deep) (by lia) m 0 ms3 ms1.length [[60,60]] (cw · [60,60]) [] (fun _=>rfl) p3 (nz (by decide+kernel)) (by show 1+m*60<=1000;lia) (wZ d) F3 (fP p1.lt) fun ms4 F' row vs hr k4 p4 hF nF=>?_
    refine And.intro (aP rfl) ?_
    have e1:=im row
    have b1:cs 2 row<=1+m*(1+bd 2 d):=hr.bd 2 (by lia)
    have b2:=wZ d
    have b3:m*(1+bd 2 d)<=2*53:=Nat.mul_le_mul (by lia) (by exact pc (by assumption) _)
    have a1:=iX (ai [.list ([[62,62]].map .bytes)] hF) (ag ms4 (.list ([[62,62]].map .bytes)) []) (by rw[aK,b0];show _+1<=_;lia)
    rw[cI]at a1
    refine aj.mk _ a1 ?_
    have k5:Kp (· =P) ms4 ((ms4++[.list ([[62,62]].map .bytes)])++[.list ((row++[[62,62]]).map .bytes)]):=(Kp.app _ _ _).tr (Kp.app _ _ _)
    have l3:=k3.len
    have l4:=k4.len
    rw[aK]at l3
    refine up (((k2.tr k3).tr k4).tr k5) (hr.app (nz (t:=[62,62]) (by decide+kernel))) (fun i hi=>((Le d (by lia) m (by lia)) i hi).2) (Kp.refl _ _) (p4.mono ((Kp.app (fun _=>False) _ _).tr (Kp.app _ _ _)) id) (by rw[aK];lia) (ag _ _ [])
   |false=>
    refine aj.mk _ rfl ?_
    refine a9.neg q1 ?_
    refine qo (d:=0) (w:=w) (dp:=deep) p1 fun ms' R row hr k' p' le hR=>up (Kp.refl _ _) hr (fun i hi=>?_) k' p' (bR l1 le) hR
    have:((List.range 3).all fun d=>(List.range 4).all fun i=>Nat.ble (bd i 0) (bd i (d+1)))=true:=by decide+kernel
    exact aP (zE (zE this d (List.mem_range.mpr (by lia))) i (List.mem_range.mpr hi))
theorem Ik:∀(i a:List Int) (n:Int) (d:List (Nat×V)),0<=n->(∀v,az 1819043171 v d=[(1819043171,v)])->b[D]?=some (.list (a.map .int++i.map .int))->(∀n d,0<=n->Q .next ⟨(128026154263411,j)::(125779768604014,.int n)::d,[]⟩ b)->mP k jU jT (.list D a.length) ⟨(128026154263411,j)::(125779768604014,.int n)::d,[]⟩ b Q
 | [],a,n,d,l,m,h,hq=>by
  have n1:=mK h;rw[b0]at n1;refine jI ?_;exact aj.mk _ n1 (hq n d l)|c::i,a,n,d,l,m,h,hq=>by
  have n1:=mL h;rw[b0,show a.map V.int++[V.int c]=(a++[c]).map V.int from(bZ (l₁:=a) (l₂:=[c])).symm,b0]at n1;have p:c8 b .mul (.int n) (.int 1049)=some (.int (n*1049),b):=by show(if n.natAbs<1000000000\/(1049:Int).natAbs<1000000000 then some (V.int (n*1049),b)else none)=_;exact au (.inr (by decide))
  have b2:c8 b .mul (.int 2) (.int c.natAbs)=some (.int (2*c.natAbs),b):=by
   show(if(2:Int).natAbs<1000000000\/((c.natAbs:Nat):Int).natAbs<1000000000 then some (V.int (2*c.natAbs),b)else none)=_;exact au (.inl (by decide))
  refine ry (n:=1819043171) (f:=fun v=>⟨(128026154263411,j)::(125779768604014,.int n)::[(1819043171,v)],[]⟩) (fun v=>congrArg (fun q=>MF.mk ((128026154263411,j)::(125779768604014,V.int n)::q) []) (m v)) ?_;refine aj.mk _ n1 ?_;refine aj.mk _ p ?_;refine aj.mk _ rfl ?_;refine aj.mk _ rfl ?_;refine aj.mk _ b2 ?_;refine aj.mk _ rfl ?_;refine aj.mk _ rfl ?_;refine aj.mk _ rfl ?_;refine aj.mk _ rfl ?_;have hb:0<=n*1049+2*(c.natAbs:Int)+(bif decide (c<0)then 1 else 0):=by cases decide (c<0)<;>(simp only[cond_true,cond_false];lia)
  refine Ik i (a++[c]) _ _ hb (fun _=>rfl) ?_ hq;rw[bZ,dU];exact h
theorem L6(h:f[l]?=some (.list k))(j:Nat):bV f (.loc l) none (some (.int j))=some (.loc f.length,f++[.list (k.take j)]):=by have q:b4 k.length (some (.int (j:Int)))=some j:=au (e:=none) (kq j);show(aC f (.loc l)).bind (fun k=>Option.bind (some 0) fun i=>(b4 k.length (some (.int (j:Int)))).bind fun j=>some (V.loc f.length,f++[ah.list ((k.take j).drop i)]))=_;rw[b5 h];show Option.bind (b4 k.length (some (.int (j:Int)))) (fun j=>some (V.loc f.length,f++[ah.list ((k.take j).drop 0)]))=_;rw[q];rfl
theorem HW(h:f[l]?=some (.list j))(i:Nat):bV f (.loc l) (some (.int i)) none=some (.loc f.length,f++[.list (j.drop i)]):=by have q:b4 0 (some (.int (i:Int)))=some i:=au (e:=none) (kq i);show(aC f (.loc l)).bind (fun j=>Option.bind (b4 0 (some (.int (i:Int)))) fun i=>some (V.loc f.length,f++[ah.list ((j.take j.length).drop i)]))=_;rw[b5 h,q];show some (V.loc f.length,f++[ah.list ((j.take j.length).drop i)])=_;rw[List.take_length]
theorem HX(h:m[l]?=some (.list o))(i j:Nat):bV m (.loc l) (some (.int i)) (some (.int j))=some (.loc m.length,m++[.list ((o.take j).drop i)]):=by have q:b4 0 (some (.int (i:Int)))=some i:=au (e:=none) (kq i);have p:∀d,b4 d (some (.int (j:Int)))=some j:=fun d=>au (e:=none) (kq j);show(aC m (.loc l)).bind (fun o=>Option.bind (b4 0 (some (.int (i:Int)))) fun i=>(b4 o.length (some (.int (j:Int)))).bind fun j=>some (V.loc m.length,m++[ah.list ((o.take j).drop i)]))=_;rw[b5 h,q];show Option.bind (b4 o.length (some (.int (j:Int)))) (fun j=>some (V.loc m.length,m++[ah.list ((o.take j).drop i)]))=_;rw[p];rfl
theorem N3(j:Nat):bV ms (.xl us) none (some (.int j))=some (.loc ms.length,ms++[.list ((us.map V.int).take j)]):=by have q:b4 us.length (some (.int (j:Int)))=some j:=au (e:=none) (kq j);show(b4 us.length (some (.int (j:Int)))).bind (fun j=>some (V.loc ms.length,ms++[ah.list (((us.map V.int).take j).drop 0)]))=_;rw[q];rfl
theorem MC(hq:∀d P,Kp (fun _=>False) e d->gv P d->e.length<=P->Q (.ok (.loc P)) d):Call (k+1) 68 0 [.xl h] e Q:=by have j:=N3 (ms:=e) (us:=h) 63;rw[<- List.map_take]at j;have l:=ag e (.list ((h.take 63).map .int)) [];have p:=tM l;refine ar (fn:=lO) rfl rfl rfl ?_;refine aj.mk _ j ?_;refine aj.mk _ p ?_;refine Ik (h.take 63) [] 31 [] (by decide) (fun _=>rfl) l fun n t q=>?_;refine And.intro (aP rfl) ?_;exact hq _ _ ((Kp.app (fun _=>False) e _).tr (Kp.app _ _ _)) ⟨n,0,q,Int.le_refl 0,ag _ _ []⟩ (by rw[aK];exact dn ..)
noncomputable def cT:List (List UInt8×O):=[([55],.int 7),([48],.int 0),([49],.int 1),([45,50],.int (-2)),([51,46,53],.real 35 1),([40,120,41],.str [120] false),([60,52,49,62],.str [65] true),([40,62,62,41],.str [62,62] false),([47,65],.name [65]),([47,66],.name [66]),([47,67],.name [67]),([116,114,117,101],.bool true),([102,97,108,115,101],.bool false),([110,117,108,108],.null)]
noncomputable def un:List (List UInt8×V):=cT.map fun p=>(p.1,.tup (tl p.2))
theorem ML(s:List UInt8)(v:V)(h:d[l]?=some (.dictB b))(g:b.length<1000000):fY d (.loc l) (.bytes s) v=some (d.set l (.dictB (ee s v b))):=by show(d[l]?).bind _=_;rw[h];show Option.bind (if b.length<1000000 then some (ah.dictB (ee s v b))else none) _=_;rw[au g];rfl
theorem yT{K:Ks}(h:cE e=some v)(hl:i.vars.lookup n=some (.loc l))(g:o[l]?=some (.dictB d))(q:d.length<1000000)(hq:pSs k w i (o.set l (.dictB (ee f v d))) K):pSs k (.assign (.sub (.loc n) (.val (.bytes f))) e::w) i o K:=by refine oG k i e o _ v h ?_;show uR (i.vars.lookup n) _;rw[hl];exact aj.mk _ (ML f v g q) hq
theorem D6(h:m[l]?=some (.dictB o))(hc:IM [c.toNat] [.str ta]=some (.bytes [c]))(g:o.length<1000000) (hq:mP k cu cm (.seq t) ⟨[(431349919590,.loc l),(7955819,.str [c.toNat])],[]⟩ (m.set l (.dictB (ee [47,c] (.tup [.str [110,97,109,101],.str [c.toNat]]) o))) Q) (hv:∀v,az 7955819 v v0=[(7955819,v)]):mP k cu cm (.seq (.str [c.toNat]::t)) ⟨(431349919590,.loc l)::v0,[]⟩ m Q:=by have w:iZ m (.str [c.toNat]) 111482039922277 [.str ta]=some (.bytes [c],m):=congrArg (Option.bind · fun v=>some (v,m)) hc;have x:=ML [47,c] (.tup [.str [110,97,109,101],.str [c.toNat]]) h g;refine ry (n:=7955819) (f:=fun v=>⟨(431349919590,.loc l)::[(7955819,v)],[]⟩) (fun v=>congrArg (fun q=>MF.mk ((431349919590,V.loc l)::q) []) (hv v)) ?_;refine aj.mk _ rfl ?_;refine And.intro (aP rfl) ?_;refine aj.mk _ rfl ?_;refine aj.mk _ w ?_;refine aj.mk _ rfl ?_;refine aj.mk _ x ?_;exact hq
theorem qy (hq:∀f S,Kp (fun _=>False) e f->e.length<=S->f[S]?=some (.dictB un)->Q (.ok (.loc S)) f):Call (k+1) 72 0 [] e Q:=by refine ar (fn:=gi) rfl rfl rfl ?_;refine pEs_const k _ _ _ _ _ rfl ?_;refine aj.mk _ (ag e (.dictB []) []) ?_;refine⟨⟨rfl,by decide,rfl⟩,?_⟩;rw[cx];have d:∀x:List (List UInt8×V),(e++[ah.dictB x])[e.length]?=some (.dictB x):=fun x=>ag e _ [];have m:=hq _ _ (Kp.app (fun _=>False) e [.dictB un]) (cc _) (d _);refine yT rfl rfl (d _) (aP rfl) ?_;rw[cx];refine yT rfl rfl (d _) (aP rfl) ?_;rw[cx];refine yT rfl rfl (d _) (aP rfl) ?_;rw[cx];refine And.intro (aP rfl) ?_;refine aj.mk _ rfl ?_;refine(?_:mP k cu cm (.seq [.str [(65:UInt8).toNat],.str [(66:UInt8).toNat],.str [(67:UInt8).toNat]]) ⟨(431349919590,.loc e.length)::[],[]⟩ (e++[.dictB _]) _);refine D6 (v0:=[]) (h:=d _) (hc:=rfl) (g:=aP rfl) (hv:=fun _=>rfl) (hq:=?_);rw[cx];refine D6 (h:=d _) (hc:=rfl) (g:=aP rfl) (hv:=fun _=>rfl) (hq:=?_);rw[cx];refine D6 (h:=d _) (hc:=rfl) (g:=aP rfl) (hv:=fun _=>rfl) (hq:=?_);rw[cx];refine jI ?_;refine aj.mk _ rfl ?_;refine yT rfl rfl (d _) (aP rfl) ?_;rw[cx];refine yT rfl rfl (d _) (aP rfl) ?_;rw[cx];refine yT rfl rfl (d _) (aP rfl) ?_;rw[cx];exact m
noncomputable def OO (i:Nat):Nat:=match i with|0=>8|1=>24|2=>53|_=>23
structure IH (r:List (List UInt8)):Prop where
 mem:∀t∈r,t∈da
 bd:∀i,i<4->cs i r<=OO i
theorem BC (i:Nat)(l:List (List UInt8)):cs i (l.drop 1)<=cs i l:=by cases l with|nil=>exact cc _|cons a l=>exact pe ..
theorem LG (i s:Nat)(l:List (List UInt8)):cs i (l.take s)+cs i (l.drop s)=cs i l:=by rw[<- lG,List.take_append_drop]
theorem BD (i s:Nat)(l:List (List UInt8)):cs i (l.drop (s+1))<=cs i (l.drop s):=by have:=BC i (l.drop s);rw[List.drop_drop]at this;exact this
noncomputable def tZ:List (List UInt8):=[[91],[93],[60,60],[62,62],[82],[111,98,106],[123],[125],[48],[55],[47,66],[110,117,108,108],[40,62,62,41]]
noncomputable def Mz:List V:=[.bytes [91],.bytes [93],.bytes [60,60],.bytes [62,62],.bytes [82],.bytes [111,98,106],.bytes [123],.bytes [125],.bytes [48],.bytes [55],.bytes [47,66],.bytes [110,117,108,108],.bytes [40,62,62,41]]
theorem FN:Mz=tZ.map .bytes:=rfl
noncomputable def FM (i:Nat):Nat:=match i with|0=>1|1=>2|2=>1|_=>1
theorem wj(h:t∈tZ):t∈da/\∀i,i<4->cs i [t]<=FM i:=by
 have:(tZ.all fun t=>decide (t∈da)&&(List.range 4).all fun i=>Nat.ble (cs i [t]) (FM i))=true:=by decide+kernel
 have:=zE this t h;rw[mz]at this;exact⟨eP this.1,fun i c=>aP (zE this.2 i (List.mem_range.mpr c))⟩
theorem Lf:∀i,i<4->bd i 3+FM i<=OO i:=Jj (aP rfl) (aP rfl) (aP rfl) (aP rfl)
theorem x0(hr:gw (bd · 3) d)(k:∀t∈a,t∈d)(hb:∀t∈b,t∈d)(f:∀i,cs i a+cs i b<=cs i d)(j:o=[]\/∃t,o=[t]/\t∈tZ):IH (a++o++b):=by
 have l:∀t∈o,t∈da:=by
  rcases j with e|⟨t,e,h⟩
  ·rw[e];exact fun _ h=>absurd h dq
  ·rw[e];exact fun x hx=>List.mem_singleton.mp hx▸ (wj h).1
 have m:∀i,i<4->cs i o<=FM i:=by
  rcases j with e|⟨t,e,h⟩
  ·rw[e];exact fun _ _=>jw _
  ·rw[e];exact(wj h).2
 refine⟨fun t h=>?_,fun i g=>?_⟩
 ·rcases zG h with h|h
  ·exact(zG h).elim (fun h=>hr.mem t (k t h)) (l t)
  ·exact hr.mem t (hb t h)
 ·rw[lG,lG];have:=hr.bd i g;have:=Lf i g;have:=m i g;have:=f i;lia
theorem kg{K:Ks}(h:pB k d t b fun c b=>a9 c (pSs k a d b (me K fun d b=>pSs k w d b K)) (pSs k w d b K)):pSs k (.ite t a []::w) d b K:=h
theorem Be {k P:Nat}{ms:MS}{n:Nat}{es:List E}{vs:List V}{w:List S}{mf:MF}{K:Ks}(h:cEs es=some vs)(l:vs.length<=1000000)(hv:mf.vars.lookup 7234928=some (.loc P))(hq:Call k 70 0 [.loc P,.loc ms.length] (ms++[.list vs]) (cR fun v ms'=>pSs k w (mf.set n v) ms' K)):
  pSs k (.assign (.loc n) (.call (.val (.fn 70)) [.loc 7234928,.list es])::w) mf ms K:=by
 show uR (mf.vars.lookup 7234928) _
 rw[hv]
 refine pEs_const k mf es ms _ vs h ⟨l,hq.mono fun r ms' h=>?_⟩
 cases r with
 |error z=>exact h.elim
 |ok v=>exact h
theorem IN{k P:Nat}{ms:MS}{Q:Kv}{R:Nat}{row:List (List UInt8)}(hp:gv P ms)(hr:gw (bd · 3) row)(hR:ms[R]?=some (.list (row.map .bytes)))(nR:R≠P)
  (hq:∀ms' R' row',IH row'->Kp (· =P) ms ms'->gv P ms'->R'≠P->ms'[R']?=some (.list (row'.map .bytes))->Q (.ok (.loc R')) ms'):Call (k+3) 74 0 [.loc P,.loc R] ms Q:=by
 have nil:∀{t:List UInt8},t∈ ([]:List (List UInt8))->t∈row:=fun h=>absurd h dq
 have rl:row.length<=52:=by have:=hr.bd 2 (by exact eO _);rw[im]at this;exact this
 refine ar (fn:=j7) rfl rfl rfl ?_
 refine g9 (many:=5) hp (jv _) (aP rfl) fun ms1 w hw k1 p1=>?_
 show pSs _ _ _ _ _
 refine kg ?_
 refine bS (decide ((w:Int)=0)) ?_ ?_
 ·intro q0
  refine aj.mk _ rfl ?_
  refine a9.pos q0 ?_
  have:=x0 (o:=[]) (a:=row) (b:=[]) hr (fun _ h=>h) (fun _=>nil) (fun i=>cc _) (.inl rfl)
  rw[cF,cF]at this
  exact hq ms1 R row this k1 p1 nR (k1.at hR nR)
 ·intro q0
  refine aj.mk _ rfl ?_
  refine a9.neg q0 ?_
  show pSs (k+2) (S.assign (T.loc 491327616111) (E.call (E.val (V.fn 70)) [E.loc 7234928,E.list _])::_) _ ms1 _
  have pk:=@Be (k+2) P ms1 491327616111
  refine pk (vs:=Mz) ?_ ?_ ?_ ?_
  ·kernel_rfl
  ·exact aP rfl
  ·rfl
  rw[FN]
  have ol:(tZ.map V.bytes).length=13:=rfl
  refine oH (k:=k) (p1.mono (Kp.app (fun _=>False) ms1 [ah.list (tZ.map .bytes)]) id) (ag ms1 (.list (tZ.map .bytes)) []) (fP p1.lt) (by exact jv _) (by decide) fun ms2 v hv k2 p2=>?_
  obtain⟨t,ht,et⟩:=zF hv
  subst et
  have k02:Kp (· =P) ms ms2:=(k1.tr (Kp.app _ _ _)).tr k2
  have R2:=k02.at hR nR
  have b1:=td R2
  rw[b0]at b1
  refine aj.mk _ b1 ?_
  have r0:0<row.length:=List.length_pos_iff.mpr hr.ne
  refine g9 (many:=row.length) p2 r0 (by exact cN (by assumption) (aP rfl)) fun ms3 s hs k3 p3=>?_
  show pSs _ _ _ _ _
  refine kg ?_
  have R3:=k3.at R2 nR
  have k03:=k02.tr k3
  have gt:=L6 R3 s
  have lt3:∀x:List V,(ms3++[ah.list x]).length≠P:=fun x=>by rw[aK];have:=p3.lt;lia
  have l3:=p3.lt
  rw[<- List.map_take]at gt
  have pn:∀g:MS,gv P (ms3++g):=fun g=>p3.mono (Kp.app (fun _=>False) ms3 g) id
  have ht1:=wj ht
  have fin:∀(g:MS) (a b o:List (List UInt8)),(∀t∈a,t∈row)->(∀t∈b,t∈row)->(∀i,cs i a+cs i b<=cs i row)->(o=[]\/∃t,o=[t]/\t∈tZ)->Q (.ok (.loc (ms3++g).length)) ((ms3++g)++[ah.list ((a++o++b).map .bytes)]):=fun g a b o ha hb hab ho=>
   hq _ _ _ (x0 hr ha hb hab ho) ((k03.tr (Kp.app _ _ g)).tr (Kp.app _ _ _)) ((pn g).mono (Kp.app (fun _=>False) _ _) id) (by rw[aK];lia) (ag _ _ [])
  have tk:∀i,cs i (row.take s)+cs i (row.drop s)<=cs i row:=fun i=>iG (LG i s row)
  have tk1:∀i,cs i (row.take s)+cs i (row.drop (s+1))<=cs i row:=fun i=>bR (pc (BD i s row) _) (tk i)
  have mt:∀t∈row.take s,t∈row:=fun t h=>List.mem_of_mem_take h
  have md:∀n,∀t∈row.drop n,t∈row:=fun n t h=>List.mem_of_mem_drop h
  have ll:∀n,(row.take s).length+1+(row.drop n).length<=1000000:=fun n=>by rw[pK,List.length_drop];lia
  have asc:∀a b:ah,(ms3++[a])++[b]=ms3++[a,b]:=fun a b=>dU ..
  refine bS (decide ((w:Int)=1)) ?_ ?_
  ·intro q1
   have gd:=HW (ai [ah.list ((row.take s).map .bytes)] R3) (s+1)
   rw[<- List.map_drop]at gd
   have a1:=iX (ai [ah.list ((row.drop (s+1)).map .bytes)] (ag ms3 (.list ((row.take s).map .bytes)) [])) (ag (ms3++[ah.list ((row.take s).map .bytes)]) _ []) (by rw[aK,b0,b0];have:=ll (s+1);lia)
   rw[cI,asc]at a1
   have f:=fin [ah.list ((row.take s).map .bytes),ah.list ((row.drop (s+1)).map .bytes)] _ _ [] mt (md (s+1)) tk1 (.inl rfl)
   rw[cF]at f
   refine aj.mk _ rfl ?_
   refine a9.pos q1 ?_
   refine aj.mk _ gt ?_
   refine aj.mk _ rfl ?_
   refine aj.mk _ gd ?_
   rw[asc]
   exact aj.mk _ a1 f
  ·intro q1
   refine aj.mk _ rfl ?_
   refine a9.neg q1 ?_
   refine kg ?_
   have a0:=iX (ai [ah.list ([t].map .bytes)] (ag ms3 (.list ((row.take s).map .bytes)) [])) (ag (ms3++[ah.list ((row.take s).map .bytes)]) (.list ([t].map .bytes)) []) (by rw[aK,b0,b0];have:=ll 0;show _+1<=_;exact bR (dn ..) (by assumption))
   rw[cI,asc]at a0
   have asc3:∀a b c:ah,(ms3++[a,b])++[c]=ms3++[a,b,c]:=fun a b c=>dU ..
   have asc4:∀a b c d:ah,(ms3++[a,b,c])++[d]=ms3++[a,b,c,d]:=fun a b c d=>dU ..
   have JD:∀n,(∀i,cs i (row.take s)+cs i (row.drop n)<=cs i row)->aj (bV ((ms3++[ah.list ((row.take s).map .bytes),ah.list ([t].map .bytes)])++[ah.list ((row.take s++[t]).map .bytes)]) (.loc R) (some (.int (n:Nat))) none) fun q=>aj (c8 q.2 .add (.loc (ms3++[ah.list ((row.take s).map .bytes),ah.list ([t].map .bytes)]).length) q.1) fun q=>Q (.ok q.1) q.2:=by
    intro n hn
    have gd:=HW (ai [ah.list ((row.take s++[t]).map .bytes)] (ai [ah.list ((row.take s).map .bytes),ah.list ([t].map .bytes)] R3)) n
    rw[<- List.map_drop]at gd
    have a1:=iX (ai [ah.list ((row.drop n).map .bytes)] (ag (ms3++[ah.list ((row.take s).map .bytes),ah.list ([t].map .bytes)]) (.list ((row.take s++[t]).map .bytes)) [])) (ag ((ms3++[ah.list ((row.take s).map .bytes),ah.list ([t].map .bytes)])++[ah.list ((row.take s++[t]).map .bytes)]) (.list ((row.drop n).map .bytes)) []) (by rw[aK,b0,b0,aK];exact ll n)
    rw[cI,asc3,asc4]at a1
    rw[asc3]at gd ⊢
    rw[asc4]at gd
    exact aj.mk _ gd (aj.mk _ a1 (fin _ _ _ [t] mt (md n) hn (.inr ⟨t,rfl,ht⟩)))
   refine bS (decide ((w:Int)=2)) ?_ ?_
   ·intro q2
    refine aj.mk _ rfl ?_
    refine a9.pos q2 ?_
    refine aj.mk _ gt ?_
    refine And.intro (aP rfl) ?_
    rw[asc]
    refine aj.mk _ a0 ?_
    exact JD s tk
   ·intro q2
    refine aj.mk _ rfl ?_
    refine a9.neg q2 ?_
    refine kg ?_
    refine bS (decide ((w:Int)=3)) ?_ ?_
    ·intro q3
     refine aj.mk _ rfl ?_
     refine a9.pos q3 ?_
     refine aj.mk _ gt ?_
     refine And.intro (aP rfl) ?_
     rw[asc]
     refine aj.mk _ a0 ?_
     refine aj.mk _ rfl ?_
     exact JD (s+1) tk1
    ·intro q3
     have a2:=iX (ai [ah.list ([t].map .bytes)] R3) (ag ms3 (.list ([t].map .bytes)) []) (by rw[aK,b0,b0];show _+1<=_;exact cN (by assumption) (aP rfl))
     rw[cI]at a2
     have f:=fin [ah.list ([t].map .bytes)] row [] [t] (fun _ h=>h) (fun _=>nil) (fun i=>cc _) (.inr ⟨t,rfl,ht⟩)
     rw[cF]at f
     refine aj.mk _ rfl ?_
     refine a9.neg q3 ?_
     refine And.intro (aP rfl) ?_
     exact aj.mk _ a2 f
noncomputable abbrev RS:=List (List UInt8×List UInt8)
noncomputable def ba (a:RS):List UInt8:=a.rec [] fun p _ b=>p.1++(p.2++b)
noncomputable def JN (e:Int)(a:RS):List V:=a.rec [] fun p r b=>.int (e-(ba (p::r)).length)::b
noncomputable def fT:List (List UInt8):=[[32],[10],[37,120,32,62,62,10],[13,10,0]]
noncomputable def kh:List (List UInt8):=[[],[32],[37,121,13]]
theorem ye(h:t∈da):t.length<=5:=aP (zE (show(da.all fun t=>Nat.ble t.length 5)=true by decide+kernel) t h)
theorem x7(h:t∈fT):t.length<=6:=aP (zE (show(fT.all fun t=>Nat.ble t.length 6)=true by decide+kernel) t h)
theorem jP (x y:List UInt8)(n:(x++y).length<=1000000):c8 ms .add (.bytes x) (.bytes y)=some (.bytes (x++y),ms):=au n
noncomputable abbrev CO (P R L:Nat)(d:List UInt8)(w:List (Nat×V)):MF:=⟨(7234928,.loc P)::(7827314,.loc R)::(1635017060,.bytes d)::(126879296220272,.loc L)::w,[]⟩
theorem CP(nR:R≠P)(nL:L≠P)(nRL:R≠L):∀(us ts:List (List UInt8)) (d:List UInt8) (B:List V) (ms:MS) (w:List (Nat×V)),(∀t∈us,t∈da)->d.length+us.length*20<5000->B.length+us.length<5000->(∀v,az 474147942260 v w=[(474147942260,v)])->gv P ms->ms[R]?=some (.list (ts.map .bytes++us.map .bytes))->ms[L]?=some (.list B)->(∀ms' r w,r.map (·.1)=us->(∀p∈r,p.2∈fT)->Kp (o0 P L) ms ms'->gv P ms'->ms'[L]?=some (.list (B++JN (d.length+(ba r).length) r))->Q .next (CO P R L (d++ba r) w) ms')->mP (k+2) i9 i8 (.list R ts.length) (CO P R L d w) ms Q
 | [],ts,d,B,ms,w,hm,hd,hl,hv,hp,hR,hL,hq=>by
  have n1:=mK hR;rw[b0]at n1;have hq:=hq ms [] w rfl (fun _ h=>absurd h dq) (Kp.refl _ _) hp (by rw[show JN _ []=[]from rfl,cF];exact hL);rw[show ba []=[]from rfl,cF]at hq
  exact jI (aj.mk _ n1 hq)
 |t::us,ts,d,B,ms,w,hm,hd,hl,hv,hp,hR,hL,hq=>by
  have n1:=mL hR
  rw[b0,show ts.map V.bytes++[V.bytes t]=(ts++[t]).map V.bytes from(bZ (l₁:=ts) (l₂:=[t])).symm,b0]at n1
  have hd:d.length+(us.length+1)*20<5000:=hd
  have hl:B.length+(us.length+1)<5000:=hl
  have tl:=ye (hm t dR)
  have a1:=fx (.int d.length) hL (by lia)
  refine ry (n:=474147942260) (f:=fun v=>CO P R L d [(474147942260,v)]) (fun v=>congrArg (fun q=>MF.mk ((7234928,V.loc P)::(7827314,V.loc R)::(1635017060,V.bytes d)::(126879296220272,V.loc L)::q) []) (hv v)) ?_
  refine aj.mk _ n1 ?_
  refine aj.mk _ (fK hL) ?_
  refine aj.mk _ rfl ?_
  refine aj.mk _ a1 ?_
  have dt:(d++t).length<=5000:=by rw[aK];lia
  refine aj.mk _ (jP d t (bR dt (aP rfl))) ?_
  refine And.intro (aP rfl) ?_
  have k1:Kp (o0 P L) ms ((ms.set L (.list (B++[.int d.length])))++[.list (fT.map .bytes)]):=(Kp.set _ _ (.inr rfl)).tr (Kp.app _ _ _)
  show Call (k+2) 70 0 [.loc P,.loc (ms.set L (.list (B++[.int d.length]))).length] (ms.set L (.list (B++[.int d.length]))++[.list (fT.map .bytes)]) _
  refine oH (k:=k) (hp.mono (R:=(· =L)) ((Kp.set (P:=(· =L)) _ _ rfl).tr (Kp.app _ _ _)) (ci nL)) (ag (ms.set L (.list (B++[.int d.length]))) (.list (fT.map .bytes)) []) (by rw[sD];exact fP hp.lt) (aP rfl) (aP rfl) fun ms2 v hv2 k2 p2=>?_
  obtain⟨s,hs,e⟩:=zF hv2
  subst e
  have sl:=x7 hs
  refine aj.mk _ (jP (d++t) s (by rw[aK];lia)) ?_
  have k3:=k1.tr (k2.mono (R:=o0 P L) fun i _ e=>.inl e)
  have L2:=k2.at (ai _ (aq (.list (B++[.int d.length])) hL)) nL
  refine CP nR nL nRL us (ts++[t]) (d++t++s) (B++[.int d.length]) ms2 [(474147942260,.bytes t)] (fun x hx=>hm x (eh _ hx)) (by rw[aK,aK];lia) (by rw[aK];show B.length+1+_<_;rw[lb];assumption) (fun _=>rfl) p2 (by rw[bZ,dU];exact k3.at hR fun h=>h.elim nR nRL) L2 fun ms' r w' er hr k' p' g=>?_
  have el:ba ((t,s)::r)=t++(s++ba r):=rfl
  have e3:d++ba ((t,s)::r)=d++t++s++ba r:=by rw[el,dU,dU]
  have e1:((d++t++s).length:Int)+(ba r).length=d.length+(ba ((t,s)::r)).length:=by rw[el];simp only[aK];lia
  rw[<- e3]
  refine hq ms' ((t,s)::r) w' (congrArg (t::·) er) (fun p h=>(zC h).elim (fun e=>e▸hs) (hr p)) (k3.tr k') p' ?_
  rw[g,e1,dU,show JN (↑d.length+ ↑(ba ((t,s)::r)).length) ((t,s)::r)= .int ((d.length+(ba ((t,s)::r)).length:Int)-(ba ((t,s)::r)).length)::JN (↑d.length+ ↑(ba ((t,s)::r)).length) r from rfl,Int.add_sub_cancel];rfl
theorem Jt(U:gv P x)(hr:IH m)(X:x[R]?=some (.list (m.map .bytes)))(J:R≠P) (hq:∀d z A L,z.map (·.1)=m->(∀p∈z,p.2∈fT)->A∈kh->Kp (· =P) x d->gv P d->x.length<=L->d[L]?=some (.list (JN (A++ba z).length z))->Q (.ok (.tup [.bytes (A++ba z),.loc L])) d):Call (k+3) 75 0 [.loc P,.loc R] x Q:=by
 have rl:m.length<=53:=by have:=hr.bd 2 (by exact eO _);rw[im]at this;exact this
 refine ar (fn:=kc) rfl rfl rfl ?_;refine And.intro (aP rfl) ?_;have H:Kp (· =P) x (x++[.list (kh.map .bytes)]):=Kp.app _ _ _;refine oH (k:=k) (U.mono (Kp.app (fun _=>False) x [.list (kh.map .bytes)]) id) (ag x (.list (kh.map .bytes)) []) (fP U.lt) (aP rfl) (aP rfl) fun q v K I Y=>?_;refine(zF K).elim fun s z1=>z1.elim fun Z e=>?_;subst e;have sl:s.length<=3:=aP (zE (show(kh.all fun t=>Nat.ble t.length 3)=true by decide+kernel) s Z);have R2:=ai [.list []] ((H.tr I).at X J);refine And.intro (aP rfl) ?_;refine And.intro (aP rfl) ?_;refine And.intro rfl ?_;refine aj.mk _ (tM R2) ?_;have l2:=Y.lt;have lR:=bK ((H.tr I).at X J);have le:=(H.tr I).len;refine CP (L:=q.length) J (fP l2) (eo lR) m [] s [] _ [] hr.mem (by lia) (by rw[fm];lia) (fun _=>rfl) (Y.mono (Kp.app (fun _=>False) _ _) id) R2 (ag q _ []) fun d z w er N k' p' g=>?_;refine And.intro (aP rfl) ?_;refine hq d z s q.length er N Z ((H.tr I).trans ((Kp.app (· =P) q _).trans k' fun i h n=>n.elim id fun n=>absurd n (eo h)) fun i _ h=>h) p' le ?_;rw[g,aK,Int.natCast_add];rfl
inductive Md where|v|a (l:List O)|d (ps:List (List Nat×O))
noncomputable abbrev uP:=Except Nat (O×RS)
noncomputable def cK (t:List UInt8):Option Int:=bif decide ([48]=t)then some 0 else bif decide ([49]=t)then some 1 else bif decide ([55]=t)then some 7 else none
noncomputable def l8 (t:List UInt8)(r:RS):Option (O×RS):=(cK t).bind fun a=>r.casesOn none fun c d=>(cK c.1).bind fun b=>d.casesOn none fun e f=>bif decide (e.1=[82])then some (.ref a b,f)else none
noncomputable def iL (t:List UInt8):List Nat:=(t.drop 1).map (·.toNat)
noncomputable def vS (e:Md->RS->uP)(p:List UInt8×List UInt8)(r:RS):uP:=bif decide (p.1=[91])then e (.a []) r else bif decide (p.1=[60,60])then e (.d []) r else(l8 p.1 r).casesOn ((cT.lookup p.1).casesOn (.error (ba (p::r)).length) fun o=>.ok (o,r)) .ok
noncomputable def aS (b:Md->RS->uP)(l:List O)(p:List UInt8×List UInt8)(r:RS):uP:=bif decide (p.1=[93])then .ok (.arr (zJ l),r)else(b .v (p::r)).casesOn .error fun q=>b (.a (l++[q.1])) q.2
noncomputable def dS (a:Md->RS->uP)(b:List (List Nat×O))(p:List UInt8×List UInt8)(r:RS):uP:=bif decide (p.1=[62,62])then .ok (.dict (uQ (nY b)),r)else bif decide (p.1.take 1=[47])then(a .v r).casesOn .error fun q=>a (.d (b++[(iL p.1,q.1)])) q.2 else .error (ba (p::r)).length
noncomputable def rd (n:Nat):Md->RS->uP:=n.rec (fun _ _=>.error 0) fun _ b c d=>d.casesOn (.error 0) fun p r=>c.casesOn (vS b p r) (fun l=>aS b l p r) fun e=>dS b e p r
noncomputable def rv (i:Int):V:=.tup [.str [102,97,117,108,116],.int i]
noncomputable def As (v:V):V:=.tup [.str [111,107],v]
noncomputable def KV (v w:V):V:=.tup [.str [111,107],v,w]
noncomputable def dX (o:O):V:=.tup (tl o)
noncomputable def t6 (p:List UInt8×List UInt8):V:=.bytes p.1
noncomputable def LQ (e:Int)(h:RS)(b:Nat)(g:MS)(F:V->MS->Prop):uP->Prop| .error m=>∀a,Kp (fun _=>False) g a->F (rv (e-m)) a| .ok (o,i)=>∀a d,h=d++i->b<d.length->o.val=true->Kp (fun _=>False) g a->F (KV (dX o) (.int d.length)) a
theorem LQ.mono(h:LQ e j b l F x)(k:Kp (fun _=>False) l d)(n:b<=p):LQ e j p d F x:=match x,h with| .error m,h=>fun c g=>h c (k.tr g)| .ok (o,v),h=>fun c i r s t g=>h c i r (cN n s) t (k.tr g)
theorem Cb (b:MS)(t:List UInt8):bc b .isin (.bytes t) (.tup [.bytes [48],.bytes [49],.bytes [55]])=some (cK t).isSome:=by show some (decide ([48]=t)||(decide ([49]=t)||(decide ([55]=t)||false)))=_;unfold cK;cases decide ([48]=t)<;>cases decide ([49]=t)<;>cases decide ([55]=t)<;>rfl
theorem xj (c:MS)(h:cK t=some a):fZ c .int [.bytes t]=some (.int a,c):=by
 unfold cK at h;refine bS (decide ([48]=t)) ?_ ?_
 ·intro q;rw[q]at h;rw[<- eP q];cases h;rfl
 ·intro q;rw[q]at h;refine bS (decide ([49]=t)) ?_ ?_
  ·intro q;rw[q]at h;rw[<- eP q];cases h;rfl
  ·intro q;rw[q]at h;refine bS (decide ([55]=t)) ?_ ?_
   ·intro q;rw[q]at h;rw[<- eP q];cases h;rfl
   ·intro q;rw[q]at h;exact bN h
theorem xe{S:Nat}(t:List UInt8)(hS:b[S]?=some (.list (u.map .bytes)))(hA:b[A]?=some (.list [.bytes t])):mW 40 b (.loc S) (.loc A)=some (decide (u=[t]))/\mW 40 b (.loc A) (.loc S)=some (decide (u=[t])):=by
 have e:∀n x y:Nat,mW (n+1) b (.loc x) (.loc y)=(aC b (.loc x)).bind fun g=>(aC b (.loc y)).bind fun i=>bif g.length==i.length then jJ (mW n b) g i else some false:=fun _ _ _=>rfl;rw[e,e,b5 hS,b5 hA]
 match u with
 | []=>exact⟨rfl,rfl⟩| [x]=>
  have q:decide (x=t)=decide ([x]=[t]):=decide_eq_decide.mpr ⟨fun h=>h▸rfl,fun h=>(kr h).1⟩;have k:decide (t=x)=decide (x=t):=decide_eq_decide.mpr eq_comm;exact⟨(show some (decide (x=t)&&true)=_ by rw[Bool.and_true,q]),show some (decide (t=x)&&true)=_ by rw[Bool.and_true,k,q]⟩|x::y::r=>
  have q:decide (x::y::r=[t])=false:=cO fun h=>uF y r (kr h).2;rw[q];exact⟨rfl,rfl⟩
noncomputable def B9 (u:List (List UInt8)):Bool:=u.casesOn false fun t _=>(cK t).isSome
theorem Fd{S:Nat}(l:u.length<=1)(hS:f[S]?=some (.list (u.map .bytes)))(hA:f[A]?=some (.list [.bytes [48]]))(hB:f[B]?=some (.list [.bytes [49]]))(hC:f[C]?=some (.list [.bytes [55]])):bc f .isin (.loc S) (.tup [.loc A,.loc B,.loc C])=some (B9 u):=by
 show((mW 40 f (.loc A) (.loc S)).bind fun x=>Option.bind ((mW 40 f (.loc B) (.loc S)).bind fun x=>Option.bind ((mW 40 f (.loc C) (.loc S)).bind fun x=>Option.bind (some false) fun y=>some (x||y)) fun y=>some (x||y)) fun y=>some (x||y))=_;rw[(xe _ hS hA).2,(xe _ hS hB).2,(xe _ hS hC).2]
 match u,l with
 | [],_=>rfl| [t],_=>
  have q:∀x:List UInt8,decide ([t]=[x])=decide (x=t):=fun x=>decide_eq_decide.mpr ⟨fun h=>(kr h).1.symm,fun h=>h▸rfl⟩;show some (decide ([t]=[[48]])||(decide ([t]=[[49]])||(decide ([t]=[[55]])||false)))=some (cK t).isSome;rw[q,q,q];exact Cb f t|_::_::_,l=>exact absurd (pH l) (ko _)
theorem Qc{s:Type}(a b:List s)(x:s)(i:Nat):((a++x::b).take (a.length+1+i+1)).drop (a.length+1+i)=(b.drop i).take 1:=by
 have e:a++x::b=(a++[x])++b:=by rw[dU];rfl
 have l:(a++[x]).length=a.length+1:=aK;rw[e,List.drop_take,uG,<- l,<- List.drop_drop,List.drop_left]
theorem Ka (l:List O):tl (.arr (zJ l))= .str [97,114,114,97,121]::l.map dX:=by
 show V.str _::tl (zJ l)=_
 congr 1;induction l with|nil=>rfl|cons x l b=>exact congrArg (dX x::·) b
structure Rx (R L:Nat)(e:Int)(rs:RS)(ms:MS):Prop where
 r:ms[R]?=some (.list (rs.map t6))
 l:ms[L]?=some (.list (JN e rs))
 m:∀p∈rs,p.1∈da
theorem Rx.mono(h:Rx R L e b c)(k:Kp (fun _=>False) c a):Rx R L e b a:=⟨k.at h.r id,k.at h.l id,h.m⟩
theorem Dq (e:Int):∀(a:RS) (p:List UInt8×List UInt8) (r:RS),(JN e (a++p::r))[a.length]?=some (.int (e-(ba (p::r)).length))| [],p,r=>rfl|_::a,p,r=>Dq e a p r
theorem mc (h:Rx R L e c b):iH b .len [.loc R]=some (.int c.length,b):=by have:=td h.r;rw[b0]at this;exact this
theorem DI (h:Rx R L e d f){r:RS}(g:d=b++p::r):br f (.loc L) (.int b.length)=some (.int (e-(ba (p::r)).length)):=pz h.l (by rw[g];exact Dq e b p r)
noncomputable abbrev KR (R L:Nat)(e:Int)(a:Nat)(d:List (Nat×V)):MF:=⟨(7827314,.loc R)::(126879296220272,.loc L)::(6581861,.int e)::(29793,.int a)::d,[]⟩
theorem vO{a:RS}(c:d=a++[]):decide ((a.length:Int)>=d.length)=true:=by rw[c,cF];exact dD (Int.le_refl _)
theorem lY{b r:RS}(d:c=b++p::r):decide ((b.length:Int)>=c.length)=false/\decide ((b.length:Int)<c.length)=true:=by
 have:c.length=b.length+(r.length+1):=by rw[d,aK];rfl
 exact⟨cO (by lia),dD (by lia)⟩
theorem rJ{b:RS}(c:d=b++[]):decide ((b.length:Int)<d.length)=false:=by rw[c,cF];exact cO (Int.lt_irrefl _)
noncomputable abbrev fb (r:RS):List (List UInt8):=r.map (·.1)
def Pv (n:Nat):Prop:=∀(k c R L:Nat) (g:MS) (e:Int) (f d b:RS) (F:V->MS->Prop),f.length<64->Rx R L e f g->f=d++b->cs 0 (fb b)<=c->2*b.length+1<=n->LQ e f d.length g F (rd n .v b)->Call (k+2*c+4) 76 0 [.loc R,.loc L,.int e,.int d.length] g (cR F)
noncomputable abbrev NS (k:Nat)(s:S)(F:V->MS->Prop):Ks:=me (fun r b a=>cR F (bF r) a) fun b a=>pSs k [s] b a fun r b a=>cR F (bF r) a
noncomputable def No:S:=.ret [.ite (.cmp (.loc 29793) .ge (.call (.val (.bi .len)) [.loc 7827314])) (.tup [.val (.str [102,97,117,108,116]),.loc 6581861]) (.tup [.val (.str [111,107]),.bin .add (.tup [.val (.str [97,114,114,97,121])]) (.loc 431349919590),.bin .add (.loc 29793) (.val (.int 1))])]
def Pa (n:Nat):Prop:=∀(k c R L:Nat) (h:MS) (e:Int) (g f d:RS) (l:List O) (i:List (Nat×V)) (F:V->MS->Prop),g.length<64->Rx R L e g h->g=f++d->l.length<=f.length->cs 0 (fb d)<=c->2*d.length+2<=n->(∀v,az 431415715176 v i=[(431415715176,v)])->LQ e g f.length h F (rd n (.a l) d)->aV (k+2*c+4) eV eU (KR R L e f.length ((431349919590,.tup (l.map dX))::i)) h (NS (k+2*c+4) No F)
theorem g6{a r:RS}(d:e=a++p::r):e=(a++[p])++r/\((a++[p]).length:Int)=a.length+1/\a.length< (a++[p]).length:=by rw[dU,aK];exact⟨d,rfl,uM _⟩
theorem yc:∀{a b r s:RS},a++r=b++s->a.length<=b.length->∃c,r=c++s| [],b,r,s,h,_=>⟨b,h⟩|_::a,[],r,s,h,l=>absurd l (ko _)|_::a,_::b,r,s,h,l=>yc (kr h).2 (pH l)
theorem vu{g r:RS}(l:m=g++p::r)(i:m=h++k)(n:g.length<h.length):cs 0 (fb k)<=cs 0 (fb r):=by obtain⟨c,e⟩:=yc (a:=g++[p]) ((g6 l).1.symm.trans i) (by rw[aK];exact n);show cs 0 (k.map _)<=cs 0 (r.map _);rw[e,bZ,lG];exact pe ..
theorem Call.okF(h:Call k i j a b (cR fun v b=>Q (.ok v) b)):Call k i j a b Q:=h.mono fun r _ h=>match r,h with| .ok _,h=>h
theorem Oh(iv:Pv n)(ia:Pa n):Pa (n+1):=by
 intro k c R L w e I h M l vs F ln hx D hl hc hn hv hq;have b1:=mc hx;cases M with
 |nil=>
  have hq:=hq w (Kp.refl _ _);rw[show(e-((0:Nat):Int))=e from Int.sub_zero e]at hq;refine bu ?_;refine aj.mk _ b1 ?_;refine aj.mk _ rfl ?_;refine a9.neg (rJ D) ?_;refine a9.neg rfl ?_;refine aj.mk _ b1 ?_;refine aj.mk _ rfl ?_;refine a9.pos (vO D) ?_;exact⟨aP rfl,hq⟩|cons p r=>
  have g1:br w (.loc R) (.int h.length)=some (.bytes p.1):=h9 (f:=t6) hx.r D;have hq:LQ e I h.length w F (aS (rd n) l p r):=hq;unfold aS at hq;have ao:=g6 D;refine bu ?_;refine aj.mk _ b1 ?_;refine aj.mk _ rfl ?_;refine a9.pos (lY D).2 ?_;refine aj.mk _ g1 ?_;refine aj.mk _ rfl ?_;cases q:decide (p.1=[93])with
  |true=>
   rw[q]at hq;have hq:=hq w (h++[p]) ao.1 ao.2.2 rfl (Kp.refl _ _);unfold dX at hq;rw[Ka,ao.2.1]at hq;refine a9.neg rfl ?_;refine a9.neg rfl ?_;refine aj.mk _ b1 ?_;refine aj.mk _ rfl ?_;refine a9.neg (lY D).1 ?_;refine And.intro (aP rfl) ?_;refine aj.mk _ (pZ (x:=[.str [97,114,114,97,121]]) (y:=l.map dX) ?_) ?_
   ·rw[aK,b0];have:I.length=h.length+(r.length+1):=(by rw[D,aK];rfl);show 1+_<=_;lia
   refine aj.mk _ rfl ?_;exact⟨aP rfl,hq⟩|false=>
   rw[q]at hq;refine a9.pos rfl ?_;refine a9.pos rfl ?_;have lr:I.length=h.length+(r.length+1):=by rw[D,aK];rfl
   refine Call.okF (iv k c R L w e I h (p::r) _ ln hx D hc (by show 2*(r.length+1)+1<=n;have:2*(r.length+1)+2<=n+1:=hn;exact pH (by assumption)) ?_);have s:∀x,rd n .v (p::r)=x->LQ e I h.length w (fun v w=>pSs (k+2*c+4) [.ite (.cmp (.sub (.loc 431415715176) (.val (.int 0))) .eq (.val (.str [102,97,117,108,116]))) [.ret [.loc 431415715176]] [],.swap [431349919590,29793] (.tup [.bin .add (.loc 431349919590) (.tup [.sub (.loc 431415715176) (.val (.int 1))]),.sub (.loc 431415715176) (.val (.int 2))])] (KR R L e h.length ((431349919590,.tup (l.map dX))::[(431415715176,v)])) w (jY (NS (k+2*c+4) No F) fun mf w=>aV (k+2*c+4) eV eU mf w (NS (k+2*c+4) No F))) x:=by
    intro x ex
    rw[ex]at hq
    cases x with
    |error m=>
     intro i J
     have hq:=hq i J
     refine aj.mk _ rfl ?_
     refine aj.mk _ rfl ?_
     exact a9.pos rfl hq
    |ok q=>
     intro i o C U ov J
     have hq:LQ e I h.length w F (rd n (.a (l++[q.1])) q.2):=hq
     have lr':I.length=o.length+q.2.length:=by rw[C,aK]
     refine aj.mk _ rfl ?_
     refine aj.mk _ rfl ?_
     refine a9.neg rfl ?_
     refine aj.mk _ rfl ?_
     refine And.intro (aP rfl) ?_
     refine aj.mk _ (pZ (x:=l.map dX) (y:=[dX q.1]) (by rw[aK,b0];show _+1<=_;lia)) ?_
     refine aj.mk _ rfl ?_
     refine And.intro (aP rfl) ?_
     refine And.intro rfl ?_
     have:=ia k c R L i e I o q.2 (l++[q.1]) [(431415715176,KV (dX q.1) (.int o.length))] F ln (hx.mono J) C (by rw[aK];exact cN hl U) ?_ (by have:2*(r.length+1)+2<=n+1:=hn;lia) (fun _=>rfl) (hq.mono J (ju U))
     ·rw[bZ]at this;exact this
     ·exact bR (vu D C U) (bR (pe ..) hc)
   have s:=s _ rfl
   clear hq
   cases z:rd n .v (p::r)with
   |error m=>
    rw[z]at s
    intro i J
    show pSs (k+2*c+4) _ ⟨_::_::_::_::_::az 431415715176 _ vs,[]⟩ i _
    rw[hv]
    exact s i J
   |ok q=>
    rw[z]at s
    intro i o C U ov J
    show pSs (k+2*c+4) _ ⟨_::_::_::_::_::az 431415715176 _ vs,[]⟩ i _
    rw[hv]
    exact s i o C U ov J
noncomputable def gM (l:List (List Nat×O))(k:List Nat):O:=(l.lookup k).casesOn .null id
noncomputable def uS (l:List (List Nat×O)):List (List Nat×V):=l.map fun p=>(p.1,dX p.2)
theorem kT (k:List Nat)(o:O)(l:List (List Nat×O)):uS (l7 k o l)=ee k (dX o) (uS l):=by induction l with|nil=>rfl|cons p l a=>
  rw[rR,show uS (p::l)=(p.1,dX p.2)::uS l from rfl,qs];by_cases e:p.1=k
  ·rw[au e,au e];rfl
  ·rw[aH e,aH e,<- a];rfl
theorem kY (l:List (List Nat×O)):(uS l).map (·.1)=l.map (·.1):=fQ
theorem kQ (l:List (List Nat×O)):(uQ l).keys=l.map (·.1)/\tl (uQ l)=l.map fun p=>dX p.2:=by induction l with|nil=>exact⟨rfl,rfl⟩|cons p l a=>exact⟨congrArg (p.1::·) a.1,congrArg (dX p.2::·) a.2⟩
theorem um (k:List Nat)(l:List (List Nat×O)):(uS l).lookup k=(l.lookup k).map dX/\((l.map (·.1)).zip (l.map fun p=>dX p.2)).lookup k=(l.lookup k).map dX:=by induction l with|nil=>exact⟨rfl,rfl⟩|cons p l d=>
  rw[show uS (p::l)=(p.1,dX p.2)::uS l from rfl,show((p::l).map (·.1)).zip ((p::l).map fun p=>dX p.2)=(p.1,dX p.2)::(l.map (·.1)).zip (l.map fun p=>dX p.2)from rfl,gZ,gZ,gZ];cases k==p.1 with|true=>exact⟨rfl,rfl⟩|false=>exact d
theorem zV (p:List Nat->Bool)(l:List (List Nat)):bk (l.filter p)=(bk l).filter p:=List.Perm.eq_of_pairwise (le:=xC) (fun _ _ _ _=>kJ) (oX _) ((oX l).filter p) ((mh _).trans ((mh l).filter p).symm)
theorem Fp(n:(l.map (·.1)).Nodup):tl (.dict (uQ (l.filter fun p=>p.2.nn)))= .str [100,105,99,116]::((bk (l.map (·.1))).filter fun k=>(gM l k).nn).map fun k=>.tup [.str k,dX (gM l k)]:=by
 have hl:∀q∈l,l.lookup q.1=some q.2:=fun q h=>cg l n h;have r:(l.filter fun p=>p.2.nn).map (·.1)=(l.map (·.1)).filter fun k=>(gM l k).nn:=by
  rw[List.filter_map]
  congr 1;refine List.filter_congr fun q h=>?_;show _=(gM l q.1).nn;unfold gM;rw[hl q h];rfl
 show V.str _::uj (uQ _).keys (tl (uQ _))=_;rw[(kQ _).1,(kQ _).2]
 congr 1;show(bk ((l.filter fun p=>p.2.nn).map (·.1))).map _=_;rw[<- zV,<- r];refine uL fun k hk=>?_;refine(zF (List.mem_mergeSort.mp hk)).elim fun q s=>s.elim fun hq e=>?_;have t:(l.filter fun p=>p.2.nn).lookup k=some q.2:=e▸cg _ (n.sublist (List.filter_sublist.map _)) hq;have u:gM l k=q.2:=by unfold gM;rw[<- e,hl q (List.mem_filter.mp hq).1];rfl
 rw[(um k _).2,t,u];rfl
theorem jr (d:MS)(a:List Nat)(r:List V)(h:decide (a=[110,117,108,108])=false):bc d .ne (.tup (.str a::r)) (.tup [.str [110,117,108,108]])=some true:=by cases r with|nil=>show some (!(decide (a=[110,117,108,108])&&true))=_;rw[h];rfl|cons=>show some (!(decide (a=[110,117,108,108])&&false))=_;rw[h];rfl
theorem FC (a:MS):∀{o:O},o.val=true->bc a .ne (dX o) (.tup [.str [110,117,108,108]])=some o.nn| .null,_=>rfl| .bool _,_=>jr a _ _ rfl| .int _,_=>jr a _ _ rfl| .real _ _,_=>jr a _ _ rfl| .name _,_=>jr a _ _ rfl| .str _ _,_=>jr a _ _ rfl| .ref _ _,_=>jr a _ _ rfl| .arr l,_=>jr a _ (tl l) rfl| .dict l,_=>jr a _ (uj l.keys (tl l)) rfl| .nil,h=>Bool.noConfusion h| .cons _ _ _,h=>Bool.noConfusion h
theorem CI(nd:(l.map (·.1)).Nodup)(hv:∀p∈l,p.2.val=true){E:Nat}(wD:w≠D)(wC:w≠C)(wE:w≠E):∀(L M:List (List Nat)) (out:List V) (j:MS) (F:List (Nat×V)),(∀x∈L,x∈l.map (·.1))->j[D]?=some (.list (M.map .str++L.map .str))->j[C]?=some (.cell (some (.loc E)))->j[E]?=some (.dictS (uS l))->j[w]?=some (.list out)->out.length+L.length<1000->(∀v,az 7955819 v F=[(7955819,v)])->(∀b,Kp (· =w) j b->b[w]?=some (.list (out++(L.filter fun k=>(gM l k).nn).map fun k=>.tup [.str k,dX (gM l k)]))->Q b)->j0 k 7955819 [.cmp (.sub (.cell 431349919590) (.loc 7955819)) .ne (.tup [.val (.str [110,117,108,108])])] (.tup [.loc 7955819,.sub (.cell 431349919590) (.loc 7955819)]) w (.list D M.length) ⟨F,[(431349919590,C)]⟩ j Q
 | [],M,out,j,F,Z,hD,hC,hE,hw,ln,hs,hq=>by
  have n1:=mK hD;rw[b0]at n1;exact eS hs (aj.mk _ n1 (hq j (Kp.refl _ _) (by rw[List.filter_nil,o9,cF];exact hw)))|s::L,M,out,j,F,Z,hD,hC,hE,hw,ln,hs,hq=>by
  have n1:=mL hD;rw[b0,show M.map V.str++[V.str s]=(M++[s]).map V.str from(bZ (l₁:=M) (l₂:=[s])).symm,b0]at n1;have ⟨q,hm,e⟩:=zF (Z s dR);have e0:gM l s=q.2:=by unfold gM;rw[<- e,cg l nd hm];rfl
  have g1:∀b,Kp (· =w) j b->br b (.loc E) (.str s)=some (dX (gM l s)):=fun b X=>Fh (X.at hE (ci wE)) (by rw[(um s l).1,e0,<- e,cg l nd hm];rfl);have c1:∀b,Kp (· =w) j b->bn ⟨[(7955819,V.str s)],[(431349919590,C)]⟩ 431349919590 b=_:=fun b X=>aD rfl (X.at hC (ci wC));have nn:=FC j (o:=gM l s) (e0▸hv q hm);have ln:out.length+(L.length+1)<1000:=ln;have kk:=Kp.refl (· =w) j;have nx:∀(b:MS) (t:List V),Kp (· =w) j b->b[w]?=some (.list t)->t.length<=out.length+1->(t++(L.filter fun k=>(gM l k).nn).map fun k=>.tup [.str k,dX (gM l k)])=(out++((s::L).filter fun k=>(gM l k).nn).map fun k=>.tup [.str k,dX (gM l k)])->j0 k 7955819 [.cmp (.sub (.cell 431349919590) (.loc 7955819)) .ne (.tup [.val (.str [110,117,108,108])])] (.tup [.loc 7955819,.sub (.cell 431349919590) (.loc 7955819)]) w (.list D (M++[s]).length) ⟨[(7955819,.str s)],[(431349919590,C)]⟩ b Q:=fun b t X hw' hl e=>by
   refine CI nd hv wD wC wE L (M++[s]) t b _ (fun x h=>Z x (eh _ h)) ?_ (X.at hC (ci wC)) (X.at hE (ci wE)) hw' (by lia) (fun _=>rfl) fun ms2 k2 g=>hq ms2 (X.tr k2) (by rw[g,e])
   rw[bZ,dU];exact X.at hD (ci wD)
  refine eS hs ?_
  refine aj.mk _ n1 ?_
  refine aj.mk _ (c1 j kk) ?_
  refine aj.mk _ (g1 j kk) ?_
  refine And.intro (aP rfl) ?_
  refine aj.mk _ nn ?_
  cases z:(gM l s).nn with
  |true=>
   refine a9.pos rfl ?_
   refine aj.mk _ (c1 j kk) ?_
   refine aj.mk _ (g1 j kk) ?_
   refine And.intro (aP rfl) ?_
   refine aj.mk _ (b5 hw) ?_
   refine And.intro (by lia) ?_
   exact nx _ (out++[.tup [.str s,dX (gM l s)]]) (Kp.set (P:=(· =w)) _ _ rfl) (aq _ hw) (by rw[aK];exact cc _) (by rw[Al (by exact z),dU];rfl)
  |false=>
   refine a9.neg rfl ?_
   exact nx j out kk hw (eO _) (by rw[yq (by rw[z];exact Bool.noConfusion)])
theorem oK (a:List (List Nat×O))(k:List Nat)(o:O):dM (a++[(k,o)]) []=l7 k o (dM a []):=List.foldl_append
theorem t8 (k:List Nat)(o:O)(l:List (List Nat×O)):(l7 k o l).length<=l.length+1:=by have:=xV k (dX o) (uS l);rw[<- kT]at this;unfold uS at this;rw[b0,b0]at this;exact this
theorem t9(h:p∈l7 k o l):p.2=o\/p∈l:=by induction l with
 |nil=>exact .inl (congrArg Prod.snd (List.mem_singleton.mp h))|cons q r b=>
  rw[rR]at h;by_cases e:q.1=k
  ·rw[au e]at h;exact(zC h).imp (fun e=>congrArg Prod.snd e) (eh _)
  ·rw[aH e]at h;exact(zC h).elim (fun e=>.inr (e▸dR)) fun h=>(b h).imp id (eh _)
structure Ds (ps:List (List Nat×O))(n:Nat):Prop where
 nd:((dM ps []).map (·.1)).Nodup
 v:∀p∈dM ps [],p.2.val=true
 l:(dM ps []).length<=n
theorem Ds.app(d:Ds c n)(k:List Nat)(h:o.val=true)(f:n<m):Ds (c++[(k,o)]) m:=by
 have e:=oK c k o;refine⟨?_,?_,?_⟩
 ·rw[e,<- kY,kT];exact wl (by rw[kY];exact d.nd)
 ·rw[e];exact fun p g=>(t9 g).elim (fun e=>e▸h) (d.v p)
 ·rw[e];exact bR (t8 ..) (bR (pJ d.l) f)
noncomputable def OT:List S:=[.ite (.cmp (.loc 29793) .ge (.call (.val (.bi .len)) [.loc 7827314])) [.ret [.tup [.val (.str [102,97,117,108,116]),.loc 6581861]]] [],.asgc 1953523051 (.comp [431349919590] 7955819 (.call (.val (.bi .sorted)) [.call (.val (.ty .list)) [.cell 431349919590]]) [.cmp (.sub (.cell 431349919590) (.loc 7955819)) .ne (.tup [.val (.str [110,117,108,108])])] (.tup [.loc 7955819,.sub (.cell 431349919590) (.loc 7955819)])),.ret [.tup [.val (.str [111,107]),.bin .add (.tup [.val (.str [100,105,99,116])]) (.call (.val (.ty .tuple)) [.loc 1953523051]),.bin .add (.loc 29793) (.val (.int 1))]]]
noncomputable abbrev NN (k:Nat)(F:V->MS->Prop):Ks:=me (fun r b a=>cR F (bF r) a) fun b a=>pSs k OT b a fun r b a=>cR F (bF r) a
noncomputable abbrev LL (R L:Nat)(e:Int)(a:Int)(d:List (Nat×V))(h:Nat):MF:=⟨(7827314,.loc R)::(126879296220272,.loc L)::(6581861,.int e)::(29793,.int a)::d,[(431349919590,h)]⟩
structure HA (base:MS)(h D:Nat)(l:List (List Nat×O))(ms:MS):Prop where
 b:Kp (fun _=>False) base ms
 lh:base.length<=h
 lD:base.length<=D
 n:D≠h
 c:ms[h]?=some (.cell (some (.loc D)))
 d:ms[D]?=some (.dictS (uS l))
theorem HA.mono(d:HA a h D l f)(k:Kp (fun _=>False) f e):HA a h D l e:=⟨d.b.tr k,d.lh,d.lD,d.n,k.at d.c id,k.at d.d id⟩
theorem HA.put(d:HA a h D l m)(k:List Nat)(o:O):HA a h D (l7 k o l) (m.set D (.dictS (ee k (dX o) (uS l)))):=⟨d.b.fresh (Kp.set (P:=(· =D)) _ _ rfl) fun i e=>e▸d.lD,d.lh,d.lD,d.n,aW _ d.n d.c,by rw[kT];exact aq _ d.d⟩
theorem EM(h:f[l]?=some (.list (g.map .str)))(n:g.length<64):iH f .sorted [.loc l]=some (.loc f.length,f++[.list ((bk g).map .str)]):=by show(f[l]?).bind _=_;rw[h];show Option.bind (if(g.map V.str).length<64 then jk (g.map .str)else none) _=_;rw[au (by rw[b0];exact n),qm];rfl
theorem Gi(h:b[l]?=some (.dictS e)):fZ b .list [.loc l]=some (.loc b.length,b++[.list (e.map fun p=>.str p.1)]):=by show(b[l]?).bind _=_;rw[h];rfl
noncomputable abbrev fk (l:List (List Nat×O)):List (List Nat):=l.map (·.1)
theorem I6(Y:∀v,∃w,az 1953523051 v H=w/\w.lookup 1953523051=some v)(M:(fk l).Nodup)(Z:∀p∈l,p.2.val=true)(ln:l.length<64)(hd:HA z h D l o) (hq:∀s,Kp (fun _=>False) z s->F (KV (dX (.dict (uQ (l.filter fun p=>p.2.nn)))) (.int (A+1))) s):pSs k OT.tail (LL R L e A H h) o fun r mf o=>cR F (bF r) o:=by
 have c1:bn (LL R L e A H h) 431349919590 o=_:=aD rfl hd.c;have P:=Gi hd.d;rw[show(uS l).map (fun p=>V.str p.1)=(fk l).map .str by unfold uS fk;rw[fQ,fQ];rfl]at P;have g1:=ag o (.list ((fk l).map .str)) [];have b1:=EM g1 (by rw[b0];exact ln);have Q:=ag (o++[.list ((fk l).map .str)]) (.list ((bk (fk l)).map .str)) [];have I:Kp (fun _=>False) o (((o++[.list ((fk l).map .str)])++[.list ((bk (fk l)).map .str)])++[.list []]):=((Kp.app _ o _).tr (Kp.app _ _ _)).tr (Kp.app _ _ _);have y:((o++[ah.list ((fk l).map .str)])++[ah.list ((bk (fk l)).map .str)]).length=o.length+2:=by rw[aK,aK];rfl
 have lc:=bK hd.c;have lD:=bK hd.d;have sl:(bk (fk l)).length=l.length:=(yu _).trans (b0 _);refine aj.mk _ c1 ?_;refine aj.mk _ P ?_;refine aj.mk _ b1 ?_;refine aj.mk _ (tM Q) ?_;refine And.intro rfl ?_;refine CI (l:=l) (C:=h) (E:=D) M Z (by rw[y,aK];show _≠o.length+1-1+1;lia) (by rw[y];lia) (by rw[y];lia) (bk (fk l)) [] [] _ [] (fun x h=>List.mem_mergeSort.mp h) (ai _ Q) (I.at hd.c id) (I.at hd.d id) (ag _ _ []) (by rw[sl];show 0+_<_;lia) (fun _=>rfl) fun s k' g=>?_;refine(Y (.loc (o.length+2))).elim fun w z1=>z1.elim fun e1 e2=>?_;have hq:=hq s (hd.b.tr (I.fresh k' fun i h=>by rw[y]at h;lia));have X:=D0 g;rw[y]at X;unfold dX at hq;rw[Fp M]at hq;rw[y];show pSs k _ ⟨_::_::_::_::az 1953523051 (.loc (o.length+2)) H,_⟩ s _;rw[e1];refine And.intro (aP rfl) ?_
 refine bY e2 ?_
 refine aj.mk _ X ?_
 refine aj.mk _ (pZ (x:=[.str [100,105,99,116]]) ?_) ?_
 ·have:=List.length_filter_le (fun k=>(gM l k).nn) (bk (fk l))
  rw[aK,Ao,b0]
  show 1+_<=_
  unfold dX at*
  lia
 refine aj.mk _ rfl ?_
 exact⟨aP rfl,hq⟩
def Hv (a:List (Nat×V)):Prop:=a=[]\/∃w,a=[(431415715176,w)]
theorem Hv.h(h:Hv a)(v:V):az 431415715176 v a=[(431415715176,v)]:=h.elim (fun e=>by subst e;rfl) fun h=>h.elim fun _ e=>by subst e;rfl
theorem Hv.k(h:Hv b)(v:V):∃a,az 1953523051 v b=a/\a.lookup 1953523051=some v:=⟨_,rfl,h.elim (fun e=>by subst e;rfl) fun h=>h.elim fun _ e=>by subst e;rfl⟩
def Pd (n:Nat):Prop:=∀(k c R L:Nat) (f l:MS) (e:Int) (i g b:RS) (j:List (List Nat×O)) (h D:Nat) (m:List (Nat×V)) (F:V->MS->Prop),i.length<64->Rx R L e i f->HA f h D (dM j []) l->Ds j g.length->i=g++b->cs 0 (fb b)<=c->2*b.length+2<=n->Hv m->LQ e i g.length f F (rd n (.d j) b)->aV (k+2*c+4) fF fE (LL R L e g.length m h) l (NN (k+2*c+4) F)
theorem Gl (g:MS)(h:t∈da)(q:decide (t.take 1=[47])=true):iZ g (.bytes (t.drop 1)) 111482039919972 [.str [97,115,99,105,105]]=some (.str (iL t),g):=by
 have:(da.all fun t=>!decide (t.take 1=[47])||decide (t∈[[47,65],[47,66],[47,67]]))=true:=by decide+kernel
 have:=zE this t h;rw[q]at this;have m:t∈[[47,65],[47,66],[47,67]]:=eP this;rcases zC m with e|m
 ·subst e;rfl
 rcases zC m with e|m
 ·subst e;rfl
 ·rw[List.mem_singleton.mp m];rfl
theorem Oi(iv:Pv n)(id':Pd n):Pd (n+1):=by
 intro k c R L C N e rs t rest ps h D vs F ln hx hd ds G hc hn hv hq;have P:=hx.mono hd.b;have b1:=mc P;have ll:=ds.l;cases rest with
 |nil=>
  have hq:=hq N hd.b;rw[show(e-((0:Nat):Int))=e from Int.sub_zero e]at hq;refine bu ?_;refine aj.mk _ b1 ?_;refine aj.mk _ rfl ?_;refine a9.neg (rJ G) ?_;refine a9.neg rfl ?_;refine aj.mk _ b1 ?_;refine aj.mk _ rfl ?_;refine a9.pos (vO G) ?_;exact⟨aP rfl,hq⟩|cons p r=>
  have lr:rs.length=t.length+(r.length+1):=by rw[G,aK];rfl
  have g1:br N (.loc R) (.int t.length)=some (.bytes p.1):=h9 (f:=t6) P.r G;have hq:LQ e rs t.length C F (dS (rd n) ps p r):=hq;unfold dS at hq;have ao:=g6 G;refine bu ?_;refine aj.mk _ b1 ?_;refine aj.mk _ rfl ?_;refine a9.pos (lY G).2 ?_;refine aj.mk _ g1 ?_;refine aj.mk _ rfl ?_;cases q:decide (p.1=[62,62])with
  |true=>
   rw[q]at hq;refine a9.neg rfl ?_;refine a9.neg rfl ?_;refine aj.mk _ b1 ?_;refine aj.mk _ rfl ?_;refine a9.neg (lY G).1 ?_;refine I6 hv.k ds.nd ds.v (by lia) hd fun j Q=>?_;have hq:=hq j (t++[p]) ao.1 ao.2.2 rfl Q;rw[ao.2.1]at hq;exact hq|false=>
   rw[q]at hq;refine a9.pos rfl ?_;refine a9.pos rfl ?_;show pSs _ _ _ _ _;refine kg ?_;refine aj.mk _ g1 ?_;refine aj.mk _ rfl ?_;refine aj.mk _ rfl ?_;cases q2:decide (p.1.take 1=[47])with
   |false=>
    rw[q2]at hq;have hq:=hq N hd.b;refine a9.pos (by show(!decide (p.1.take 1=[47]))=true;rw[q2];rfl) ?_;refine aj.mk _ (DI P G) ?_
    exact⟨aP rfl,hq⟩
   |true=>
    rw[q2]at hq
    refine a9.neg (by show(!decide (p.1.take 1=[47]))=false;rw[q2];rfl) ?_
    refine aj.mk _ rfl ?_
    refine Call.okF ?_
    rw[<- ao.2.1]
    refine iv k c R L N e rs (t++[p]) r _ ln P ao.1 (bR (pe ..) hc) (by have:2*(r.length+1)+2<=n+1:=hn;lia) ?_
    have B:∀x,rd n .v r=x->LQ e rs (t++[p]).length N (fun v N=>pSs (k+2*c+4) [.ite (.cmp (.sub (.loc 431415715176) (.val (.int 0))) .eq (.val (.str [102,97,117,108,116]))) [.ret [.loc 431415715176]] [],.assign (.sub (.cell 431349919590) (.meth (.slice (.sub (.loc 7827314) (.loc 29793)) [.val (.int 1)] []) 111482039919972 [.val (.str [97,115,99,105,105])])) (.sub (.loc 431415715176) (.val (.int 1))),.assign (.loc 29793) (.sub (.loc 431415715176) (.val (.int 2)))]
      (LL R L e t.length [(431415715176,v)] h) N (jY (NN (k+2*c+4) F) fun mf N=>aV (k+2*c+4) fF fE mf N (NN (k+2*c+4) F))) x:=by
     intro x ex
     rw[ex]at hq
     cases x with
     |error m=>
      intro j Q
      have hq:=hq j (hd.b.tr Q)
      refine aj.mk _ rfl ?_
      refine aj.mk _ rfl ?_
      exact a9.pos rfl hq
     |ok y=>
      intro j u K lt ov Q
      have hq:LQ e rs t.length C F (rd n (.d (ps++[(iL p.1,y.1)])) y.2):=hq
      have lt':=pg ao.2.2 lt
      have Y:=hd.mono Q
      refine aj.mk _ rfl ?_
      refine aj.mk _ rfl ?_
      refine a9.neg rfl ?_
      refine aj.mk _ rfl ?_
      refine aj.mk _ (aD rfl Y.c) ?_
      refine aj.mk _ (h9 (f:=t6) (hx.mono Y.b).r G) ?_
      refine aj.mk _ (tI 1) ?_
      refine aj.mk _ rfl ?_
      refine aj.mk _ (Gl j (hx.m p (G▸iD _ dR)) q2) ?_
      refine aj.mk _ (MM Y.d (by unfold uS;rw[b0];lia)) ?_
      refine aj.mk _ rfl ?_
      have hp:=Y.put (iL p.1) y.1
      rw[<- oK]at hp
      exact id' k c R L C _ e rs u y.2 (ps++[(iL p.1,y.1)]) h D [(431415715176,KV (dX y.1) (.int u.length))] F ln hx hp (ds.app _ ov lt') K (bR (vu G K lt') (bR (pe ..) hc)) (by
       have:rs.length=u.length+y.2.length:=by rw[K,aK]
       have:2*(r.length+1)+2<=n+1:=hn
       lia) (.inr ⟨_,rfl⟩) (hq.mono (Kp.refl _ _) (ju lt'))
    have B:=B _ rfl
    clear hq
    cases z:rd n .v r with
    |error m=>
     rw[z]at B
     intro j Q
     show pSs (k+2*c+4) _ ⟨_::_::_::_::az 431415715176 _ vs,_⟩ j _
     rw[hv.h]
     exact B j Q
    |ok q=>
     rw[z]at B
     intro j u K lt ov Q
     show pSs (k+2*c+4) _ ⟨_::_::_::_::az 431415715176 _ vs,_⟩ j _
     rw[hv.h]
     exact B j u K lt ov Q
theorem Ah:∀{t:List UInt8} {o:O},cT.lookup t=some o->o.val=true:=by
 have c:∀(l:List (List UInt8×O)),(l.all fun p=>p.2.val)=true->∀{t:List UInt8} {o:O},l.lookup t=some o->o.val=true:=by intro l;induction l with
  |nil=>exact fun _ _ _ h=>bN h|cons p l f=>
   intro h t o e;have h:=zB (show(p.2.val&&l.all fun p=>p.2.val)=true from h);rw[gZ]at e;refine bS (t==p.1) ?_ ?_
   ·intro q;rw[q]at e;cases e;exact h.1
   ·intro q;rw[q]at e;exact f h.2 e
 intro t o;exact c cT rfl
theorem oZ (t:List UInt8):un.lookup t=(cT.lookup t).map dX:=by
 have d:∀l:List (List UInt8×O),(l.map fun p=>(p.1,V.tup (tl p.2))).lookup t=(l.lookup t).map dX:=by
  intro l;induction l with|nil=>rfl|cons p l f=>
   rw[iE,gZ,gZ];cases t==p.1 with
   |true=>rfl|false=>exact f
 exact d cT
theorem ki (t:List UInt8)(r:RS):(∃a b f c d,r=f::c::d/\cK t=some a/\cK f.1=some b/\decide (c.1=[82])=true/\l8 t r=some (.ref a b,d))\/(l8 t r=none/\((cK t).isSome&&(B9 ((fb r).take 1)&&decide (((fb r).drop 1).take 1=[[82]])))=false):=by unfold l8;cases h:cK t with|none=>exact .inr ⟨rfl,rfl⟩|some a=>match r with
  | []=>exact .inr ⟨rfl,rfl⟩|f::i=>
   show(∃k b j c d,f::i=j::c::d/\some a=some k/\cK j.1=some b/\_/\((cK f.1).bind fun b=>i.casesOn none fun c d=>bif decide (c.1=[82])then some (O.ref a b,d)else none)=_)\/(((cK f.1).bind fun b=>i.casesOn none fun c d=>bif decide (c.1=[82])then some (O.ref a b,d)else none)=none/\((cK f.1).isSome&&decide ((fb i).take 1=[[82]]))=false);cases l:cK f.1 with|none=>exact .inr ⟨rfl,rfl⟩|some b=>match i with
    | []=>exact .inr ⟨rfl,rfl⟩|c::d=>
     refine bS (decide (c.1=[82])) ?_ ?_
     ·intro q;exact .inl ⟨a,b,f,c,d,rfl,rfl,l,q,by show(bif decide (c.1=[82])then _ else _)=_;rw[q];rfl⟩
     ·intro q;exact .inr ⟨by show(bif decide (c.1=[82])then _ else _)=_;rw[q];rfl,cO fun e=>sy q (kr e).1⟩
noncomputable def Qb:List S:=[.ite (.cmp (.sub (.loc 7827314) (.loc 29793)) .isin (.call (.val (.fn 72)) [])) [.ret [.tup [.val (.str [111,107]),.sub (.call (.val (.fn 72)) []) (.sub (.loc 7827314) (.loc 29793)),.bin .add (.loc 29793) (.val (.int 1))]]] [],.ret [.tup [.val (.str [102,97,117,108,116]),.sub (.loc 126879296220272) (.loc 29793)]]]
theorem FY{d r:RS}(t:x=d++p::r)(hx:Rx R L e x l)(hq:LQ e x d.length l F ((cT.lookup p.1).casesOn (.error (ba (p::r)).length) fun o=>.ok (o,r))):pSs (k+1) Qb (KR R L e d.length []) l fun r I l=>cR F (bF r) l:=by
 have v:=g6 t;have y:∀i,Kp (fun _=>False) l i->br i (.loc R) (.int d.length)=some (.bytes p.1):=fun i D=>h9 (f:=t6) (hx.mono D).r t;refine aj.mk _ (y l (Kp.refl _ _)) ?_;refine qy fun j S s _ hS=>?_;have q:bc j .isin (.bytes p.1) (.loc S)=some (un.lookup p.1).isSome:=by show(j[S]?).bind _=_;rw[hS];rfl
 rw[oZ]at q;refine El (cT.lookup p.1) ?_ ?_
 ·intro z;rw[z]at hq q;refine aj.mk _ q ?_;refine a9.neg rfl ?_;refine aj.mk _ (DI (hx.mono s) t) ?_;exact⟨aP rfl,hq j s⟩
 ·intro o z;rw[z]at hq q;refine aj.mk _ q ?_;refine a9.pos rfl ?_;refine qy fun h A B _ w=>?_;have G:br h (.loc A) (.bytes p.1)=some (dX o):=by
   show(h[A]?).bind _=_;rw[w];show un.lookup p.1=_;rw[oZ,z];rfl
  have hq:=hq h (d++[p]) v.1 v.2.2 (Ah z) (s.tr B);rw[v.2.1]at hq;refine aj.mk _ (y h (s.tr B)) ?_;refine aj.mk _ G ?_;refine aj.mk _ rfl ?_;exact⟨aP rfl,hq⟩
theorem Bb(o:Pa n)(p:i.length<64)(hx:Rx R L e i j)(q:i=g++f)(hc:cs 0 (fb f)<=c)(r:2*f.length+2<=n)(hq:LQ e i g.length j F (rd n (.a []) f)):Call (k+2*c+5) 77 0 [.loc R,.loc L,.int e,.int g.length] j (cR F):=by refine ar (fn:=i6) rfl rfl rfl ?_;refine And.intro (aP rfl) ?_;exact o k c R L j e i g f [] [] F p hx q (jw _) hc r (fun _=>rfl) hq
theorem y2(t:Pd n)(v:s.length<64)(hx:Rx R L e s b)(w:s=m++g)(hc:cs 0 (fb g)<=c)(x:2*g.length+2<=n)(hq:LQ e s m.length b F (rd n (.d []) g)):Call (k+2*c+5) 78 0 [.loc R,.loc L,.int e,.int m.length] b (cR F):=by refine gC (fn:=j8) rfl rfl ?_;have y:=nT b 431349919590 b.length (.loc (b.length+1)) (LL R L e m.length [] b.length) [.dictS []] rfl;have z:(b++[ah.cell none])++[.dictS []]=b++[.cell none,.dictS []]:=dU ..;have A:(b++[ah.cell none]).length=b.length+1:=aK;show aj (iy _ 431349919590 (.loc (b++[ah.cell none]).length) ((b++[ah.cell none])++[.dictS []])) _;rw[z,A];refine aj.mk _ y ?_;refine t k c R L b _ e s m g [] b.length (b.length+1) [] F v hx ⟨Kp.app _ _ _,cc _,eO _,Nat.succ_ne_self _,ag b _ _,?_⟩ ⟨sE,fun _ h=>absurd h dq,jw _⟩ w hc x (.inl rfl) hq;rw[my (eO _),show b.length+1-b.length=1 by rw[uG]];rfl
theorem HM{r:RS}(h:cs 0 (fb (p::r))<=c)(q:p.1=[91]\/p.1=[60,60]):∃a,c=a+1/\cs 0 (fb r)<=a:=by have e:cs 0 (fb (p::r))=(if p.1=[91]\/p.1=[60,60]then 1 else 0)+cs 0 (fb r):=rfl;rw[e,au q]at h;exact⟨c-1,(Nat.sub_add_cancel (bR (dn 1 _) h)).symm,Nat.le_sub_of_add_le' h⟩
theorem xS (r:RS):r.map t6=(fb r).map .bytes:=by show _=(r.map (·.1)).map V.bytes;rw[fQ];rfl
theorem O0{b r:RS}(j:h=b++p::r)(i:Nat):((h.map t6).take (b.length+1+i+1)).drop (b.length+1+i)=(((fb r).drop i).take 1).map .bytes:=by
 have e:h.map t6=b.map t6++t6 p::r.map t6:=by rw[j,bZ];rfl
 have:=Qc (b.map t6) (r.map t6) (t6 p) i;rw[b0]at this;rw[e,this,xS,List.map_take,List.map_drop]
theorem DD{j r:RS}(w:I=j++p::r)(hx:Rx R L e I l)(x:B.vars.lookup 7827314=some (.loc R))(q:B.vars.lookup 29793=some (.int j.length)) (hq:∀s,Kp (fun _=>False) l s->Q ((cK p.1).isSome&&(B9 ((fb r).take 1)&&decide (((fb r).drop 1).take 1=[[82]]))) s):pB k B (.and [.cmp (.sub (.loc 7827314) (.loc 29793)) .isin (.tup [.val (.bytes [48]),.val (.bytes [49]),.val (.bytes [55])]),.cmp (.slice (.loc 7827314) [.bin .add (.loc 29793) (.val (.int 1))] [.bin .add (.loc 29793) (.val (.int 2))]) .isin (.tup [.list [.val (.bytes [48])],.list [.val (.bytes [49])],.list [.val (.bytes [55])]]),.cmp (.slice (.loc 7827314) [.bin .add (.loc 29793) (.val (.int 2))] [.bin .add (.loc 29793) (.val (.int 3))]) .eq (.list [.val (.bytes [82])])]) l Q:=by
 have z:=HX hx.r (j.length+1) (j.length+1+1);rw[O0 w 0]at z;obtain⟨u,hu⟩:∃u,u=((fb r).drop 0).take 1:=⟨_,rfl⟩;have M:u.length<=1:=hu▸List.length_take_le ..;rw[<- hu]at z;rw[show(fb r).take 1=u from hu.symm]at hq;have A:Kp (fun _=>False) l ((((l++[ah.list (u.map .bytes)])++[ah.list [.bytes [48]]])++[ah.list [.bytes [49]]])++[ah.list [.bytes [55]]]):=(((Kp.app _ l _).tr (Kp.app _ _ _)).tr (Kp.app _ _ _)).tr (Kp.app _ _ _);have N:=Fd M (ai [ah.list [.bytes [55]]] (ai [ah.list [.bytes [49]]] (ai [ah.list [.bytes [48]]] (ag l (.list (u.map .bytes)) [])))) (ai [ah.list [.bytes [55]]] (ai [ah.list [.bytes [49]]] (ag (l++[ah.list (u.map .bytes)]) (.list [.bytes [48]]) []))) (ai [ah.list [.bytes [55]]] (ag ((l++[ah.list (u.map .bytes)])++[ah.list [.bytes [48]]]) (.list [.bytes [49]]) [])) (ag (((l++[ah.list (u.map .bytes)])++[ah.list [.bytes [48]]])++[ah.list [.bytes [49]]]) (.list [.bytes [55]]) []);have C:=HX (hx.mono A).r (j.length+1+1) (j.length+1+1+1);rw[O0 w 1]at C;have P:∀u:List V,Kp (fun _=>False) l ((_++[ah.list u])++[ah.list [.bytes [82]]]):=fun u=>(A.tr (Kp.app _ _ _)).tr (Kp.app _ _ _);have U:=(xe (u:=((fb r).drop 1).take 1) [82] (ai [ah.list [.bytes [82]]] (ag ((((l++[ah.list (u.map .bytes)])++[ah.list [.bytes [48]]])++[ah.list [.bytes [49]]])++[ah.list [.bytes [55]]]) (.list ((((fb r).drop 1).take 1).map .bytes)) [])) (ag _ _ [])).1;refine bY x (bY q ?_);refine aj.mk _ (h9 (f:=t6) hx.r w) ?_;refine And.intro (aP rfl) ?_;refine aj.mk _ (Cb l p.1) ?_;cases F:(cK p.1).isSome with
 |false=>
  have hq:=hq l (Kp.refl _ _);rw[F]at hq;exact a9.neg rfl hq|true=>
  rw[F]at hq;refine a9.pos rfl ?_;refine bY x (bY q ?_);refine aj.mk _ rfl ?_;refine bY q ?_;refine aj.mk _ rfl ?_;refine aj.mk _ z ?_;refine And.intro (aP rfl) ?_;refine And.intro (aP rfl) ?_;refine And.intro (aP rfl) ?_;refine And.intro (aP rfl) ?_;refine aj.mk _ N ?_;cases G:B9 u with
  |false=>
   have hq:=hq _ A;rw[G]at hq;exact a9.neg rfl hq|true=>
   rw[G]at hq;refine a9.pos rfl ?_;refine bY x (bY q ?_);refine aj.mk _ rfl ?_;refine bY q ?_;refine aj.mk _ rfl ?_;refine aj.mk _ C ?_;refine And.intro (aP rfl) ?_;refine aj.mk _ U ?_;have hq:=hq _ (P ((((fb r).drop 1).take 1).map .bytes));cases H:decide (((fb r).drop 1).take 1=[[82]])with|false=>rw[H]at hq;exact a9.neg rfl hq|true=>rw[H]at hq;exact a9.pos rfl hq
theorem F0{f:Nat}{K:Ks}(r:br i (.loc R) (.int f)=some (.bytes t))(s:br i (.loc R) (.int (f+1))=some (.bytes u))(v:cK t=some a)(w:cK u=some b)(hq:K (.ok (.ret (KV (dX (.ref a b)) (.int (f+3))))) (KR R L e f []) i):pS k (.ret [.tup [.val (.str [111,107]),.tup [.val (.str [114,101,102]),.call (.val (.ty .int)) [.sub (.loc 7827314) (.loc 29793)],.call (.val (.ty .int)) [.sub (.loc 7827314) (.bin .add (.loc 29793) (.val (.int 1)))]],.bin .add (.loc 29793) (.val (.int 3))]]) (KR R L e f []) i K:=by refine aj.mk _ r ?_;refine aj.mk _ (xj i v) ?_;have b2:c8 i .add (.int f) (.int 1)=some (.int (f+1),i):=rfl;have z:c8 i .add (.int f) (.int 3)=some (.int (f+3),i):=rfl;refine aj.mk _ b2 ?_;refine aj.mk _ s ?_;refine aj.mk _ (xj i w) ?_;refine And.intro (aP rfl) ?_;refine aj.mk _ z ?_;exact⟨aP rfl,hq⟩
theorem Ol(ia:Pa n)(id':Pd n):Pv (n+1):=by
 intro k c R L s e rs d v F ln hx u hc hn hq;have b1:=mc hx;refine ar (fn:=hW) rfl rfl rfl ?_;show pSs (k+2*c+3) hW.body (KR R L e d.length []) s _;cases v with
 |nil=>
  have hq:=hq s (Kp.refl _ _);rw[show(e-((0:Nat):Int))=e from Int.sub_zero e]at hq;refine aj.mk _ b1 ?_;refine aj.mk _ rfl ?_;refine a9.pos (vO u) ?_;exact⟨aP rfl,hq⟩|cons p r=>
  have hn:2*(r.length+1)+1<=n+1:=hn;have g1:∀i,Kp (fun _=>False) s i->br i (.loc R) (.int d.length)=some (.bytes p.1):=fun i w=>h9 (f:=t6) (hx.mono w).r u;have y:=Kp.refl (fun _=>False) s;have hq:LQ e rs d.length s F (vS (rd n) p r):=hq;unfold vS at hq;have q:=g6 u;refine aj.mk _ b1 ?_;refine aj.mk _ rfl ?_;refine a9.neg (lY u).1 ?_;show pSs _ _ _ _ _;refine kg ?_;refine aj.mk _ (g1 s y) ?_;refine aj.mk _ rfl ?_;cases q1:decide (p.1=[91])with
  |true=>
   rw[q1]at hq;obtain⟨c',e1,e2⟩:=HM hc (.inl (eP q1));subst e1
   refine a9.pos rfl ?_
   refine aj.mk _ rfl ?_
   refine Call.okF ?_
   rw[<- q.2.1]
   exact Bb ia ln hx q.1 e2 (by lia) (LQ.mono (F:=F) hq y (ju q.2.2))
  |false=>
   rw[q1]at hq
   refine a9.neg rfl ?_
   refine kg ?_
   refine aj.mk _ (g1 s y) ?_
   refine aj.mk _ rfl ?_
   cases q2:decide (p.1=[60,60])with
   |true=>
    rw[q2]at hq
    obtain⟨c',e1,e2⟩:=HM hc (.inr (eP q2))
    subst e1
    refine a9.pos rfl ?_
    refine aj.mk _ rfl ?_
    refine Call.okF ?_
    rw[<- q.2.1]
    exact y2 id' ln hx q.1 e2 (by lia) (LQ.mono (F:=F) hq y (ju q.2.2))
   |false=>
    rw[q2]at hq
    have hq:LQ e rs d.length s F ((l8 p.1 r).casesOn ((cT.lookup p.1).casesOn (.error (ba (p::r)).length) fun o=>.ok (o,r)) .ok):=hq
    refine a9.neg rfl ?_
    refine kg ?_
    refine DD u hx rfl rfl fun i w=>?_
    have hq:=LQ.mono hq w (cc _)
    have hx:=hx.mono w
    rcases ki p.1 r with ⟨a,b,p1,p2,r2,er2,h1,h2,h3,h4⟩|⟨h,h0⟩
    ·rw[h4]at hq
     subst er2
     have a2:=g6 q.1
     have a3:=g6 a2.1
     have hq:=hq i (((d++[p])++[p1])++[p2]) a3.1 (pg (pg q.2.2 a2.2.2) a3.2.2) rfl (Kp.refl _ _)
     have e3:((((d++[p])++[p1])++[p2]).length:Int)=d.length+3:=by rw[a3.2.1,a2.2.1,q.2.1];rfl
     have g2:br i (.loc R) (.int (d.length+1))=some (.bytes p1.1):=by rw[<- q.2.1];exact h9 (f:=t6) hx.r q.1
     rw[e3]at hq
     refine a9.pos (by rw[h1];show((cK p1.1).isSome&&decide ([p2.1]=[[82]]))=true;rw[h2,eP h3];rfl) ?_
     exact F0 (g1 i w) g2 h1 h2 hq
    ·rw[h]at hq
     exact a9.neg h0 (FY u hx hq)
theorem rG:∀n,Pv n/\Pa n/\Pd n|0=>⟨fun k c R L g e i d b F j hx m hc f=>absurd f (ko _),fun k c R L g e i d b l p F j hx m hl hc f=>absurd f (ko _),fun k c R L o g e i d b q h D p F j hx hd r m hc f=>absurd f (ko _)⟩|n+1=>have h:=rG n;⟨Ol h.2.1 h.2.2,Oh h.1 h.2.1,Oi h.1 h.2.2⟩
noncomputable def Io (N n:Nat):RS->Except Nat (List O):=n.rec (fun _=>.ok []) fun _ b c=>c.casesOn (.ok []) fun p r=>(rd N .v (p::r)).casesOn .error fun q=>(b q.2).casesOn .error fun l=>.ok (q.1::l)
noncomputable def AQ (e:Int)(c:MS)(F:V->MS->Prop)(f:List O):Except Nat (List O)->Prop| .error m=>∀a,Kp (fun _=>False) c a->F (rv (e-m)) a| .ok g=>∀a D,Kp (fun _=>False) c a->a[D]?=some (.list ((f++g).map dX))->F (As (.loc D)) a
theorem AQ.cons{d:List O}(h:AQ e f F d (x.casesOn .error fun l=>.ok (o::l))):AQ e f F (d++[o]) x:=match x,h with| .error m,h=>h| .ok l,h=>fun c D i hD=>h c D i (by rw[dU]at hD;exact hD)
theorem Lc(ln:H.length<64)(hN:2*H.length+1<=N):∀(n:Nat) (h i:RS) (f:MS) (D:Nat) (o:List O) (B:List (Nat×V)),Kp (fun _=>False) base f->Rx R L e H base->H=h++i->i.length<=n->o.length<=h.length->cs 0 (fb i)<=c->f[D]?=some (.list (o.map dX))->(∀v,az 431415715176 v B=[(431415715176,v)])->AQ e base F o (Io N n i)->aV (k+2*c+4) eE eD ⟨(7827314,.loc R)::(126879296220272,.loc L)::(6581861,.int e)::(431349919590,.loc D)::(29793,.int h.length)::B,[]⟩ f (me (fun r s f=>cR F (bF r) f) fun s f=>pSs (k+2*c+4) [.ret [.tup [.val (.str [111,107]),.loc 431349919590]]] s f fun r s f=>cR F (bF r) f):=by
 have fin:∀(n:Nat) (h:RS) (f:MS) (D:Nat) (o:List O) (B:List (Nat×V)),Kp (fun _=>False) base f->Rx R L e H base->H=h++[]->f[D]?=some (.list (o.map dX))->AQ e base F o (.ok [])->aV (k+2*c+4) eE eD ⟨(7827314,.loc R)::(126879296220272,.loc L)::(6581861,.int e)::(431349919590,.loc D)::(29793,.int h.length)::B,[]⟩ f (me (fun r s f=>cR F (bF r) f) fun s f=>pSs (k+2*c+4) [.ret [.tup [.val (.str [111,107]),.loc 431349919590]]] s f fun r s f=>cR F (bF r) f):=by
  intro n h f D o B G hx K hD hq;have hq:=hq f D G (by rw[cF];exact hD);refine bu ?_;refine aj.mk _ (mc (hx.mono G)) ?_;refine aj.mk _ rfl ?_;refine a9.neg (rJ K) ?_;exact⟨aP rfl,hq⟩
 intro n;induction n with
 |zero=>
  intro h i f D o B G hx K hn ho hc hD hv hq;cases i with
  |nil=>exact fin 0 h f D o B G hx K hD hq|cons p r=>exact absurd hn (ko _)
 |succ n ih=>
  intro h i f D o B G hx K hn ho hc hD hv hq;cases i with|nil=>exact fin 0 h f D o B G hx K hD hq|cons p r=>
   have hq:AQ e base F o ((rd N .v (p::r)).casesOn .error fun q=>(Io N n q.2).casesOn .error fun l=>.ok (q.1::l)):=hq
   have lr:H.length=h.length+(r.length+1):=by rw[K,aK];rfl
   refine bu ?_
   refine aj.mk _ (mc (hx.mono G)) ?_
   refine aj.mk _ rfl ?_
   refine a9.pos (lY K).2 ?_
   refine Call.okF ((rG N).1 k c R L f e H h (p::r) _ ln (hx.mono G) K hc (by show 2*(r.length+1)+1<=N;lia) ?_)
   have go:LQ e H h.length f (fun v f=>pSs (k+2*c+4) [.ite (.cmp (.sub (.loc 431415715176) (.val (.int 0))) .eq (.val (.str [102,97,117,108,116]))) [.ret [.loc 431415715176]] [],.swap [431349919590,29793] (.tup [.bin .add (.loc 431349919590) (.list [.sub (.loc 431415715176) (.val (.int 1))]),.sub (.loc 431415715176) (.val (.int 2))])]
     ⟨(7827314,.loc R)::(126879296220272,.loc L)::(6581861,.int e)::(431349919590,.loc D)::(29793,.int h.length)::[(431415715176,v)],[]⟩ f (jY (me (fun r s f=>cR F (bF r) f) fun s f=>pSs (k+2*c+4) [.ret [.tup [.val (.str [111,107]),.loc 431349919590]]] s f fun r s f=>cR F (bF r) f) fun s f=>aV (k+2*c+4) eE eD s f (me (fun r s f=>cR F (bF r) f) fun s f=>pSs (k+2*c+4) [.ret [.tup [.val (.str [111,107]),.loc 431349919590]]] s f fun r s f=>cR F (bF r) f))) (rd N .v (p::r)):=by
    cases z:rd N .v (p::r)with
    |error m=>
     rw[z]at hq
     intro j U
     have hq:=hq j (G.tr U)
     refine aj.mk _ rfl ?_
     refine aj.mk _ rfl ?_
     exact a9.pos rfl hq
    |ok q=>
     rw[z]at hq
     intro j t C lt ov U
     have hq:AQ e base F o ((Io N n q.2).casesOn .error fun l=>.ok (q.1::l)):=hq
     have lr':H.length=t.length+q.2.length:=by rw[C,aK]
     have hD':=U.at hD id
     have a1:=iX (ai [.list [dX q.1]] hD') (ag j (.list [dX q.1]) []) (by rw[aK,b0];show _+1<=_;lia)
     rw[show o.map dX++[dX q.1]=(o++[q.1]).map dX from(bZ (l₁:=o) (l₂:=[q.1])).symm]at a1
     refine aj.mk _ rfl ?_
     refine aj.mk _ rfl ?_
     refine a9.neg rfl ?_
     refine aj.mk _ rfl ?_
     refine And.intro (aP rfl) ?_
     refine aj.mk _ a1 ?_
     refine aj.mk _ rfl ?_
     refine And.intro (aP rfl) ?_
     refine And.intro rfl ?_
     exact ih t q.2 _ _ (o++[q.1]) [(431415715176,KV (dX q.1) (.int t.length))] ((G.tr U).tr ((Kp.app _ _ _).tr (Kp.app _ _ _))) hx C (by have:r.length+1<=n+1:=hn;lia) (by rw[aK];exact cN ho lt) (bR (vu K C lt) (bR (pe ..) hc)) (ag _ _ []) (fun _=>rfl) hq.cons
   clear hq
   cases z:rd N .v (p::r)with
   |error m=>
    rw[z]at go
    intro j U
    show pSs (k+2*c+4) _ ⟨_::_::_::_::_::az 431415715176 _ B,[]⟩ j _
    rw[hv]
    exact go j U
   |ok q=>
    rw[z]at go
    intro j t C lt ov U
    show pSs (k+2*c+4) _ ⟨_::_::_::_::_::az 431415715176 _ B,[]⟩ j _
    rw[hv]
    exact go j t C lt ov U
theorem HH (i:g.length<64)(hx:Rx R L e g d)(hc:cs 0 (fb g)<=c)(hq:AQ e d F [] (Io 200 64 g)):Call (k+2*c+5) 81 0 [.loc R,.loc L,.int e] d (cR F):=by refine ar (fn:=lN) rfl rfl rfl ?_;refine And.intro (aP rfl) ?_;refine And.intro (aP rfl) ?_;refine And.intro rfl ?_;exact Lc (base:=d) i (N:=200) (by lia) 64 [] g _ d.length [] [] (Kp.app _ _ _) hx rfl (ju i) (cc _) hc (ag d _ []) (fun _=>rfl) hq
theorem ij(h:EG k g c i fun r b=>r.casesOn (fun z=>Q (.ok (rv z)) b) fun v=>Q (.ok (As v)) b):Call (k+2) 79 0 [.lam g c] i Q:=by
 refine ar (fn:=i7) rfl rfl rfl ?_;refine⟨W.mono h.w fun r h=>?_⟩
 match r,h with|(.error z,b),h=>exact h|(.ok v,b),h=>exact⟨aP rfl,h⟩
noncomputable def Mt (s:List UInt8):V:=(run (s.length+2) [] (aG false s)).casesOn (fun m=>rv ((s.length:Int)-m)) fun q=>As (.tup [dX q.1,.int ((s.length:Int)-q.2.length)])
theorem qt(f:e<=b.length):aE b e 0 (b.take e):=⟨f,rfl,by rw[pK,iF];exact qH f⟩
theorem FF{Q:Kv}(f:ky b)(G:e<=b.length)(hf:∀o t,run ((b.take e).length+2) [] (aG false (b.take e))= .ok (o,t)->fq o 12 false)(hc:x[h]?=some (.cell (some (.loc l))))(hl:x[l]?=some (aT b (0:Nat) e))(n:h≠l) (hq:∀c,Kp (· =l) x c->Q (.ok (Mt (b.take e))) c):EG (k+14) (.tup [.call (.val (.fn 51)) [.call (.val (.fn 64)) [.cell 125823003817315]],.attr (.cell 125823003817315) 29793]) [(125823003817315,h)] x fun r c=>r.casesOn (fun z=>Q (.ok (rv z)) c) fun v=>Q (.ok (As v)) c:=by
 have hr:=qt G;have I:(b.take e).length=e:=(pK ..).trans (qH G);unfold Mt at hq;refine v9 ?_;refine aj.mk _ (aD (mf:=⟨[],[(125823003817315,h)]⟩) rfl hc) ?_;refine(?_:Call (k+14) 64 0 [.loc l] x _);refine gu (n:=(b.take e).length+1) f hl hr (uM _) ?_;cases z:run ((b.take e).length+2) [] (aG false (b.take e))with
 |error m=>
  rw[z,I]at hq;exact fun c N=>hq c N|ok q=>
  obtain⟨o,t⟩:=q;rw[z,I]at hq;intro P R v J U C D;refine sh (k:=k) (hf o t z) D fun w F=>?_;have hq:Q (.ok (As (.tup [dX o,.int ((e:Int)-t.length)]))) w:=hq w (J.tr (F.mono fun i _ h=>False.elim h));have e2:(e:Int)-t.length=R:=by have:=C.ln;lia
  rw[e2]at hq;refine aj.mk _ (aD (mf:=⟨[],[(125823003817315,h)]⟩) rfl (F.at (J.at hc n) id)) ?_;refine aj.mk _ (bA (F.at U id)) ?_;exact⟨aP rfl,hq⟩
theorem mM(f:ky b)(s:e<=b.length)(hf:∀o t,run ((b.take e).length+2) [] (aG false (b.take e))= .ok (o,t)->fq o 12 false)(hq:∀m,Kp (fun _=>False) d m->Q (.ok (Mt (b.take e))) m):Call (k+17) 80 0 [.bytes b,.int e] d Q:=by
 have v:(d++[ah.cell none]).length=d.length+1:=aK;have w:∀x:ah,(d++[ah.cell none])++[x]=d++[.cell none,x]:=fun x=>dU ..;refine gC (fn:=eW) rfl rfl ?_;show Call (k+15) 11 1 [.loc (d++[ah.cell none]).length,.bytes b,.int (0:Nat),.int e] ((d++[ah.cell none])++[.inst 11 []]) _;refine Ct _ _ ?_;rw[xI (qt s)];refine And.intro rfl ?_;show aj (iy _ 125823003817315 (.loc (d++[ah.cell none]).length) ((d++[ah.cell none])++[aT b (0:Nat) e])) _;rw[v,w];refine aj.mk _ (nT d 125823003817315 d.length (.loc (d.length+1)) ⟨[(1635017060,.bytes b),(6581861,.int e)],[(125823003817315,d.length)]⟩ [aT b (0:Nat) e] rfl) ?_;refine And.intro rfl ?_;refine(?_:Call (k+16) 79 0 [.lam _ [(125823003817315,d.length)]] _ _);refine ij (FF f s hf (ag d _ _) ?_ (eo (uM _)) fun m y=>?_)
 ·rw[my (eO _),show d.length+1-d.length=1 by rw[uG]];rfl
 ·exact hq m ((Kp.app (fun _=>False) d _).fresh y fun i h=>h▸eO _)
noncomputable def Ox:List (List UInt8×Tok):=[([91],.sign [91]),([93],.sign [93]),([60,60],.sign [60,60]),([62,62],.sign [62,62]),([82],.word [82]),([111,98,106],.word [111,98,106]),([123],.sign [123]),([125],.sign [125]),([55],.int 7),([48],.int 0),([49],.int 1),([45,50],.int (-2)),([51,46,53],.real 35 1),([40,120,41],.str [120]),([60,52,49,62],.hex [65]),([40,62,62,41],.str [62,62]),([47,65],.name [65]),([47,66],.name [66]),([47,67],.name [67]),([116,114,117,101],.word [116,114,117,101]),([102,97,108,115,101],.word [102,97,108,115,101]),([110,117,108,108],.word [110,117,108,108])]
noncomputable def db (t:List UInt8):Tok:=(Ox.lookup t).casesOn .fin id
def Nn{s:Type}(P:s->Prop)(l:List s):Prop:=l.rec True fun a _ b=>P a/\b
theorem c7:∀{l:List s},Nn P l->∀a∈l,P a| [],_,a,h=>absurd h dq|_::_,p,a,h=>(zC h).elim (fun e=>e▸p.1) (c7 p.2 a)
theorem sq(y:List UInt8)(hc:rg c=false):∀{t:List UInt8},t.all rg=true->(t++c::y).takeWhile rg=t/\(t++c::y).dropWhile rg=c::y
 | [],_=>by rw[Ao,An,uJ,hc];exact⟨rfl,rfl⟩|a::t,h=>by
  have h:=zB (show(rg a&&t.all rg)=true from h);have d:=sq y hc h.2;rw[sA,An,uJ,h.1,au rfl,au rfl,d.1,d.2];exact⟨rfl,rfl⟩
noncomputable def NM (c:UInt8):Bool:=decide ((c.toNat:Int)=47)||(decide ((c.toNat:Int)=40)||(decide ((c.toNat:Int)=41)||(decide ((c.toNat:Int)=60)||(decide ((c.toNat:Int)=62)||sgI c.toNat))))
theorem CR (c:UInt8)(t:List UInt8):dW (c::t)=bif NM c then gE c t else .ok (ma ((c::t).takeWhile rg),(c::t).dropWhile rg):=rfl
theorem eF(hc:rg c=false)(b:NM a=false)(h:(a::t).all rg=true)(hk:ma (a::t)=k):dW ((a::t)++c::y)= .ok (k,c::y):=by have q:=sq y hc h;rw[sA,CR,b,cond_false,<- sA,q.1,q.2,hk]
theorem ou(hc:rg c=false)(h:rg a=true):dW ([47,a]++c::y)= .ok (.name [a],c::y):=by have q:=sq y hc (t:=[a]) (by show(rg a&&true)=true;rw[h];rfl);show Except.ok (Tok.name (([a]++c::y).takeWhile rg),([a]++c::y).dropWhile rg)=_;rw[q.1,q.2]
theorem hx (c:UInt8)(y:List UInt8):dW ([60,52,49,62]++c::y)= .ok (db [60,52,49,62],c::y):=by kernel_rfl
theorem DK(h:s∈fT):∃c a,s=c::a/\rg c=false:=by refine c7 (l:=fT) (P:=fun s=>∃c a,s=c::a/\rg c=false) ?_ s h;exact⟨⟨_,_,rfl,rfl⟩,⟨_,_,rfl,rfl⟩,⟨_,_,rfl,rfl⟩,⟨_,_,rfl,rfl⟩,trivial⟩
theorem Fu(b:t∈da)(d:s∈fT):dW (t++(s++x))= .ok (db t,s++x):=by obtain⟨c,a,e,hc⟩:=DK d;subst e;refine c7 (l:=da) (P:=fun t=>dW (t++c::(a++x))= .ok (db t,c::(a++x))) ?_ t b;generalize a++x=y;exact⟨rfl,rfl,rfl,rfl,eF hc rfl rfl rfl,eF hc rfl rfl rfl,rfl,rfl,eF hc rfl rfl rfl,eF hc rfl rfl rfl,eF hc rfl rfl rfl,eF hc rfl rfl rfl,eF hc rfl rfl rfl,rfl,hx c y,rfl,ou hc rfl,ou hc rfl,ou hc rfl,eF hc rfl rfl rfl,eF hc rfl rfl rfl,eF hc rfl rfl rfl,trivial⟩
structure Tk (rs:RS):Prop where
 t:∀p∈rs,p.1∈da
 s:∀p∈rs,p.2∈fT
theorem Tk.tl{r:RS}(h:Tk (p::r)):Tk r:=⟨fun q m=>h.t q (eh _ m),fun q m=>h.s q (eh _ m)⟩
theorem Tk.t1{r:RS}(h:Tk (p::r)):p.1∈da:=h.t p dR
theorem Tk.s1{r:RS}(h:Tk (p::r)):p.2∈fT:=h.s p dR
theorem Tk.suf{a:RS}(h:Tk b)(s:a<:+b):Tk a:=⟨fun q m=>h.t q (s.subset m),fun q m=>h.s q (s.subset m)⟩
theorem Ga(h:s∈fT)(y:List UInt8):aG false (s++y)=aG false y:=c7 (l:=fT) (P:=fun s=>aG false (s++y)=aG false y) ⟨rfl,rfl,rfl,rfl,trivial⟩ s h
theorem x9(h:s∈kh)(y:List UInt8):aG false (s++y)=aG false y:=c7 (l:=kh) (P:=fun s=>aG false (s++y)=aG false y) ⟨rfl,rfl,rfl,trivial⟩ s h
theorem Gb(h:t∈da)(y:List UInt8):aG false (t++y)=t++y:=c7 (l:=da) (P:=fun t=>aG false (t++y)=t++y) ⟨rfl,rfl,rfl,rfl,rfl,rfl,rfl,rfl,rfl,rfl,rfl,rfl,rfl,rfl,rfl,rfl,rfl,rfl,rfl,rfl,rfl,rfl,trivial⟩ t h
theorem nA:∀{a:RS},Tk a->aG false (ba a)=ba a| [],_=>rfl|_::_,h=>Gb h.t1 _
theorem eM(b:s∈fT)(h:Tk a):aG false (s++ba a)=ba a:=(Ga b _).trans (nA h)
theorem Eb(y:List UInt8)(hc:rg c=false):∀t:List UInt8,(t++c::y).takeWhile rg=t.takeWhile rg
 | []=>by rw[Ao,An,hc];rfl|a::t=>by
  rw[sA,An,An,Eb y hc t]
theorem sr{r:RS}(h:Tk (p::r)):(ba (p::r)).takeWhile rg=p.1.takeWhile rg/\(p.1.all rg=true->(ba (p::r)).dropWhile rg=p.2++ba r):=by obtain⟨c,f,e,hc⟩:=DK h.s1;show(p.1++(p.2++ba r)).takeWhile rg=_/\(_->(p.1++(p.2++ba r)).dropWhile rg=_);rw[e,sA];exact⟨Eb _ hc _,fun a=>(sq _ hc a).2⟩
noncomputable def EZ (o:List UInt8):Option Int:=(BJ o).bind fun q=>q.2.casesOn (bif decide (q.1>=0)then some q.1 else none) fun _=>none
theorem m8(h:t∈da):EZ (t.takeWhile rg)=cK t/\decide (t.takeWhile rg=[82])=decide (t=[82]):=by have:=zE (show(da.all fun t=>decide (EZ (t.takeWhile rg)=cK t)&&(decide (t.takeWhile rg=[82])==decide (t=[82])))=true by decide+kernel) t h;have:=zB this;exact⟨eP this.1,bh this.2⟩
theorem oU(h:t∈da)(c:s∈[[91],[60,60],[93],[62,62]]):isSg (db t) s=decide (t=s)/\(db t).isName=decide (t.take 1=[47]):=by have:=zE (zE (show(da.all fun t=>[[91],[60,60],[93],[62,62]].all fun s=>(isSg (db t) s==decide (t=s))&&((db t).isName==decide (t.take 1=[47])))=true by decide+kernel) t h) s c;have:=zB this;exact⟨bh this.1,bh this.2⟩
theorem Ca(h:cK t=some a):t.all rg=true/\db t= .int a/\cT.lookup t=some (.int a)/\decide (a>=0)=true/\decide (t=[82])=false:=by
 unfold cK at h;refine bS (decide ([48]=t)) ?_ ?_
 ·intro q;rw[q]at h;rw[<- eP q];cases h;exact⟨rfl,rfl,rfl,rfl,rfl⟩
 ·intro q;rw[q]at h;refine bS (decide ([49]=t)) ?_ ?_
  ·intro q;rw[q]at h;rw[<- eP q];cases h;exact⟨rfl,rfl,rfl,rfl,rfl⟩
  ·intro q;rw[q]at h;refine bS (decide ([55]=t)) ?_ ?_
   ·intro q;rw[q]at h;rw[<- eP q];cases h;exact⟨rfl,rfl,rfl,rfl,rfl⟩
   ·intro q;rw[q]at h;exact bN h
theorem Dx(h:t∈da)(y:List UInt8)(hf:cK t=none):pv (db t) y=(cT.lookup t).map fun o=>(o,y):=by refine c7 (l:=da) (P:=fun t=>cK t=none->pv (db t) y=(cT.lookup t).map fun o=>(o,y)) ?_ t h hf;exact⟨fun _=>rfl,fun _=>rfl,fun _=>rfl,fun _=>rfl,fun _=>rfl,fun _=>rfl,fun _=>rfl,fun _=>rfl,tW,tW,tW,fun _=>rfl,fun _=>rfl,fun _=>rfl,fun _=>rfl,fun _=>rfl,fun _=>rfl,fun _=>rfl,fun _=>rfl,fun _=>rfl,fun _=>rfl,fun _=>rfl,trivial⟩
theorem Fq(h:t∈da)(q:decide (t.take 1=[47])=true):cK t=none/\cT.lookup t=some (.name (iL t)):=by refine c7 (l:=da) (P:=fun t=>decide (t.take 1=[47])=true->cK t=none/\cT.lookup t=some (.name (iL t))) ?_ t h q;exact⟨fun h=>Bool.noConfusion h,fun h=>Bool.noConfusion h,fun h=>Bool.noConfusion h,fun h=>Bool.noConfusion h,fun h=>Bool.noConfusion h,fun h=>Bool.noConfusion h,fun h=>Bool.noConfusion h,fun h=>Bool.noConfusion h,fun h=>Bool.noConfusion h,fun h=>Bool.noConfusion h,fun h=>Bool.noConfusion h,fun h=>Bool.noConfusion h,fun h=>Bool.noConfusion h,fun h=>Bool.noConfusion h,fun h=>Bool.noConfusion h,fun h=>Bool.noConfusion h,fun _=>⟨rfl,rfl⟩,fun _=>⟨rfl,rfl⟩,fun _=>⟨rfl,rfl⟩,fun h=>Bool.noConfusion h,fun h=>Bool.noConfusion h,fun h=>Bool.noConfusion h,trivial⟩
theorem xY (n:Int)(r:List UInt8):ir n r=(EZ ((aG false r).takeWhile rg)).bind fun g=>bif decide ((aG false ((aG false r).dropWhile rg)).takeWhile rg=[82])then some (g,(aG false ((aG false r).dropWhile rg)).dropWhile rg)else none:=by unfold ir EZ;cases BJ ((aG false r).takeWhile rg)with
 |none=>rfl|some q=>
  obtain⟨g,m⟩:=q;cases m with
  |some m=>rfl|none=>
   show(bif decide (g>=0)&&_ then _ else _)=Option.bind (bif decide (g>=0)then some g else none) _;cases decide (g>=0)<;>rfl
theorem FZ(o:s∈fT)(h:Tk d)(l:cK t=some a):(∃b g i,g∈fT/\i<:+d/\l8 t d=some (.ref a b,i)/\ir a (s++ba d)=some (b,g++ba i))\/(l8 t d=none/\ir a (s++ba d)=none):=by
 rw[xY,eM o h];rcases ki t d with ⟨B,b,u,g,i,v,k,c,m,w⟩|⟨k,c⟩
 ·subst v;have e:=sr h;have j:=sr h.tl;have y:=m8 h.t1;have A:=m8 h.tl.t1;have f:=Ca c;cases l.symm.trans k;refine .inl ⟨b,g.2,i,h.tl.s1,⟨[u,g],rfl⟩,w,?_⟩;rw[e.1,y.1,c,e.2 f.1,eM h.s1 h.tl,j.1];show(bif decide (g.1.takeWhile rg=[82])then some (b,(ba (g::i)).dropWhile rg)else none)=_;rw[A.2,m,j.2 (by rw[eP m];rfl)];rfl
 ·refine .inr ⟨k,?_⟩;rw[l]at c;have c:(B9 ((fb d).take 1)&&decide (((fb d).drop 1).take 1=[[82]]))=false:=c;cases d with|nil=>rfl|cons p r=>
   have e:=sr h;rw[e.1,(m8 h.t1).1];cases z:cK p.1 with
   |none=>rfl|some b=>
    have f:=Ca z;have c:((cK p.1).isSome&&decide ((fb r).take 1=[[82]]))=false:=c;rw[z]at c;have c:decide ((fb r).take 1=[[82]])=false:=c;rw[e.2 f.1,eM h.s1 h.tl];show(bif decide ((ba r).takeWhile rg=[82])then some (b,_)else none)=none;cases r with
    |nil=>rfl|cons g i=>
     have j:decide (g.1=[82])=false:=cO fun e=>sy c (congrArg (fun x=>[x]) e);rw[(sr h.tl).1,(m8 h.tl.t1).2,j];rfl
def Go (a:List Fr)(o:O)(b:RS)(x:Except Nat (O×List UInt8)):Prop:=match a with| []=>∃s,s∈fT/\x= .ok (o,s++ba b)|f::a=>∃N,(ba b).length<N/\x=run N (f.put o::a) (ba b)
noncomputable def VQ (b:List Fr)(z:Except Nat (O×List UInt8)):uP->Prop| .error m=>z= .error m| .ok (o,c)=>Go b o c z
theorem DH{r:RS}(h:Tk (p::r))(N:Nat)(a:List Fr):run (N+1) a (ba (p::r))=fg (run N) a (db p.1) (ba (p::r)).length (p.2++ba r):=by show tO (dW (p.1++(p.2++ba r))) (fun t b=>fg (run N) a t (ba (p::r)).length b)=_;rw[Fu h.t1 h.s1];rfl
theorem DG (N:Nat)(a:List Fr):run (N+1) a (ba [])= .error 0:=by show fg (run N) a .fin 0 []=_;unfold fg;rw[kW]
theorem qg(h:bG a t m y= .error b):fg f a t m y= .error b:=by unfold fg;rw[h]
theorem gO(h:bG a t m y= .ok (.inr (fs',y'))):fg f a t m y=f fs' (aG false y'):=by unfold fg;rw[h]
theorem oM(h:bG a t m y=jm b o (s++ba c))(d:s∈fT)(hk:Tk c)(e:(ba c).length<N):Go b o c (fg (run N) a t m y):=by unfold fg;rw[h];cases b with|nil=>exact⟨s,d,rfl⟩|cons f b=>exact⟨N,e,congrArg (run N _) (eM d hk)⟩
theorem jn:∀(n:Nat) (k:Md) (t:RS) {o:O} {e:RS},rd n k t= .ok (o,e)->∃p,p::e<:+t
 |0,k,t,o,e,h=>nomatch (show(Except.error 0:uP)= .ok (o,e)from h)|n+1,k,[],o,e,h=>nomatch (show(Except.error 0:uP)= .ok (o,e)from h)|n+1,k,p::r,o,e,h=>by
  have j:∀{C:O},(Except.ok (C,r):uP)= .ok (o,e)->∃q,q::e<:+p::r:=fun h=>⟨p,(dE (cS h)).2▸qF _⟩;have D:(∃q,q::e<:+r)->∃q,q::e<:+p::r:=fun h=>h.imp fun q h=>h.trans (mA _ _);have o0:∀{k:Md} {x:RS} {f:O->Md},x<:+p::r->((rd n k x).casesOn .error fun q=>rd n (f q.1) q.2:uP)= .ok (o,e)->∃q,q::e<:+p::r:=by
   intro k x f hx h;refine yv (rd n k x) ?_ ?_
   ·intro m z;rw[z]at h;exact bW h
   ·intro q z;rw[z]at h;have ⟨w,y⟩:=jn n _ _ z;have ⟨A,H⟩:=jn n _ _ (show rd n (f q.1) q.2= .ok (o,e)from h);exact⟨A,H.trans ((mA w _).trans (y.trans hx))⟩
  cases k with
  |v=>
   have h:vS (rd n) p r= .ok (o,e):=h;unfold vS at h;refine bS (decide (p.1=[91])) ?_ ?_
   ·intro B;rw[B]at h;exact D (jn n _ _ h)
   ·intro B;rw[B]at h;refine bS (decide (p.1=[60,60])) ?_ ?_
    ·intro s;rw[s]at h;exact D (jn n _ _ h)
    ·intro s;rw[s]at h;have h:((l8 p.1 r).casesOn ((cT.lookup p.1).casesOn (.error (ba (p::r)).length) fun o=>.ok (o,r)) .ok:uP)= .ok (o,e):=h;rcases ki p.1 r with ⟨a,b,w,A,K,I,_,_,_,J⟩|⟨y,_⟩
     ·rw[J]at h;rw[I,<- (dE (cS h)).2];exact⟨A,[p,w],rfl⟩
     ·rw[y]at h;have h:((cT.lookup p.1).casesOn (.error (ba (p::r)).length) fun o=>.ok (o,r):uP)= .ok (o,e):=h;refine El (cT.lookup p.1) ?_ ?_
      ·intro z;rw[z]at h;exact bW h
      ·intro C z;rw[z]at h;exact j h|a l=>
   have h:aS (rd n) l p r= .ok (o,e):=h;unfold aS at h;refine bS (decide (p.1=[93])) ?_ ?_
   ·intro q;rw[q]at h;exact j h
   ·intro q;rw[q]at h;exact o0 (f:=fun o=>.a (l++[o])) (qF _) h|d F=>
   have h:dS (rd n) F p r= .ok (o,e):=h;unfold dS at h;refine bS (decide (p.1=[62,62])) ?_ ?_
   ·intro q;rw[q]at h;exact j h
   ·intro q;rw[q]at h;refine bS (decide (p.1.take 1=[47])) ?_ ?_
    ·intro s;rw[s]at h;exact o0 (f:=fun o=>.d (F++[(iL p.1,o)])) (mA _ _) h
    ·intro s;rw[s]at h;exact bW h
theorem rc{a b:RS}(h:a<:+b):cs 0 (fb a)<=cs 0 (fb b):=h.elim fun c e=>by
 show cs 0 (a.map _)<=cs 0 (b.map _);rw[<- e,bZ,lG];exact pe ..
theorem kI{r:RS}(h:Tk (p::r)):(ba r).length< (ba (p::r)).length:=by obtain⟨c,d,e,_⟩:=DK h.s1;show _< (p.1++(p.2++ba r)).length;rw[aK,aK,e,fj];lia
theorem rH{a:RS}:∀{b:RS},Tk b->a<:+b->(ba a).length<= (ba b).length| [],_,h=>by rw[List.suffix_nil.mp h];exact cc _|p::r,hk,h=>(List.suffix_cons_iff.mp h).elim (fun e=>e▸cc _) fun h=>bR (rH hk.tl h) (ju (kI hk))
def CV (n:Nat):Prop:=∀(a:RS) (b:List Fr) (N:Nat),Tk a->dY b=false->(∀l c,b= .arr l::c->∀p r,a=p::r->p.1≠[93])->b.length+cs 0 (fb a)<=40->2*a.length+1<=n->(ba a).length<N->VQ b (run N b (ba a)) (rd n .v a)
def CA (n:Nat):Prop:=∀(b:RS) (l:List O) (c:List Fr) (N:Nat),Tk b->dY c=false->c.length+1+cs 0 (fb b)<=40->2*b.length+2<=n->(ba b).length<N->VQ c (run N (.arr l::c) (ba b)) (rd n (.a l) b)
def CD (n:Nat):Prop:=∀(a:RS) (c:List (List Nat×O)) (b:List Fr) (N:Nat),Tk a->dY b=false->b.length+1+cs 0 (fb a)<=40->2*a.length+2<=n->(ba a).length<N->VQ b (run N (.dct c none::b) (ba a)) (rd n (.d c) a)
theorem sd(h:t∈da)(c:List Fr)(m:Nat)(y:List UInt8):bG c (db t) m y=bif dY c&&!decide (t.take 1=[47])&&!decide (t=[62,62])then .error m else bif decide (t=[91])then bX c true m y else bif decide (t=[60,60])then bX c false m y else bif decide (t=[93])then cU c true m y else bif decide (t=[62,62])then cU c false m y else bI c (db t) m y:=by unfold bG;rw[(oU h (s:=[91]) (.head _)).1,(oU h (s:=[60,60]) (.tail _ (.head _))).1,(oU h (s:=[93]) (.tail _ (.tail _ (.head _)))).1,(oU h (s:=[62,62]) (.tail _ (.tail _ (.tail _ (.head _))))).1,(oU h (s:=[91]) (.head _)).2]
theorem NI(k:CV n)(o:CA n):CA (n+1):=by intro s l d N hk u hc g w;obtain⟨N,rfl⟩:∃f,N=f+1:=⟨N-1,by lia⟩;cases s with|nil=>exact DG N _|cons p r=>
  have g:2*(r.length+1)+2<=n+1:=g;have D:=kI hk;show VQ d _ (aS (rd n) l p r);unfold aS;cases q:decide (p.1=[93])with
  |true=>
   rw[DH hk];refine oM (t:=db p.1) ?_ hk.s1 hk.tl (by lia);rw[sd hk.t1,eP q];rfl|false=>
   have v:=k (p::r) (.arr l::d) (N+1) hk rfl (fun h A e i F B=>by cases B;exact sy q) hc (by show 2*(r.length+1)+1<=n;exact pH (by assumption)) w;show VQ d _ ((rd n .v (p::r)).casesOn .error fun q=>rd n (.a (l++[q.1])) q.2);cases z:rd n .v (p::r)with
   |error m=>rw[z]at v;exact v|ok x=>
    rw[z]at v;obtain⟨f,h,e⟩:=v;rw[e];refine(jn n _ _ z).elim fun i j=>?_;have c:=(mA i _).trans j;have:=j.length_le;rw[fj,fj]at this;exact o x.2 (l++[x.1]) d f (hk.suf c) u (bR (pc (rc c) _) hc) (by lia) h
theorem NJ(A:CV n)(B:CD n):CD (n+1):=by intro C i c N hk D hc s M;obtain⟨N,rfl⟩:∃l,N=l+1:=⟨N-1,by lia⟩;cases C with|nil=>exact DG N _|cons p r=>
  have s:2*(r.length+1)+2<=n+1:=s;have P:=kI hk;show VQ c _ (dS (rd n) i p r);unfold dS;rw[DH hk];have b:=sd hk.t1 (.dct i none::c) (ba (p::r)).length (p.2++ba r);cases q:decide (p.1=[62,62])with
  |true=>
   refine oM (t:=db p.1) ?_ hk.s1 hk.tl (by lia);rw[b,eP q];rfl|false=>
   rw[q]at b;cases k:decide (p.1.take 1=[47])with
   |false=>
    rw[k]at b;exact qg b|true=>
    rw[k]at b;have u:=Fq hk.t1 k;have e:∀t:List UInt8,t.take 1=[47]->decide (t=[91])=false/\decide (t=[60,60])=false/\decide (t=[93])=false:=fun t h=>by
     refine⟨cO fun e=>?_,cO fun e=>?_,cO fun e=>?_⟩<;>(rw[e]at h;exact absurd h (by decide))
    obtain⟨G,H,I⟩:=e p.1 (eP k);rw[G,H,I]at b;have b:bG (.dct i none::c) (db p.1) (ba (p::r)).length (p.2++ba r)=bI (.dct i none::c) (db p.1) (ba (p::r)).length (p.2++ba r):=b;unfold bI at b;rw[Dx hk.t1 _ u.1,u.2]at b;rw[gO (fs':=.dct i (some (iL p.1))::c) (y':=p.2++ba r) b,eM hk.s1 hk.tl];have R:cs 0 (fb r)<=cs 0 (fb (p::r)):=pe ..;have v:=A r (.dct i (some (iL p.1))::c) N hk.tl rfl (fun w o e=>nomatch (kr e).1) (by show c.length+1+_<=40;lia) (by lia) (by lia);show VQ c _ ((rd n .v r).casesOn .error fun q=>rd n (.d (i++[(iL p.1,q.1)])) q.2);cases z:rd n .v r with|error m=>rw[z]at v;exact v|ok x=>
     rw[z]at v;obtain⟨l,w,e⟩:=v;rw[e];refine(jn n _ _ z).elim fun K y=>?_;have j:=(mA K _).trans y;have:=y.length_le;rw[fj]at this;have c2:=rc j;exact B x.2 (i++[(iL p.1,x.1)]) c l (hk.tl.suf j) D (by lia) (by lia) w
theorem NK(M:CA n)(P:CD n):CV (n+1):=by intro Q j N hk x R hc I lt;obtain⟨N,rfl⟩:∃N',N=N'+1:=⟨N-1,by lia⟩;cases Q with|nil=>exact DG N _|cons p r=>
  have I:2*(r.length+1)+1<=n+1:=I;have ll:=kI hk;show VQ j _ (vS (rd n) p r);unfold vS;rw[DH hk];have d:=sd hk.t1 j (ba (p::r)).length (p.2++ba r);have e0:(dY j&&!decide (p.1.take 1=[47])&&!decide (p.1=[62,62]))=false:=by rw[x];rfl
  rw[e0,cond_false]at d;have K:∀a,p.1=[91]\/p.1=[60,60]->bG j (db p.1) (ba (p::r)).length (p.2++ba r)=bX j a (ba (p::r)).length (p.2++ba r)->fg (run N) j (db p.1) (ba (p::r)).length (p.2++ba r)=run N (Fr.new a::j) (ba r)/\j.length+1+cs 0 (fb r)<=40:=fun a h e=>by
   have q:cs 0 (fb (p::r))=(if p.1=[91]\/p.1=[60,60]then 1 else 0)+cs 0 (fb r):=rfl;rw[q,au h]at hc;refine⟨?_,by rw[pf];assumption⟩;unfold bX at e;rw[cO (show ¬j.length=40 by lia)]at e;rw[gO e,eM hk.s1 hk.tl]
  cases B:decide (p.1=[91])with
  |true=>
   rw[B]at d;have o:=K true (.inl (eP B)) d
   rw[o.1]
   exact M r [] j N hk.tl x o.2 (by lia) (by lia)
  |false=>
   rw[B]at d
   cases C:decide (p.1=[60,60])with
   |true=>
    rw[C]at d
    have o:=K false (.inr (eP C)) d
    rw[o.1]
    exact P r [] j N hk.tl x o.2 (by lia) (by lia)
   |false=>
    rw[C]at d
    show VQ j _ ((l8 p.1 r).casesOn ((cT.lookup p.1).casesOn (.error (ba (p::r)).length) fun o=>.ok (o,r)) .ok)
    have L:∀(t:List UInt8) (a:Bool),p.1=t->t=[93]/\a=true\/t=[62,62]/\a=false->cU j a (ba (p::r)).length (p.2++ba r)= .error (ba (p::r)).length:=fun t a e h=>by
     cases j with
     |nil=>rfl
     |cons f j=>
      cases f with
      |arr l=>
       rcases h with h|h
       ·exact absurd (e.trans h.1) (R l j rfl p r rfl)
       ·rw[h.2];rfl
      |dct ps s=>
       cases s with
       |none=>exact Bool.noConfusion x
       |some k=>cases a<;>rfl
    cases u:decide (p.1=[93])with
    |true=>
     rw[u]at d
     rw[show l8 p.1 r=none by rw[eP u];rfl,show cT.lookup p.1=none by rw[eP u];rfl]
     exact qg (d.trans (L _ true (eP u) (.inl ⟨rfl,rfl⟩)))
    |false=>
     rw[u]at d
     cases v:decide (p.1=[62,62])with
     |true=>
      rw[v]at d
      rw[show l8 p.1 r=none by rw[eP v];rfl,show cT.lookup p.1=none by rw[eP v];rfl]
      exact qg (d.trans (L _ false (eP v) (.inr ⟨rfl,rfl⟩)))
     |false=>
      rw[v]at d
      have d:bG j (db p.1) (ba (p::r)).length (p.2++ba r)=bI j (db p.1) (ba (p::r)).length (p.2++ba r):=d
      unfold bI at d
      refine El (cK p.1) ?_ ?_
      ·intro hf
       rw[Dx hk.t1 _ hf]at d
       rw[show l8 p.1 r=none by unfold l8;rw[hf];rfl]
       show VQ j _ ((cT.lookup p.1).casesOn (.error (ba (p::r)).length) fun o=>.ok (o,r))
       cases z:cT.lookup p.1 with
       |none=>rw[z]at d;exact qg d
       |some o=>rw[z]at d;exact oM d hk.s1 hk.tl (by lia)
      ·intro a hf
       refine(Ca hf).elim fun f1 z1=>z1.elim fun D z2=>z2.elim fun f3 z3=>z3.elim fun f4 f5=>?_
       rw[D]at d
       have ep:∀y,pv (.int a) y=match ir a y with|none=>some (.int a,y)|some (g,r')=>some (.ref a g,r'):=fun y=>by
        show(bif decide (a>=0)then _ else _)=_
        rw[f4];rfl
       rw[ep]at d
       rcases FZ hk.s1 hk.tl hf with ⟨b,s2,r2,G,w,q,H⟩|⟨q,H⟩
       ·rw[H]at d
        rw[q,D]
        have:=rH hk.tl w
        exact oM d G (hk.tl.suf w) (by lia)
       ·rw[H]at d
        rw[q,f3,D]
        exact oM d hk.s1 hk.tl (by lia)
theorem vq:∀n,CV n/\CA n/\CD n|0=>⟨fun c d N _ _ _ _ b=>absurd b (ko _),fun c l d N _ _ _ b=>absurd b (ko _),fun c e d N _ _ _ b=>absurd b (ko _)⟩|n+1=>have h:=vq n;⟨NK h.2.1 h.2.2,NI h.1 h.2.1,NJ h.1 h.2.2⟩
noncomputable def LM (x:uP):Except Nat O:=x.casesOn .error fun q=>q.2.casesOn (.ok q.1) fun p r=>.error (ba (p::r)).length
theorem D5(h:t∈da):∃c a,t=c::a:=by cases t with|nil=>exact absurd h (by decide+kernel)|cons c a=>exact⟨c,a,rfl⟩
theorem BQ:∀{r:RS},Tk r->vD o (ba r)=(r.casesOn (.ok o) fun p r=>.error (ba (p::r)).length:Except Nat O)
 | [],_=>rfl|p::r,h=>by
  obtain⟨c,b,e⟩:=D5 h.t1;show vD o (p.1++(p.2++ba r))= .error (p.1++(p.2++ba r)).length;rw[e];rfl
theorem Dz(h:f∈kh)(hk:Tk c)(hc:cs 0 (fb c)<=40)(n:c.length<64):dO (f++ba c)=LM (rd 200 .v c):=by
 have v:=(vq 200).1 c [] ((f++ba c).length+2) hk rfl (fun l i e=>nomatch e) (by rw[fm,iF];exact hc) (by lia) (by rw[aK];lia);unfold dO;rw[x9 h,nA hk];cases z:rd 200 .v c with
 |error m=>
  rw[z]at v;rw[show run _ [] (ba c)= .error m from v];rfl|ok q=>
  rw[z]at v;obtain⟨s,j,e⟩:=v;obtain⟨k,hf⟩:=jn _ _ _ z;have g:=hk.suf ((mA k _).trans hf);rw[e];show vD q.1 (aG false (s++ba q.2))=_;rw[eM j g,BQ g];rfl
theorem ut:∀(n d:Nat) (f:RS),Tk f->cs 0 (fb f)<=40->f.length<64->f.length<=n->f.length<=d->(ba f).length<N->fh N n (ba f)=Io 200 d f
 |n,d,[],_,_,_,_,_,_=>by cases n<;>cases d<;>rfl|0,_,_::_,_,_,_,h,_,_=>absurd h (ko _)|_+1,0,_::_,_,_,_,_,h,_=>absurd h (ko _)|n+1,d+1,p::r,hk,hc,t,u,w,x=>by
  have v:=(vq 200).1 (p::r) [] N hk rfl (fun l y e=>nomatch e) (by rw[fm,iF];exact hc) (by lia) x;refine(D5 hk.t1).elim fun c A=>A.elim fun B e=>?_;have C:fh N (n+1) (ba (p::r))=(run N [] (aG false (ba (p::r)))).casesOn .error fun q=>(fh N n (aG false q.2)).casesOn .error fun l=>.ok (q.1::l):=by
   have D:ba (p::r)=c::(B++(p.2++ba r)):=by show p.1++(p.2++ba r)=_;rw[e];rfl
   rw[D];rfl
  rw[C,nA hk];show _=((rd 200 .v (p::r)).casesOn .error fun q=>(Io 200 d q.2).casesOn .error fun l=>.ok (q.1::l):Except Nat (List O));cases z:rd 200 .v (p::r)with
  |error m=>
   rw[z]at v;rw[show run _ [] (ba (p::r))= .error m from v]|ok q=>
   rw[z]at v;obtain⟨s,F,e⟩:=v;obtain⟨G,hf⟩:=jn _ _ _ z;have i:=(mA G _).trans hf;have o:=hk.suf i;have:=hf.length_le;rw[fj,fj]at this;have:=rH hk i;have u:r.length+1<=n+1:=u;have w:r.length+1<=d+1:=w;have t:r.length+1<64:=t;rw[e];show((fh N n (aG false (s++ba q.2))).casesOn .error fun l=>.ok (q.1::l):Except Nat (List O))=_;rw[eM F o,ut n d q.2 o (bR (rc i) hc) (by lia) (by lia) (by lia) (by exact cN (by assumption) (by assumption))]
theorem Ml (b:RS)(hk:Tk b):b.length<= (ba b).length:=by induction b with|nil=>exact cc _|cons p r c=>exact bR (pJ (c hk.tl)) (kI hk)
theorem Eg(g:d∈kh)(hk:Tk c)(hc:cs 0 (fb c)<=40)(h:c.length<64):fh ((d++ba c).length+2) (d++ba c).length (aG false (d++ba c))=Io 200 64 c:=by rw[x9 g,nA hk];have:=Ml c hk;exact ut _ _ c hk hc h (by rw[aK];exact bR (by assumption) (pe ..)) (by exact ju (by assumption)) (by rw[aK];lia)
noncomputable def w1 (s:List UInt8):Nat:=2*s.count 91+s.count 60
noncomputable def w2 (s:List UInt8):Nat:=s.count 47
theorem Kz (c:UInt8)(s:List UInt8):w1 (c::s)=w1 s+(if c==91 then 2 else 0)+(if c==60 then 1 else 0):=by
 unfold w1;rw[List.count_cons,List.count_cons]
 split<;>split<;>lia
theorem js(h:a<:+b):w1 a<=w1 b/\w2 a<=w2 b:=⟨Nat.add_le_add (Nat.mul_le_mul_left 2 (h.sublist.count_le 91)) (h.sublist.count_le 60),h.sublist.count_le 47⟩
theorem MY{n:Nat}{d:UInt8}(h:decide ((c.toNat:Int)=n)=true)(e:d.toNat=n):c=d:=UInt8.toNat_inj.mp ((Int.ofNat_inj.mp (eP h)).trans e.symm)
structure AM (k:Tok)(r s:List UInt8):Prop where
 a:isSg k [91]=true->w1 r+2<=w1 s
 d:isSg k [60,60]=true->w1 r+2<=w1 s
 n:k.isName=true->w2 r+1<=w2 s
theorem rI(a:k.signO=none)(b:k.isName=false):AM k r s:=by
 have e:∀o,isSg k o=false:=fun o=>by unfold isSg;rw[a]
 exact⟨fun h=>Bool.noConfusion ((e _).symm.trans h),fun h=>Bool.noConfusion ((e _).symm.trans h),fun h=>Bool.noConfusion (b.symm.trans h)⟩
theorem wt{P:Prop}(n:decide (o=s)=false)(h:isSg (.sign o) s=true):P:=Bool.noConfusion (n.symm.trans h)
theorem I2(h:gE c t= .ok (k,r)):AM k r (c::t):=by
 have p:=tA h;unfold gE at h;refine bS (decide ((c.toNat:Int)=47)) ?_ ?_
 ·intro f;rw[f]at h;have e:=dE (cS h);rw[<- e.1,MY (n:=47) (d:=47) f rfl];exact⟨fun h=>Bool.noConfusion (show false=true from h),fun h=>Bool.noConfusion (show false=true from h),fun _=>by show r.count 47+1<= (47::t).count 47;rw[List.count_cons_self];exact pJ (js p).2⟩
 ·intro f;rw[f]at h;refine bS (decide ((c.toNat:Int)=40)) ?_ ?_
  ·intro i;rw[i]at h;cases z:nq t false 1 []with|none=>rw[z]at h;exact bW h|some q=>rw[z]at h;rw[<- (dE (cS h)).1];exact rI rfl rfl
  ·intro i;rw[i]at h;refine bS (Au 60 60 (c::t)) ?_ ?_
   ·intro b;rw[b]at h;have e:=dE (cS h);rw[<- e.1,<- e.2];have s:=eP b;obtain⟨d,g,rfl⟩:∃d g,t=d::g:=(wB b).elim fun d h=>⟨d,_,h⟩;have l:=kr (show c::d::g.take 0=[60,60]from s);have u:=(kr l.2).1;refine⟨wt rfl,fun _=>?_,fun h=>Bool.noConfusion (show false=true from h)⟩;rw[l.1,u,Kz,Kz];exact cc (w1 g+2)
   ·intro b;rw[b]at h;refine bS (Au 62 62 (c::t)) ?_ ?_
    ·intro j;rw[j]at h;rw[<- (dE (cS h)).1];exact⟨wt rfl,wt rfl,fun h=>Bool.noConfusion (show false=true from h)⟩
    ·intro j;rw[j]at h;cases m:decide ((c.toNat:Int)=60)with
     |true=>
      rw[m]at h;refine yv (jf t []) ?_ ?_
      ·intro x z;cases x<;>(rw[z]at h;exact bW h)
      ·intro q z;rw[z]at h;rw[<- (dE (cS h)).1];exact rI rfl rfl|false=>
      rw[m]at h;cases o:sgI c.toNat with|false=>rw[o]at h;exact bW h|true=>
       rw[o]at h;have e:=dE (cS h);rw[<- e.1,<- e.2];refine⟨fun h=>?_,fun h=>?_,fun h=>Bool.noConfusion (show false=true from h)⟩
       ·rw[(kr (eP (show decide ([c]=[91])=true from h))).1,Kz];exact cc _
       ·exact nomatch (kr (eP (show decide ([c]=[60,60])=true from h))).2
theorem F6 (o:List UInt8):(ma o).signO=none/\(ma o).isName=false:=by
 unfold ma
 match BJ o with|none=>exact⟨rfl,rfl⟩|some (_,none)=>exact⟨rfl,rfl⟩|some (_,some _)=>exact⟨rfl,rfl⟩
theorem H5(h:dW (aG false x)= .ok (k,r)):k= .fin\/(AM k r x/\r<:+x/\r.length+1<=x.length):=by
 have hl:=nj h;refine Nh (aG false x) ?_ ?_
 ·intro q;rw[q]at h;exact .inl (dE (cS h)).1.symm
 ·intro c t q;refine hl.imp id fun hl=>?_;rw[q]at h;have g:=xE q h;have b:=eG x false;rw[q]at b;have f:AM k r (c::t):=by
   rw[CR]at h;refine bS (NM c) ?_ ?_
   ·intro z;rw[z]at h;exact I2 h
   ·intro z;rw[z]at h;have e:=(dE (cS h)).1;have n:=F6 ((c::t).takeWhile rg);rw[e]at n;exact rI n.1 n.2
  have w:=js b;exact⟨⟨fun h=>bR (f.a h) w.1,fun h=>bR (f.d h) w.1,fun h=>bR (f.n h) w.2⟩,g.trans ((mA c t).trans b),hl⟩
noncomputable def K5 (D:Nat)(x:List UInt8):Fr->Prop| .arr l=>(∀o∈l,fq o D false)/\l.length+x.length<=800000| .dct b a=>(∀p∈b,fq p.2 D false)/\b.length+(a.casesOn 0 fun _=>1)+w2 x<=63
theorem K5.mono(h:K5 D x f)(s:y<:+x):K5 D y f:=by cases f with|arr l=>exact⟨h.1,bR (pc s.length_le _) h.2⟩|dct b a=>exact⟨h.1,bR (pc (js s).2 _) h.2⟩
noncomputable def KH (M:Nat)(x:List UInt8):List Fr->Prop| []=>True|f::b=>K5 (M-(b.length+1)) x f/\KH M x b
theorem KH.mono(s:y<:+x):∀{b:List Fr},KH M x b->KH M y b| [],_=>trivial|_::_,h=>⟨h.1.mono s,KH.mono s h.2⟩
theorem xm:∀{l:List O},(∀o∈l,fq o d false)->fq (zJ l) d true/\(zJ l).keys.length=l.length| [],_=>⟨rfl,rfl⟩|x::l,h=>have a:=xm (l:=l) fun o m=>h o (eh _ m);⟨⟨rfl,h x dR,a.1⟩,congrArg (· +1) a.2⟩
theorem xn:∀{l:List (List Nat×O)},(∀p∈l,fq p.2 d false)->(∀p∈l,p.2.nn=true)->fq (uQ l) d true/\(uQ l).allNN| [],_,_=>⟨rfl,trivial⟩|x::l,h,g=>have c:=xn (l:=l) (fun o m=>h o (eh _ m)) fun o m=>g o (eh _ m);⟨⟨rfl,h x dR,c.1⟩,g x dR,c.2⟩
theorem HP (d:Nat):∀(f a:List (List Nat×O)),(∀p∈f,fq p.2 d false)->(a.map (·.1)).Nodup->(∀p∈a,fq p.2 d false)->((dM f a).map (·.1)).Nodup/\(∀p∈dM f a,fq p.2 d false)/\(dM f a).length<=f.length+a.length
 | [],a,_,n,h=>⟨n,h,pe ..⟩|p::f,a,k,n,h=>by
  have j:=HP d f (l7 p.1 p.2 a) (fun q m=>k q (eh _ m)) (by rw[<- kY,kT];exact wl (by rw[kY];exact n)) fun q m=>(t9 m).elim (fun e=>e▸k p dR) (h q);have:=t8 p.1 p.2 a;refine⟨j.1,j.2.1,bR j.2.2 ?_⟩;show _<=f.length+1+a.length;lia
theorem zf(h:K5 D x f)(e:f.close a=some o):fq o (D+1) false:=by cases f with
 |arr l=>
  cases a with|false=>exact bN e|true=>
   cases (show some (O.arr (zJ l))=some o from e);have q:=xm h.1;exact⟨rfl,D,rfl,q.1,by rw[q.2];have:=h.2;lia⟩
 |dct i j=>
  cases a with
  |true=>exact bN e|false=>
   cases j with
   |some s=>exact bN e|none=>
    cases (show some (O.dict (uQ (nY i)))=some o from e);have q:=HP D i [] h.1 sE fun _ m=>absurd m dq;have fk:=xn (l:=nY i) (d:=D) (fun p m=>q.2.1 p (List.mem_filter.mp m).1) fun p m=>(List.mem_filter.mp m).2;have t:=List.length_filter_le (fun p:List Nat×O=>p.2.nn) (dM i []);have u:i.length+0+w2 x<=63:=h.2;have n:=q.2.2;rw[fm]at n;exact⟨rfl,D,rfl,fk.1,by rw[(kQ _).1,b0];show(List.filter _ _).length<64;lia,by rw[(kQ _).1];exact q.1.sublist (List.filter_sublist.map _),fk.2⟩
theorem zg(h:o.plain=true)(d:Nat):fq o d false:=by cases o<;>first|rfl|exact Bool.noConfusion h
theorem Dw(h:pv t r=some (o,r')):o.plain=true:=by
 have a:∀{x:O} {y:List UInt8},x.plain=true->some (x,y)=some (o,r')->o.plain=true:=fun hx h=>(dE (e9 h)).1▸hx;cases t with
 |fin=>exact bN h|sign=>exact bN h|name=>exact a rfl h|str=>exact a rfl h|hex=>exact a rfl h|real=>exact a rfl h|word w=>
  have h:(jZ w).bind _=some (o,r'):=h;unfold jZ at h;refine bS (decide (w=[116,114,117,101])) ?_ ?_
  ·intro c;rw[c]at h;exact a rfl h
  ·intro c;rw[c]at h;refine bS (decide (w=[102,97,108,115,101])) ?_ ?_
   ·intro d;rw[d]at h;exact a rfl h
   ·intro d;rw[d]at h;refine bS (decide (w=[110,117,108,108])) ?_ ?_
    ·intro e;rw[e]at h;exact a rfl h
    ·intro e;rw[e]at h;exact bN h|int i=>
  have h:(bif decide (i>=0)then(match ir i r with|none=>some (.int i,r)|some (g,r')=>some (.ref i g,r'))else some (.int i,r))=some (o,r'):=h;refine qI (decide (i>=0)) ?_ ?_
  ·intro f;rw[f]at h;exact a rfl h
  ·intro f;rw[f]at h;refine El (ir i r) ?_ ?_
   ·intro q;rw[q]at h;exact a rfl h
   ·intro x q;rw[q]at h;exact a rfl h
structure qL (M:Nat)(fs:List Fr)(x:List UInt8):Prop where
 c:2*fs.length+w1 x<=2*M
 s:w2 x<=63
 b:x.length<=800000
 f:KH M x fs
 t:∀f∈fs.tail,f.wants=false
noncomputable def KK (M:Nat):yS->Prop| .error _=>True| .ok (.inl q)=>fq q.1 M false| .ok (.inr (c,r))=>qL M c r
theorem qL.suf (h:qL M i x)(s:r<:+x):qL M i r:=⟨bR (pc (js s).1 _) h.c,bR (js s).2 h.s,bR s.length_le h.b,h.f.mono s,h.t⟩
theorem xo (h:qL M i x)(n:r<:+x)(hl:r.length+1<=x.length)(k:fq o (M-i.length) false)(p:dY i=true->w2 r+1<=w2 x):KK M (jm i o r):=by have hr:=h.suf n;have w:=(js n).2;cases i with
 |nil=>exact k|cons f i=>
  have hf:=h.f.1;refine⟨hr.c,hr.s,hr.b,⟨?_,hr.f.2⟩,h.t⟩;cases f with
  |arr l=>
   refine⟨fun y m=>(zG m).elim (hf.1 y) fun m=>List.mem_singleton.mp m▸k,?_⟩;have:=hf.2;rw[aK,Am];lia|dct g j=>
   cases j with
   |none=>
    have p:=p rfl;have:g.length+0+w2 x<=63:=hf.2;refine⟨hf.1,?_⟩;show g.length+(o.nameO.casesOn 0 fun _=>1)+w2 r<=63;cases o.nameO with
    |none=>show g.length+0+_<=_;lia|some s=>show g.length+1+_<=_;lia
   |some s=>
    have:g.length+1+w2 x<=63:=hf.2;refine⟨fun y m=>(zG m).elim (hf.1 y) fun m=>List.mem_singleton.mp m▸k,?_⟩;show(g++[(s,o)]).length+0+w2 r<=63;rw[aK,Am];lia
theorem tF (h:qL M j x)(l:r<:+x)(a:Bool)(o:w1 r+2<=w1 x)(n:dY j=false):KK M (bX j a m r):=by have hr:=h.suf l;have:=h.c;unfold bX;cases decide (j.length=40)with|true=>trivial|false=>
  refine⟨by rw[fj];lia,hr.s,hr.b,⟨?_,hr.f⟩,fun f hf=>?_⟩
  ·cases a with
   |true=>exact⟨fun _ m=>absurd m dq,by show 0+_<=_;have:=hr.b;exact pc (by assumption) _⟩|false=>exact⟨fun _ m=>absurd m dq,by show 0+0+_<=_;have:=hr.s;exact pc (by assumption) _⟩
  ·cases j with|nil=>exact absurd hf dq|cons g p=>exact(zC hf).elim (fun e=>e▸n) (h.t f)
theorem tG (h:qL M j x)(q:r<:+x)(hl:r.length+1<=x.length)(a:Bool):KK M (cU j a m r):=by cases j with|nil=>trivial|cons f j=>
  show KK M ((f.close a).casesOn (.error m) fun o=>jm j o r);cases z:f.close a with|none=>trivial|some o=>
   have c:2*(j.length+1)+w1 x<=2*M:=h.c;have n:=zf h.f.1 z;rw[show M-(j.length+1)+1=M-j.length by lia]at n;refine xo ⟨by lia,h.s,h.b,h.f.2,fun g u=>h.t g ((List.tail_suffix _).subset u)⟩ q hl n fun p=>?_;cases j with|nil=>exact Bool.noConfusion p|cons g v=>exact Bool.noConfusion ((h.t g dR).symm.trans p)
theorem Cf(h:qL M j x)(k:r<:+x)(hl:r.length+1<=x.length)(l:AM t r x):KK M (bG j t m r):=by unfold bG;cases g:(dY j&&!t.isName&&!isSg t [62,62])with|true=>trivial|false=>
  have u:∀s,isSg t s=true->s≠[62,62]->dY j=false:=fun s e n=>by
   have:=oo e;subst this;have A:isSg (.sign s) [62,62]=false:=cO n;rw[A]at g;cases z:dY j with
   |false=>rfl|true=>rw[z]at g;exact Bool.noConfusion g
  cases w:isSg t [91]with|true=>exact tF h k true (l.a w) (u _ w (by decide))|false=>
   cases y:isSg t [60,60]with|true=>exact tF h k false (l.d y) (u _ y (by decide))|false=>
    cases G:isSg t [93]with
    |true=>exact tG h k hl true|false=>
     cases B:isSg t [62,62]with|true=>exact tG h k hl false|false=>
      show KK M (bI j t m r);unfold bI;cases z:pv t r with|none=>trivial|some q=>
       have p:=rT (o:=q.1) (r':=q.2) z;refine xo h (p.trans k) (bR (pJ p.length_le) hl) (zg (Dw (o:=q.1) (r':=q.2) z) _) fun e=>?_;rw[e,B]at g;have D:t.isName=true:=by cases F:t.isName with
        |true=>rfl|false=>rw[F]at g;exact Bool.noConfusion g
       exact bR (pJ (js p).2) (l.n D)
theorem xq:∀(N:Nat) (a:List Fr) (x:List UInt8) {o:O} {b:List UInt8},qL M a x->run N a (aG false x)= .ok (o,b)->fq o M false
 |0,a,x,o,b,_,h=>bW h|N+1,a,x,o,b,g,h=>by
  have i:run (N+1) a (aG false x)=tO (dW (aG false x)) fun t r=>fg (run N) a t (aG false x).length r:=rfl;rw[i]at h;refine yv (dW (aG false x)) ?_ ?_
  ·intro z q;rw[q]at h;exact bW h
  ·intro y q;obtain⟨t,f⟩:=y;rw[q]at h;have h:fg (run N) a t (aG false x).length f= .ok (o,b):=h;unfold fg at h;rcases H5 q with e|⟨j,k,hl⟩
   ·subst e;rw[kW]at h;exact bW h
   ·have c:=Cf (m:=(aG false x).length) g k hl j;refine yv (bG a t (aG false x).length f) ?_ ?_
    ·intro z d;rw[d]at h;exact bW h
    ·intro y d;rw[d]at h c;cases y with
     |inl y=>
      have h:y=(o,b):=cS h;rw[h]at c;exact c|inr y=>exact xq N y.1 y.2 c h
theorem Fe(e:w1 s<=2*M)(c:w2 s<=63)(d:s.length<=800000)(h:run N [] (aG false s)= .ok (o,f)):fq o M false:=xq N [] s ⟨by rw[fm];rw[k8];assumption,c,d,trivial,fun _ m=>absurd m dq⟩ h
def Vq (n:Nat)(v:V):Prop:=∀a,mW n a v v=some true
theorem nX{s:Type} [DecidableEq s](a:s):some (decide (a=a))=some true:=congrArg some (dD rfl)
theorem eg (n:Nat)(s:List Nat):Vq (n+1) (.str s):=fun _=>nX s
theorem iC (n:Nat)(s:Int):Vq (n+1) (.int s):=fun _=>nX s
theorem Kw (n:Nat)(s:List UInt8):Vq (n+1) (.bytes s):=fun _=>nX s
theorem mv:∀{d:List V},(∀v∈d,f v v=some true)->jJ f d d=some true
 | [],_=>rfl|v::d,h=>by
  show(f v v).bind (fun a=>(jJ f d d).bind fun b=>some (a&&b))=_;rw[h v dR,mv fun u m=>h u (eh _ m)];rfl
theorem sv(h:∀v∈a,Vq n v):Vq (n+1) (.tup a):=fun c=>mv fun v m=>h v m c
theorem Hr(x:Vq n a)(y:Vq n b):Vq (n+1) (.tup [a,b]):=sv fun v m=>by
 rcases zC m with e|m
 ·rw[e];exact x
 ·rw[List.mem_singleton.mp m];exact y
theorem iO(x:Vq n a)(y:∀v∈l,Vq n v):∀v∈a::l,Vq n v:=fun v m=>(zC m).elim (fun e=>e▸x) (y v)
theorem tQ:∀{b:List (List Nat)} {l:List V},(b.zip l).lookup k=some v->v∈l
 | [],_,h=>bN h|_::_,[],h=>bN h|d::b,u::l,h=>by
  rw[uC,gZ]at h;refine bS (k==d) ?_ ?_
  ·intro q;rw[q]at h;cases h;exact dR
  ·intro q;rw[q]at h;exact eh _ (tQ h)
theorem yn (o:O):(∀d,fq o d false->∀n,2*d+2<=n->Vq n (dX o))/\∀d,fq o d true->∀n,2*d+2<=n->∀v∈tl o,Vq n v:=by
 have a:∀(l:List V),(∀n,∀v∈l,Vq (n+1) v)->∀(d n:Nat),2*d+2<=n->Vq n (.tup l):=fun l h d n e=>by
  obtain⟨m,rfl⟩:∃m,n=m+2:=⟨n-2,by lia⟩;exact sv (h m)
 have c:∀n,∀v∈ ([]:List V),Vq (n+1) v:=fun _ _ h=>absurd h dq;induction o with
 |null=>exact⟨fun d _=>a _ (fun n=>iO (eg n _) (c n)) d,fun d h=>Bool.noConfusion (show true=false from h)⟩|bool b=>exact⟨fun d _=>a _ (fun n=>iO (eg n _) (iO (iC n _) (c n))) d,fun d h=>Bool.noConfusion (show true=false from h)⟩|int i=>exact⟨fun d _=>a _ (fun n=>iO (eg n _) (iO (iC n _) (c n))) d,fun d h=>Bool.noConfusion (show true=false from h)⟩|real t n=>exact⟨fun d _=>a _ (fun n=>iO (eg n _) (iO (iC n _) (iO (iC n _) (c n)))) d,fun d h=>Bool.noConfusion (show true=false from h)⟩|name s=>exact⟨fun d _=>a _ (fun n=>iO (eg n _) (iO (eg n _) (c n))) d,fun d h=>Bool.noConfusion (show true=false from h)⟩|str s h=>exact⟨fun d _=>a _ (fun n=>iO (eg n _) (iO (Kw n _) (c n))) d,fun d h=>Bool.noConfusion (show true=false from h)⟩|ref n g=>exact⟨fun d _=>a _ (fun n=>iO (eg n _) (iO (iC n _) (iO (iC n _) (c n)))) d,fun d h=>Bool.noConfusion (show true=false from h)⟩|nil=>exact⟨fun d h=>Bool.noConfusion (show false=true from h),fun d _ n _ v h=>absurd h dq⟩|cons k x r j p=>exact⟨fun d h=>Bool.noConfusion h.1,fun d h n e=>iO (j.1 d h.2.1 n e) (p.2 d h.2.2 n e)⟩|arr l q=>
  refine⟨fun d h n e=>?_,fun d h=>Bool.noConfusion h.1⟩;obtain⟨_,w,rfl,y,_⟩:=h;obtain⟨m,rfl⟩:∃m,n=m+2:=⟨n-2,by lia⟩;exact sv (iO (eg m _) (q.2 w y (m+1) (by lia)))|dict l q=>
  refine⟨fun d h n e=>?_,fun d h=>Bool.noConfusion h.1⟩;obtain⟨_,w,rfl,y,_⟩:=h;obtain⟨m,rfl⟩:∃m,n=m+3:=⟨n-3,by lia⟩;refine sv (iO (eg (m+1) _) fun v B=>?_);obtain⟨k,_,rfl⟩:=zF B;refine Hr (eg m _) ?_;show Vq (m+1) (((l.keys.zip (tl l)).lookup k).casesOn .none id);cases z:(l.keys.zip (tl l)).lookup k with|none=>exact fun _=>rfl|some u=>exact q.2 w y (m+1) (by lia) u (tQ z)
theorem o6 (n:Nat)(i:Int):Vq (n+2) (rv i):=Hr (eg n _) (iC n _)
theorem ym(h:Vq (n+1) v):Vq (n+2) (As v):=Hr (eg n _) h
theorem kL(h:Vq 40 v)(a:MS):bc a .ne v v=some false:=by show(mW 40 a v v).bind _=_;rw[h a];rfl
theorem E7(h:Vq 40 v)(a:MS):bc a .eq v v=some true:=h a
theorem C4(l:g[a]?=some (.list i))(hb:g[b]?=some (.list i))(h:∀v∈i,Vq 38 v):bc g .ne (As (.loc a)) (As (.loc b))=some false:=by
 have e:mW 39 g (.loc a) (.loc b)=some true:=by
  show(aC g (.loc a)).bind (fun i=>(aC g (.loc b)).bind fun k=>bif i.length==k.length then jJ (mW 38 g) i k else some false)=_;rw[b5 l,b5 hb];show(bif i.length==i.length then jJ (mW 38 g) i i else some false)=_;rw[jK,mv fun v m=>h v m g];rfl
 show Option.bind (Option.bind (some (decide (([111,107]:List Nat)=[111,107]))) fun x=>Option.bind (Option.bind (mW 39 g (.loc a) (.loc b)) fun x=>Option.bind (some true) fun y=>some (x&&y)) fun y=>some (x&&y)) (fun x=>some !x)=_;rw[e];rfl
theorem Ej (a b:List UInt8):w1 (a++b)=w1 a+w1 b/\w2 (a++b)=w2 a+w2 b:=by unfold w1 w2;rw[List.count_append,List.count_append,List.count_append];exact⟨by lia,rfl⟩
theorem M0(h:s∈fT):w1 s=0/\w2 s=0:=c7 (l:=fT) (P:=fun s=>w1 s=0/\w2 s=0) ⟨⟨rfl,rfl⟩,⟨rfl,rfl⟩,⟨rfl,rfl⟩,⟨rfl,rfl⟩,trivial⟩ s h
theorem MZ(h:s∈kh):w1 s=0/\w2 s=0:=c7 (l:=kh) (P:=fun s=>w1 s=0/\w2 s=0) ⟨⟨rfl,rfl⟩,⟨rfl,rfl⟩,⟨rfl,rfl⟩,trivial⟩ s h
theorem Iw:∀{d:RS},Tk d->w1 (ba d)=cs 1 (fb d)/\w2 (ba d)=cs 3 (fb d)/\(ba d).length<=d.length*11
 | [],_=>⟨rfl,rfl,cc _⟩|p::r,h=>by
  have g:=Iw h.tl;have e:=Ej p.1 (p.2++ba r);have i:=Ej p.2 (ba r);have s:=M0 h.s1;have j:=ye h.t1;have k:=x7 h.s1;refine⟨?_,?_,?_⟩
  ·show w1 (p.1++(p.2++ba r))=cw 1 p.1+cs 1 (fb r);rw[e.1,i.1,s.1,g.1,iF];rfl
  ·show w2 (p.1++(p.2++ba r))=cw 3 p.1+cs 3 (fb r);rw[e.2,i.2,s.2,g.2.1,iF];rfl
  ·show(p.1++(p.2++ba r)).length<= (r.length+1)*11;rw[aK,aK];lia
structure sG (b:List UInt8):Prop where
 m:∀c∈b,c.toNat≠92/\c.toNat≠35
 a:w1 b<=24
 s:w2 b<=63
 l:b.length<=800000
theorem sG.fine(h:sG b):ky b:=⟨fun c m=>(h.m c m).1,fun c m=>(h.m c m).2,cN h.l (by decide),cN h.l (by decide)⟩
theorem sG.take(h:sG b)(e:Nat):sG (b.take e):=by have s:=List.take_sublist e b;exact⟨fun c m=>h.m c (s.subset m),bR (Nat.add_le_add (Nat.mul_le_mul_left 2 (s.count_le 91)) (s.count_le 60)) h.a,bR (s.count_le 47) h.s,bR s.length_le h.l⟩
theorem sG.fit(h:sG b)(e:run N [] (aG false b)= .ok (o,c)):fq o 12 false:=Fe (M:=12) h.a h.s h.l e
noncomputable def eZ (t:List UInt8):Bool:=t.all fun c=>!decide (c.toNat=92)&&!decide (c.toNat=35)
theorem eL(h:eZ t=true):∀c∈t,c.toNat≠92/\c.toNat≠35:=fun c m=>by
 have:=zB (zE h c m);exact⟨fun e=>by rw[dD e]at this;exact Bool.noConfusion this.1,fun e=>by rw[dD e]at this;exact Bool.noConfusion this.2⟩
theorem xG:∀{e:RS},Tk e->c∈ba e->c.toNat≠92/\c.toNat≠35
 | [],_,h=>absurd h dq|p::r,hk,h=>by
  rcases zG h with h|h
  ·exact eL (zE (show da.all eZ=true by decide+kernel) _ hk.t1) c h
  rcases zG h with h|h
  ·exact eL (zE (show fT.all eZ=true by decide+kernel) _ hk.s1) c h
  ·exact xG hk.tl h
theorem EY(i:f∈kh)(hk:Tk h)(k:cs 1 (fb h)<=24)(l:cs 3 (fb h)<=63)(n:h.length<64):sG (f++ba h):=by
 have w:=Iw hk;have e:=Ej f (ba h);have p:=MZ i;have o:f.length<=3:=aP (zE (show(kh.all fun t=>Nat.ble t.length 3)=true by decide+kernel) f i);refine⟨fun c m=>(zG m).elim (eL (zE (show kh.all eZ=true by decide+kernel) _ i) c) (xG hk),?_,?_,?_⟩
 ·rw[e.1,p.1,w.1,iF];exact k
 ·rw[e.2,p.2,w.2.1,iF];exact l
 ·rw[aK];have:=w.2.2;lia
noncomputable def yR (x:List UInt8):yS->Prop| .error _=>True| .ok (.inl q)=>q.2<:+x| .ok (.inr q)=>q.2<:+x
theorem xX(h:r<:+x):yR x (jm a o r):=by cases a<;>exact h
theorem DU(h:r<:+x):yR x (bG fs t m r):=by
 have g:∀a,yR x (bX fs a m r):=fun a=>by
  unfold bX;cases decide (fs.length=40)with
  |true=>trivial|false=>exact h
 have i:∀a,yR x (cU fs a m r):=fun a=>by
  cases fs with
  |nil=>trivial|cons f fs=>
   show yR x ((f.close a).casesOn (.error m) fun o=>jm fs o r);cases f.close a with
   |none=>trivial|some o=>exact xX h
 unfold bG;cases (dY fs&&!t.isName&&!isSg t [62,62])with|true=>trivial|false=>
  cases isSg t [91]with
  |true=>exact g true|false=>
   cases isSg t [60,60]with|true=>exact g false|false=>
    cases isSg t [93]with
    |true=>exact i true|false=>
     cases isSg t [62,62]with|true=>exact i false|false=>
      show yR x (bI fs t m r);unfold bI;cases q:pv t r with|none=>trivial|some j=>exact xX ((rT (o:=j.1) (r':=j.2) q).trans h)
theorem x6:∀(N:Nat) (a:List Fr) (x:List UInt8) {o:O} {b:List UInt8},run N a (aG false x)= .ok (o,b)->b<:+x
 |0,a,x,o,b,h=>bW h|N+1,a,x,o,b,h=>by
  have g:run (N+1) a (aG false x)=tO (dW (aG false x)) fun t r=>fg (run N) a t (aG false x).length r:=rfl;rw[g]at h;refine yv (dW (aG false x)) ?_ ?_
  ·intro z q;rw[q]at h;exact bW h
  ·intro y q;obtain⟨t,f⟩:=y;rw[q]at h;have h:fg (run N) a t (aG false x).length f= .ok (o,b):=h;unfold fg at h;rcases H5 q with e|⟨_,i,_⟩
   ·subst e;rw[kW]at h;exact bW h
   ·have c:=DU (fs:=a) (t:=t) (m:=(aG false x).length) i;refine yv (bG a t (aG false x).length f) ?_ ?_
    ·intro z d;rw[d]at h;exact bW h
    ·intro y d;rw[d]at h c;cases y with
     |inl y=>
      have h:y=(o,b):=cS h;rw[h]at c;exact c|inr y=>exact(x6 N y.1 y.2 h).trans c
theorem ur:∀(n:Nat) {N:Nat} (s:List UInt8) {b:List O},sG s->fh N n s= .ok b->∀o∈b,fq o 12 false
 |0,N,s,b,_,h=>by cases (show(Except.ok []:Except Nat (List O))= .ok b from h);exact fun _ m=>absurd m dq|n+1,N,[],b,_,h=>by cases (show(Except.ok []:Except Nat (List O))= .ok b from h);exact fun _ m=>absurd m dq|n+1,N,c::t,b,hd,h=>by
  have h:((run N [] (aG false (c::t))).casesOn .error fun q=>(fh N n (aG false q.2)).casesOn .error fun l=>.ok (q.1::l):Except Nat (List O))= .ok b:=h;refine yv (run N [] (aG false (c::t))) ?_ ?_
  ·intro m z;rw[z]at h;exact bW h
  ·intro q z;rw[z]at h;have h:((fh N n (aG false q.2)).casesOn .error fun l=>.ok (q.1::l):Except Nat (List O))= .ok b:=h;refine yv (fh N n (aG false q.2)) ?_ ?_
   ·intro m i;rw[i]at h;exact bW h
   ·intro l i;rw[i]at h;cases (show(Except.ok (q.1::l):Except Nat (List O))= .ok b from h);have r:=x6 N [] (c::t) z;have j:=(eG q.2 false).trans r;have p:sG (aG false q.2):=⟨fun x m=>hd.m x (j.subset m),bR (js j).1 hd.a,bR (js j).2 hd.s,bR j.length_le hd.l⟩;exact fun o m=>(zC m).elim (fun e=>e▸hd.fit z) (ur n _ p i o)
theorem uw:∀(n:Nat) {N:Nat} (s:List UInt8) {a:List O},fh N n s= .ok a->a.length<=s.length
 |0,N,s,a,h=>by cases (show(Except.ok []:Except Nat (List O))= .ok a from h);exact jw _|n+1,N,[],a,h=>by cases (show(Except.ok []:Except Nat (List O))= .ok a from h);exact jw _|n+1,N,c::t,a,h=>by
  have h:((run N [] (aG false (c::t))).casesOn .error fun q=>(fh N n (aG false q.2)).casesOn .error fun l=>.ok (q.1::l):Except Nat (List O))= .ok a:=h;refine yv (run N [] (aG false (c::t))) ?_ ?_
  ·intro m z;rw[z]at h;exact bW h
  ·intro q z;rw[z]at h;have h:((fh N n (aG false q.2)).casesOn .error fun l=>.ok (q.1::l):Except Nat (List O))= .ok a:=h;refine yv (fh N n (aG false q.2)) ?_ ?_
   ·intro m d;rw[d]at h;exact bW h
   ·intro l d;rw[d]at h;cases (show(Except.ok (q.1::l):Except Nat (List O))= .ok a from h);have e:=rX N [] (c::t) z;have f:=uw n _ d;have g:=(eG q.2 false).length_le;show l.length+1<=_;lia
theorem yf(U:M w)(X:w≠F):∀(y:List O) (z A out:List V) (r:MS) (c:List (Nat×V)),lg M r y z->(∀o∈y,fq o 12 false)->r[F]?=some (.list (A++z))->r[w]?=some (.list out)->out.length+z.length<1000000->(∀v,az 6647407 v c=[(6647407,v)])->(∀n,Kp (· =w) r n->n[w]?=some (.list (out++y.map dX))->Q n)->j0 (k+14) 6647407 [] (.call (.val (.fn 51)) [.loc 6647407]) w (.list F A.length) ⟨c,[]⟩ r Q
 | [],z,A,out,r,c,H,hf,hF,G,I,J,hq=>by
  cases f0 H;exact eS J (aj.mk _ (mK hF) (hq r (Kp.refl _ _) (by rw[o9,cF];exact G)))|o::y,z,A,out,r,c,H,hf,hF,G,I,J,hq=>by
  obtain⟨u,C,e,Z,K⟩:=H;cases f0 e;have I:out.length+(C.length+1)<1000000:=I;refine eS J ?_;refine aj.mk _ (mL hF) ?_;refine a9.pos rfl ?_;refine(?_:Call (k+14) 51 0 [u] r _);refine sh (k:=k) (hf o dR) Z fun L N=>?_;have P:Kp (· =w) r (L.set w (.list (out++[dX o]))):=(N.mono fun i _ h=>False.elim h).tr (Kp.set _ _ rfl);refine aj.mk _ (b5 (N.at G id)) ?_;refine And.intro (by exact cN (dn ..) (by assumption)) ?_;refine yf U X y C (A++[u]) (out++[dX o]) _ _ (St.mono P (fun i Z K=>K.elim id fun e=>e▸U) _ K) (fun x m=>hf x (eh _ m)) (by rw[dU];exact P.at hF (ci X)) (aq _ (N.at G id)) (by rw[aK];show out.length+1+_<_;rw[lb];assumption) (fun _=>rfl) fun n k' g=>hq n (P.tr k') (by rw[g,dU];rfl)
theorem sG.readV(d:sG b)(a:Internal.dO b= .ok o):fq o 12 false:=by
 unfold Internal.dO at a;refine yv (run (b.length+2) [] (aG false b)) ?_ ?_
 ·intro m z;rw[z]at a;exact bW a
 ·intro q z;rw[z]at a;have a:vD q.1 (aG false q.2)= .ok o:=a;refine Nh (aG false q.2) ?_ ?_
  ·intro g;rw[g]at a;rw[<- cS (show(Except.ok q.1:Except Nat O)= .ok o from a)];exact d.fit z
  ·intro c t g;rw[g]at a;exact bW a
noncomputable def y5 (e:Nat)(x:Except Nat O):V:=x.casesOn (fun m=>rv ((e:Int)-m)) fun o=>As (dX o)
theorem FL (d:sG b)(hc:i[h]?=some (.cell (some (.bytes b))))(hq:∀e,Kp (fun _=>False) i e->Q (.ok (y5 b.length (dO b))) e):Call (k+16) 79 0 [.lam (.call (.val (.fn 51)) [.call (.val (.fn 65)) [.cell 1635017060]]) [(1635017060,h)]] i Q:=by refine ij (v9 ?_);refine aj.mk _ (aD (mf:=⟨[],[(1635017060,h)]⟩) rfl hc) ?_;refine(?_:Call (k+14) 65 0 [.bytes b] i _);refine dP d.fine fun x l=>?_;rw[l]at hq;cases x with
 |error m=>exact hq|ok o=>
  intro p v q r;have hf:=d.readV l;refine sh (k:=k) hf r fun j s=>?_;exact hq j (q.tr s)
theorem CX (d:sG b)(hc:t[h]?=some (.cell (some (.bytes b))))(hq:∀x,fh (b.length+2) b.length (aG false b)=x->match x with
  | .error m=>∀j,Kp (fun _=>False) t j->Q (.ok (rv ((b.length:Int)-m))) j| .ok z=>(∀o∈z,fq o 12 false)->∀j F,Kp (fun _=>False) t j->j[F]?=some (.list (z.map dX))->Q (.ok (As (.loc F))) j):Call (k+16) 79 0 [.lam (.comp [] 6647407 (.call (.val (.fn 66)) [.cell 1635017060]) [] (.call (.val (.fn 51)) [.loc 6647407])) [(1635017060,h)]] t Q:=by
 refine ij (v9 ?_);refine aj.mk _ (aD (mf:=⟨[],[(1635017060,h)]⟩) rfl hc) ?_;refine(?_:Call (k+14) 66 0 [.bytes b] t _);refine pG d.fine fun x C=>?_;have hq:=hq x C;cases x with
 |error m=>exact hq|ok z=>
  intro p F G H le hF I;have y:=eG b false;have hf:=ur _ (aG false b) ⟨fun x m=>d.m x (y.subset m),bR (js y).1 d.a,bR (js y).2 d.s,bR y.length_le d.l⟩ C;have nv:G.length<1000000:=by
   have:=lg.len I;have:=uw _ _ C;have:=y.length_le;have:=d.l;lia
  refine aj.mk _ (tM hF) ?_;refine And.intro rfl ?_;have J:Kp (fun _=>False) p (p++[.list []]):=Kp.app _ _ _;have lF:=bK hF;refine yf (M:=fun i=>(i<t.length\/i=F)\/i=p.length) (.inr rfl) (fP lF) z G [] [] _ [] (St.mono J (fun i h1 h2=>h2.elim (fun h=>h.elim id fun e=>absurd e (eo h1)) False.elim) _ I) hf (ai _ hF) (ag p _ []) (by rw[fm,iF];exact nv) (fun _=>rfl) fun j k' g=>?_;exact hq hf j p.length ((H.tr J).fresh k' fun i h=>by have:=H.len;lia) g
theorem jG(v:V)(hc:mf.cells.lookup n=some h)(e:d[h]?=some (.cell o)):iy mf n v d=some (mf,d.set h (.cell (some v))):=by show(mf.cells.lookup n).bind _=_;rw[hc];show(d[h]?).bind _=_;rw[e];rfl
def LT (e:List (Nat×V)):Prop:=∃a,(∀v,az 1852994932 v e=(1852994932,v)::a)/\∃b,(∀v,az 7827314 v a=(7827314,v)::b)/\∃c,(∀v,az 126879296220272 v b=(126879296220272,v)::c)/\∃d,(∀v,az 6649188 v c=(6649188,v)::d)/\∀v,az 6581861 v d=[(6581861,v)]
theorem LT.n0:LT []:=⟨_,fun _=>rfl,_,fun _=>rfl,_,fun _=>rfl,_,fun _=>rfl,fun _=>rfl⟩
theorem LT.n5 (a b c d e:V):LT [(1852994932,a),(7827314,b),(126879296220272,c),(6649188,d),(6581861,e)]:=⟨_,fun _=>rfl,_,fun _=>rfl,_,fun _=>rfl,_,fun _=>rfl,fun _=>rfl⟩
noncomputable abbrev wb (S:V)(P h:Nat)(a:List (Nat×V)):MF:=⟨(128026154263411,S)::(7234928,.loc P)::a,[(1635017060,h)]⟩
theorem Ky(d:sG s):Vq 40 (Mt s):=by unfold Mt;cases z:run (s.length+2) [] (aG false s)with|error m=>exact o6 38 _|ok q=>exact ym (n:=38) (Hr ((yn q.1).1 12 (d.fit z) 38 (by decide)) (iC 37 _))
theorem Kx(d:sG b):Vq 40 (y5 b.length (dO b)):=by unfold y5;cases z:dO b with|error m=>exact o6 38 _|ok o=>exact ym (n:=38) ((yn o).1 12 (d.readV z) 39 (by decide))
theorem L5(i:Nat):bV g (.bytes o) none (some (.int i))=some (.bytes (o.take i),g):=by have q:b4 o.length (some (.int (i:Int)))=some i:=au (e:=none) (kq i);show(b4 o.length (some (.int (i:Int)))).bind (fun j=>some (V.bytes ((o.take j).drop 0),g))=_;rw[q];rfl
theorem Kq{S:V}(L:h≠P)(M:∀v,az 6581861 v H=[(6581861,v)])(d:sG b)(N:gv P B)(hc:B[h]?=some (.cell (some (.bytes b)))) (hq:∀f w,LT w->gv P f->f[h]?=some (.cell (some (.bytes b)))->F (wb S P h w) f):pSs (k+100) (bJ.drop 6) (wb S P h ((1852994932,t)::(7827314,R)::(126879296220272,pl)::(6649188,du)::H)) B (rx Q F):=by
 have C:∀(w:List (Nat×V)) (f:MS),f[h]?=some (.cell (some (.bytes b)))->bn ⟨(128026154263411,S)::(7234928,.loc P)::w,[(1635017060,h)]⟩ 1635017060 f=some (.ok (.bytes b),f):=fun w f hc=>aD rfl hc;refine aj.mk _ (C _ B hc) ?_;refine aj.mk _ rfl ?_;refine aj.mk _ rfl ?_;have dl:=d.l;refine(?_:Call (k+100) 69 0 [.loc P,.int (b.length+1:Nat)] B _);refine g9 (k:=k+99) N (jv _) (by lia) fun p e he U X=>?_;have q:=U.at hc L;show pSs (k+100) (bJ.drop 7) ⟨_::_::_::_::_::_::az 6581861 (.int e) H,_⟩ p _;rw[M];have I:e<=b.length:=Nat.le_of_lt_succ he;have Y:(b.take e).length=e:=(pK ..).trans (qH I);have Z:(b.take e).take e=b.take e:=by rw[List.take_take,Nat.min_self]
 refine kg ?_;refine aj.mk _ (C _ p q) ?_;refine(?_:Call (k+100) 80 0 [.bytes b,.int e] p _);refine mM (k:=k+83) d.fine I (fun o r' z=>(d.take e).fit z) fun y G=>?_;refine aj.mk _ (C _ y (G.at q id)) ?_;refine aj.mk _ (L5 e) ?_;refine(?_:Call (k+100) 80 0 [.bytes (b.take e),.int e] y _);refine mM (k:=k+83) (d.take e).fine (iG Y.symm) (fun o r' z=>((d.take e).take e).fit z) fun A J=>?_;rw[Z];refine aj.mk _ (kL (Ky (d.take e)) A) ?_;refine a9.neg rfl ?_;exact hq A _ (.n5 ..) (X.mono (G.tr J) id) ((G.tr J).at q id)
structure Lr (b:List UInt8)(rs:RS):Prop where
 e:∃pre,pre∈kh/\b=pre++ba rs
 k:Tk rs
 n:rs.length<64
 c:cs 0 (fb rs)<=8
 d:sG b
theorem Lr.r (h:Lr b a):dO b=LM (rd 200 .v a):=h.e.elim fun d q=>q.2▸Dz q.1 h.k (bR h.c (by decide)) h.n
theorem Lr.v (h:Lr b f):fh (b.length+2) b.length (aG false b)=Io 200 64 f:=h.e.elim fun g q=>q.2▸Eg q.1 h.k (bR h.c (by decide)) h.n
theorem Ko{S:V}(N:h≠P)(U:∀v,az 6581861 v J=[(6581861,v)])(l:Lr b X)(Y:gv P s)(hx:Rx R L b.length X s)(hc:s[h]?=some (.cell (some (.bytes b)))) (hq:∀a u,LT u->gv P a->a[h]?=some (.cell (some (.bytes b)))->F (wb S P h u) a):pSs (k+100) (bJ.drop 4) (wb S P h ((1852994932,t)::(7827314,.loc R)::(126879296220272,.loc L)::(6649188,y5 b.length (dO b))::J)) s (rx Q F):=by
 have K:∀(u:List (Nat×V)) (a:MS),a[h]?=some (.cell (some (.bytes b)))->bn ⟨(128026154263411,S)::(7234928,.loc P)::u,[(1635017060,h)]⟩ 1635017060 a=some (.ok (.bytes b),a):=fun u a hc=>aD rfl hc;have d:=l.d;refine kg ?_;refine And.intro rfl ?_;refine(?_:Call (k+100) 79 0 [.lam _ [(1635017060,h)]] s _);refine FL (k:=k+84) d hc fun y C=>?_;refine aj.mk _ (kL (Kx d) y) ?_;refine a9.neg rfl ?_;refine kg ?_;refine And.intro rfl ?_;refine(?_:Call (k+100) 79 0 [.lam _ [(1635017060,h)]] y _);have z:∀a,Kp (fun _=>False) s a->pSs (k+100) (bJ.drop 6) (wb S P h ((1852994932,t)::(7827314,.loc R)::(126879296220272,.loc L)::(6649188,y5 b.length (dO b))::J)) a (rx Q F):=fun a M=>Kq N U d (Y.mono M id) (M.at hc id) hq;refine CX (k:=k+84) d (C.at hc id) fun x ex=>?_;have A:=l.v.symm.trans ex;cases x with
 |error m=>
  intro r G;have f:=C.tr G;refine aj.mk _ (K _ r (f.at hc id)) ?_;refine aj.mk _ rfl ?_;refine Call.okF (HH (k:=k+79) (c:=8) l.n (hx.mono f) l.c ?_);rw[A];intro j B;refine aj.mk _ (kL (o6 38 _) j) ?_;refine a9.neg rfl ?_;exact z j (f.tr B)|ok os=>
  intro hf r D G hD;have f:=C.tr G;refine aj.mk _ (K _ r (f.at hc id)) ?_;refine aj.mk _ rfl ?_;refine Call.okF (HH (k:=k+79) (c:=8) l.n (hx.mono f) l.c ?_);rw[A];intro j D2 B I;refine aj.mk _ (C4 (B.at hD id) I fun v m=>?_) ?_
  ·obtain⟨o,ho,rfl⟩:=zF m;exact(yn o).1 12 (hf o ho) 38 (by decide)
  refine a9.neg rfl ?_;exact z j (f.tr B)
theorem Kn{S:V}(nP:h≠P)(hd:∀v,az 6649188 v v3=(6649188,v)::v4)(hv:∀v,az 6581861 v v4=[(6581861,v)])(l:Lr b rs)(hp:gv P B)(hx:Rx R L b.length rs B)(hc:B[h]?=some (.cell (some (.bytes b)))) (hq:∀a vs,LT vs->gv P a->a[h]?=some (.cell (some (.bytes b)))->F (wb S P h vs) a):pSs (k+100) (bJ.drop 2) (wb S P h ((1852994932,t)::(7827314,.loc R)::(126879296220272,.loc L)::v3)) B (rx Q F):=by
 refine aj.mk _ (aD (mf:=wb S P h ((1852994932,t)::(7827314,.loc R)::(126879296220272,.loc L)::v3)) rfl hc) ?_;refine aj.mk _ rfl ?_;refine Call.okF ((rG 200).1 (k+80) 8 R L B b.length rs [] rs _ l.n hx rfl l.c (by have:=l.n;lia) ?_);have rl:=l.r;have go:∀x,rd 200 .v rs=x->LQ b.length rs 0 B (fun v B=>pSs (k+100) (bJ.drop 3) (wb S P h ((1852994932,t)::(7827314,.loc R)::(126879296220272,.loc L)::(6649188,v)::v4)) B (rx Q F)) x:=by
  intro x ex;rw[ex]at rl;have i:∀a,Kp (fun _=>False) B a->pSs (k+100) (bJ.drop 4) (wb S P h ((1852994932,t)::(7827314,.loc R)::(126879296220272,.loc L)::(6649188,y5 b.length (dO b))::v4)) a (rx Q F):=fun a u=>Ko nP hv l (hp.mono u id) (hx.mono u) (u.at hc id) hq;cases x with
  |error m=>
   rw[rl]at i;intro a u;refine kg ?_;refine aj.mk _ rfl ?_;refine aj.mk _ rfl ?_;refine a9.neg rfl ?_;exact i a u|ok q=>
   intro a s y _ _ u;have i:=i a u;rw[rl]at i;refine kg ?_;refine aj.mk _ rfl ?_;refine aj.mk _ rfl ?_;refine a9.pos rfl ?_;refine aj.mk _ rfl ?_;refine aj.mk _ (mc (hx.mono u)) ?_;refine aj.mk _ rfl ?_;obtain⟨o,r'⟩:=q;cases r' with
   |nil=>
    refine a9.pos (by rw[y,cF];exact dD rfl) ?_
    refine aj.mk _ rfl ?_
    refine And.intro (aP rfl) ?_
    exact i
   |cons p r=>
    refine a9.neg (cO fun e=>?_) ?_
    ·rw[y,aK]at e
     have e:(s.length:Int)=((s.length+(r.length+1):Nat):Int):=e
     lia
    refine aj.mk _ rfl ?_
    refine aj.mk _ (DI (hx.mono u) y) ?_
    refine And.intro (aP rfl) ?_
    exact i
 have go:=go _ rfl
 cases z:rd 200 .v rs with
 |error m=>
  rw[z]at go
  intro a u
  show pSs (k+100) (bJ.drop 3) ⟨_::_::_::_::_::az 6649188 _ v3,_⟩ a _
  rw[hd]
  exact go a u
 |ok q=>
  rw[z]at go
  intro a s y lt ov u
  show pSs (k+100) (bJ.drop 3) ⟨_::_::_::_::_::az 6649188 _ v3,_⟩ a _
  rw[hd]
  exact go a s y lt ov u
theorem Km{S:V}(C:h≠P)(hr:∀v,az 7827314 v v1=(7827314,v)::v2)(hl:∀v,az 126879296220272 v v2=(126879296220272,v)::v3)(hd:∀v,az 6649188 v v3=(6649188,v)::v4)(hv:∀v,az 6581861 v v4=[(6581861,v)])(hp:gv P D)(hc:D[h]?=some (.cell o)) (hq:∀j G b,LT G->gv P j->j[h]?=some (.cell (some (.bytes b)))->F (wb S P h G) j):pSs (k+100) bJ (wb S P h ((1852994932,t)::v1)) D (rx Q F):=by
 refine(?_:Call (k+100) 73 0 [.loc P,.int 0] D _);refine Ie 3 (cc _) (k+94) P D _ 0 rfl hp fun I R1 row1 J K p1 le1 g1=>?_;refine(?_:Call (k+100) 74 0 [.loc P,.loc R1] I _);refine IN (k:=k+97) p1 J g1 (fun e=>by have:=hp.lt;lia) fun z R row d M p2 nR H=>?_;show pSs (k+100) _ ⟨_::_::_::az 7827314 (.loc R) v1,_⟩ z _;rw[hr];refine(?_:Call (k+100) 75 0 [.loc P,.loc R] z _);refine Jt (k:=k+97) p2 d H nR fun N w n L er hs r k3 p3 le3 g3=>?_;have U:=(K.tr M).tr k3;have A:=U.at hc C;have lh:=bK hc;have lR:=bK H;have l1:=(K.tr M).len;have Y:h≠R:=fun e=>by
  have a:=(K.tr M).at hc C;rw[e]at a;cases a.symm.trans H
 have Z:h≠L:=by lia
 subst er;refine aj.mk _ (jG _ rfl A) ?_;have tl:w.length<64:=by have:=d.bd 2 (by exact eO _);rw[im,b0]at this;exact cN this (by decide)
 have tk:Tk w:=⟨fun p m=>d.mem _ (e7 m),hs⟩;have lr:Lr (n++ba w) w:=⟨⟨n,r,rfl⟩,tk,tl,d.bd 0 (by exact jv _),EY r tk (d.bd 1 (by decide)) (bR (d.bd 3 (by exact cc _)) (by decide)) tl⟩;have hx:Rx R L (n++ba w).length w (N.set h (.cell (some (.bytes (n++ba w))))):=⟨by rw[xS];exact aW _ Y (k3.at H nR),aW _ Z g3,tk.t⟩;show And (_=_) (pSs (k+100) _ ⟨_::_::_::_::az 126879296220272 (.loc L) v2,_⟩ _ _);rw[hl];exact⟨rfl,Kn C hd hv lr (p3.mono (Kp.set (P:=(· =h)) _ _ rfl) (fun e=>C e.symm)) hx (aq _ A) fun j G a b c=>hq j G _ a b c⟩
theorem yj{S:V}(m:h≠P)(hq:∀a c,gv P a->Q .next (wb S P h c) a):∀(n:Nat) (x:Int) (d:MS) (c:List (Nat×V)) (o:Option V),LT c->gv P d->d[h]?=some (.cell o)->mP (k+100) qd bJ (.rng x n 1) (wb S P h c) d Q
 |0,x,d,c,o,B,e,hc=>jI (aj.mk _ rfl (hq d c e))|n+1,x,d,c,o,⟨s,t,C,u,D,w,F,y,z⟩,e,hc=>by
  refine ry (n:=1852994932) (f:=fun v=>wb S P h ((1852994932,v)::s)) (fun v=>congrArg (fun q=>MF.mk ((128026154263411,S)::(7234928,V.loc P)::q) [(1635017060,h)]) (t v)) ?_;refine aj.mk _ rfl ?_;exact Km m u w y z e hc fun a g b i j l=>yj m hq n _ a g _ i j l
theorem LE{n1 n2:Nat}(l:mf.cells.lookup n1=some m)(n:mf.cells.lookup n2=some o)(p:j[m]?=some (.cell (some (.bytes a))))(q:j[o]?=some (.cell (some (.bytes b))))(u:a.length<100)(v:b.length<100) (hq:Q (.ok (.bytes (([91]++a++[32])++b++[32,82,93]))) j):pE k mf (.bin .add (.bin .add (.bin .add (.bin .add (.val (.bytes [91])) (.cell n1)) (.val (.bytes [32]))) (.cell n2)) (.val (.bytes [32,82,93]))) j Q:=by
 have r:([91]++a:List UInt8).length<=1000000:=by rw[aK];show 1+_<=_;lia
 have s:([91]++a++[32]:List UInt8).length<=200:=by rw[aK,aK];show 1+_+1<=_;lia
 have t:([91]++a++[32]++b:List UInt8).length<=300:=by rw[aK];lia
 refine aj.mk _ (aD l p) ?_;refine aj.mk _ (jP _ _ r) ?_;refine aj.mk _ (jP _ _ (bR s (by decide))) ?_;refine aj.mk _ (aD n q) ?_;refine aj.mk _ (jP _ _ (bR t (by decide))) ?_;refine aj.mk _ (jP _ _ (by rw[aK];show _+3<=_;lia)) ?_;exact hq
noncomputable abbrev Iq (a b:List UInt8):List UInt8:=([91]++a++[32])++b++[32,82,93]
noncomputable def Cd (b:List UInt8):Bool:=eZ b&&Nat.ble b.length 99
theorem xk(h:Cd b=true):ky b:=by have h:=zB h;have l:=aP h.2;exact⟨fun c m=>(eL h.1 c m).1,fun c m=>(eL h.1 c m).2,by exact cN (by assumption) (aP rfl),by exact cN (by assumption) (aP rfl)⟩
noncomputable abbrev DF (h:Nat)(a:List (Nat×V)):MF:=⟨a,[(6647407,h),(491327616111,h+1)]⟩
structure Rc (h:Nat)(ms:MS):Prop where
 a:∃o,ms[h]?=some (.cell o)
 b:∃o,ms[h+1]?=some (.cell o)
theorem ud(hc:Rc h v)(y:Cd (Iq a b)=true)(r:Nat.ble a.length 9=true)(s:Nat.ble b.length 9=true)(hr:dO (Iq a b)= .error 2) (hq:∀e,Rc h e->mP (k+20) bC bB (.seq z) (DF h w) e Q):mP (k+20) bC bB (.seq (.tup [.bytes a,.bytes b]::z)) (DF h w) v Q:=by
 have r:=aP r;have s:=aP s;obtain⟨⟨D,t⟩,F,u⟩:=hc;refine jI ?_;refine aj.mk _ rfl ?_;refine aj.mk _ (jG (.bytes a) (mf:=DF h w) rfl t) ?_;have n:h≠h+1:=(Nat.succ_ne_self h).symm;refine aj.mk _ (jG (.bytes b) (mf:=DF h w) rfl (aW _ n u)) ?_;have p:=aW (.cell (some (.bytes b))) (ci n) (aq (.cell (some (.bytes a))) t);have q:=aq (.cell (some (.bytes b))) (aW (.cell (some (.bytes a))) n u);refine And.intro rfl ?_;show pSs _ _ _ _ _;refine kg ?_;refine And.intro rfl ?_;refine(?_:Call (k+20) 79 0 [.lam _ [(6647407,h),(491327616111,h+1)]] _ _);refine ij (v9 ?_);refine LE (mf:=⟨[],[(6647407,h),(491327616111,h+1)]⟩) rfl rfl p q (by lia) (by lia) ?_;refine(?_:Call (k+18) 65 0 [.bytes (Iq a b)] _ _);refine dP (k:=k+10) (xk y) fun x B=>?_;cases hr.symm.trans B;intro e m;have C:((Iq a b).length:Int)-((2:Nat):Int)=a.length+b.length+3:=by
  have:(Iq a b).length=a.length+b.length+5:=by simp only[aK,fj,fm];lia
  rw[this];lia
 rw[C]
 refine aj.mk _ (aD (mf:=DF h w) rfl (m.at p id)) ?_
 refine aj.mk _ rfl ?_
 refine aj.mk _ (aD (mf:=DF h w) rfl (m.at q id)) ?_
 refine aj.mk _ rfl ?_
 refine aj.mk _ rfl ?_
 refine aj.mk _ rfl ?_
 refine And.intro (aP rfl) ?_
 refine aj.mk _ (kL (o6 38 _) e) ?_
 refine a9.neg rfl ?_
 exact hq e ⟨⟨_,m.at p id⟩,_,m.at q id⟩
theorem DC(hc:Rc h D)(F:∀v,az 1919508848 v w=[(1919508848,v)])(G:Cd (Iq a b)=true)(q:Nat.ble a.length 9=true)(r:Nat.ble b.length 9=true)(hr:dO (Iq a b)= .ok (.arr (zJ [.ref x y]))) (hq:∀l w,(∀v,az 1919508848 v w=[(1919508848,v)])->Rc h l->mP (k+20) bE bD (.seq H) (DF h w) l Q):mP (k+20) bE bD (.seq (.tup [.bytes a,.bytes b,.tup [.int x,.int y]]::H)) (DF h w) D Q:=by have q:=aP q;have r:=aP r;obtain⟨⟨N,s⟩,P,t⟩:=hc;refine jI ?_;refine aj.mk _ rfl ?_;refine aj.mk _ (jG (.bytes a) (mf:=DF h w) rfl s) ?_;have n:h≠h+1:=(Nat.succ_ne_self h).symm;refine aj.mk _ (jG (.bytes b) (mf:=DF h w) rfl (aW _ n t)) ?_;have A:=aW (.cell (some (.bytes b))) (ci n) (aq (.cell (some (.bytes a))) s);have B:=aq (.cell (some (.bytes b))) (aW (.cell (some (.bytes a))) n t);refine And.intro rfl ?_;show pSs (k+20) _ ⟨az 1919508848 (.tup [.int x,.int y]) w,_⟩ _ _;rw[F];refine kg ?_;refine And.intro rfl ?_;refine(?_:Call (k+20) 79 0 [.lam _ [(6647407,h),(491327616111,h+1)]] _ _);refine ij (v9 ?_);refine LE (mf:=⟨[],[(6647407,h),(491327616111,h+1)]⟩) rfl rfl A B (by lia) (by lia) ?_;refine(?_:Call (k+18) 65 0 [.bytes (Iq a b)] _ _);refine dP (k:=k+10) (xk G) fun z I=>?_;cases hr.symm.trans I;intro J v K L;have hf:fq (.arr (zJ [.ref x y])) 1 false:=⟨rfl,0,rfl,⟨rfl,rfl,rfl⟩,(by decide:1<900000)⟩;refine sh (k:=k+15) hf L fun o M=>?_;have C:=K.tr M;refine And.intro (aP rfl) ?_;refine aj.mk _ (pZ (x:=[.str [114,101,102]]) (y:=[.int x,.int y]) (aP rfl)) ?_;refine And.intro (aP rfl) ?_;refine And.intro (aP rfl) ?_;refine aj.mk _ (kL (v:=As (dX (.arr (zJ [.ref x y])))) (ym (n:=38) ((yn _).1 1 hf 39 (by decide))) o) ?_;refine a9.neg rfl ?_;exact hq o _ (fun _=>rfl) ⟨⟨_,C.at A id⟩,_,C.at B id⟩
theorem JQ(hq:∀i,Q (.ok (.bool true)) i):Call (k+21) 83 0 [] f Q:=by
 have l:(f++[ah.cell none,.cell none])[f.length+1]?=some (.cell none):=by rw[my (eO _),show f.length+1-f.length=1 by rw[uG]];rfl
 refine gC (fn:=bw) rfl rfl ?_;refine(?_:pSs (k+20) bw.body (DF f.length []) (f++[.cell none,.cell none]) _);refine And.intro (aP rfl) ?_;refine And.intro (aP rfl) ?_;refine And.intro (aP rfl) ?_;refine And.intro (aP rfl) ?_;refine And.intro (aP rfl) ?_;refine And.intro (aP rfl) ?_;refine aj.mk _ rfl ?_;refine ud ⟨⟨_,ag f _ _⟩,_,l⟩ rfl rfl rfl (by kernel_rfl) fun d c=>?_;refine ud c rfl rfl rfl (by kernel_rfl) fun d c=>?_;refine ud c rfl rfl rfl (by kernel_rfl) fun d c=>?_;refine ud c rfl rfl rfl (by kernel_rfl) fun d c=>?_;refine ud c rfl rfl rfl (by kernel_rfl) fun d c=>?_;refine jI (aj.mk _ rfl ?_)
 iterate 7 refine And.intro (aP rfl) ?_
 refine aj.mk _ rfl ?_;refine DC (w:=[]) c (fun _=>rfl) rfl rfl rfl (by kernel_rfl) fun d w h c=>?_;refine DC c h rfl rfl rfl (by kernel_rfl) fun d w h c=>?_;refine DC c h rfl rfl rfl (by kernel_rfl) fun d w h c=>?_;refine jI (aj.mk _ rfl ?_);exact hq _
noncomputable def ib (b:Bool):List UInt8:=bif b then [91,91,93]else [60,60,47,66,60,60,62,62,47,65,32]
noncomputable def cb (b:Bool):List UInt8:=bif b then [93]else [62,62]
noncomputable def pb (b:Bool):Nat:=bif b then 1 else 4
noncomputable def fR (a:List Bool):List UInt8:=a.rec [] fun b _ c=>ib b++c
noncomputable def out (a:List Bool):List UInt8:=a.rec [] fun b _ c=>c++cb b
noncomputable def m7 (e:List Bool):O:=e.rec (.int 7) fun b _ d=>bif b then .arr (zJ [.arr .nil,d])else .dict (uQ [([66],.dict .nil),([65],d)])
noncomputable def KP (b:Bool):Fr:=bif b then .arr [.arr .nil]else .dct [([66],.dict .nil)] (some [65])
theorem BH (a:List Bool):(m7 a).nn=true:=by cases a with|nil=>rfl|cons b a=>cases b<;>rfl
theorem CW (b:Bool)(q:dY d=false)(v:d.length+1<40)(hz:aG false z=z):∀N,run (N+6) d (ib b++z)=run (N+bif b then 3 else 1) (KP b::d) z:=by
 intro N;have r:decide (d.length=40)=false:=cO (by lia);have s:decide (d.length+1=40)=false:=cO (by exact eo (by assumption));have g:∀(d:List Fr) (a:Bool) (x m:Nat) (y:List UInt8),decide (d.length=40)=false->bX d a m y= .ok (.inr (Fr.new a::d,y)):=fun d a x m y h=>by unfold bX;rw[h];rfl
 cases b with
 |true=>
  have n:bG d (.sign [91]) (91::91::93::z).length (91::93::z)= .ok (.inr (.arr []::d,91::93::z)):=by unfold bG;rw[q];exact g d true 0 _ _ r
  have o:bG (.arr []::d) (.sign [91]) (91::93::z).length (93::z)= .ok (.inr (.arr []:: .arr []::d,93::z)):=g (.arr []::d) true 0 _ _ s;have p:bG (.arr []:: .arr []::d) (.sign [93]) (93::z).length z= .ok (.inr (.arr [.arr .nil]::d,z)):=rfl;show fg (run (N+5)) d (.sign [91]) (91::91::93::z).length (91::93::z)=_;rw[gO n];show fg (run (N+4)) (.arr []::d) (.sign [91]) (91::93::z).length (93::z)=_;rw[gO o];show fg (run (N+3)) (.arr []:: .arr []::d) (.sign [93]) (93::z).length z=_;rw[gO p,hz];rfl|false=>
  have n:∀m y,bG d (.sign [60,60]) m y= .ok (.inr (.dct [] none::d,y)):=fun m y=>by
   unfold bG;rw[q];exact g d false 0 _ _ r
  have p:∀m y,bG (.dct [] (some [66])::d) (.sign [60,60]) m y= .ok (.inr (.dct [] none:: .dct [] (some [66])::d,y)):=fun m y=>g (.dct [] (some [66])::d) false 0 _ _ s;have o:∀m y,bG (.dct [] none::d) (.name [66]) m y= .ok (.inr (.dct [] (some [66])::d,y)):=fun _ _=>rfl;have t:∀m y,bG (.dct [] none:: .dct [] (some [66])::d) (.sign [62,62]) m y= .ok (.inr (.dct [([66],.dict .nil)] none::d,y)):=fun _ _=>rfl;have u:∀m y,bG (.dct [([66],.dict .nil)] none::d) (.name [65]) m y= .ok (.inr (.dct [([66],.dict .nil)] (some [65])::d,y)):=fun _ _=>rfl;show fg (run (N+5)) d (.sign [60,60]) (60::60::47::66::60::60::62::62::47::65::32::z).length (47::66::60::60::62::62::47::65::32::z)=_;rw[gO (n _ _)];show fg (run (N+4)) (.dct [] none::d) (.name [66]) (47::66::60::60::62::62::47::65::32::z).length (60::60::62::62::47::65::32::z)=_;rw[gO (o _ _)];show fg (run (N+3)) (.dct [] (some [66])::d) (.sign [60,60]) (60::60::62::62::47::65::32::z).length (62::62::47::65::32::z)=_;rw[gO (p _ _)];show fg (run (N+2)) (.dct [] none:: .dct [] (some [66])::d) (.sign [62,62]) (62::62::47::65::32::z).length (47::65::32::z)=_;rw[gO (t _ _)];show fg (run (N+1)) (.dct [([66],.dict .nil)] none::d) (.name [65]) (47::65::32::z).length (32::z)=_;rw[gO (u _ _)];show run (N+1) _ (aG false z)=_;rw[hz];rfl
def NR (z:List UInt8):Prop:=aG false z=z/\z.takeWhile rg=[]/\z.dropWhile rg=z
theorem NR.cb (b:Bool)(z:List UInt8):NR (cb b++z):=by cases b<;>exact⟨rfl,rfl,rfl⟩
theorem NR.nil:NR []:=⟨rfl,rfl,rfl⟩
theorem r7 (a:List Bool)(z:List UInt8):aG false (fR a++55::z)=fR a++55::z:=by cases a with|nil=>rfl|cons b a=>cases b<;>rfl
def KI (b:List Fr)(o:O)(y:List UInt8)(x:Except Nat (O×List UInt8)):Prop:=match b with| []=>x= .ok (o,y)|f::b=>∃N,y.length<N/\x=run N (f.put o::b) y
theorem MK(d:dY b=false)(c:NR y)(N:Nat)(h:y.length<N):KI b (.int 7) y (run (N+1) b (55::y)):=by
 have e:dW (55::y)= .ok (.int 7,y):=by
  show Except.ok (ma (55::y.takeWhile rg),y.dropWhile rg)=_;rw[c.2.1,c.2.2];rfl
 have p:pv (.int 7) y=some (.int 7,y):=by
  show(match ir 7 y with|none=>some (O.int 7,y)|some (g,i)=>some (.ref 7 g,i))=_;rw[xY,c.1,c.2.1];rfl
 have s:bG b (.int 7) (55::y).length y=jm b (.int 7) y:=by
  unfold bG;rw[d];show bI b (.int 7) _ y=_;unfold bI;rw[p]
 show KI b (.int 7) y (tO (dW (55::y)) fun t r=>fg (run N) b t (55::y).length r);rw[e];show KI b (.int 7) y (fg (run N) b (.int 7) (55::y).length y);unfold fg;rw[s];cases b with|nil=>rfl|cons f b=>exact⟨N,h,congrArg (run N _) c.1⟩
theorem JX (b:Bool)(i:NR y)(N:Nat)(j:y.length<N):KI g (m7 (b::e)) y (run (N+1) ((KP b).put (m7 e)::g) (cb b++y)):=by
 have h:∀{t m},bG ((KP b).put (m7 e)::g) t m y=jm g (m7 (b::e)) y->KI g (m7 (b::e)) y (fg (run N) ((KP b).put (m7 e)::g) t m y):=fun s=>by
  unfold fg;rw[s];cases g with
  |nil=>rfl|cons f g=>exact⟨N,j,congrArg (run N _) i.1⟩
 cases b with|true=>exact h (t:=.sign [93]) (m:=(93::y).length) rfl|false=>
  refine h (t:=.sign [62,62]) (m:=(62::62::y).length) ?_;show jm g (.dict (uQ (nY [([66],.dict .nil),([65],m7 e)]))) y=_;have:nY [([66],.dict .nil),([65],m7 e)]=[([66],.dict .nil),([65],m7 e)]:=by
   show List.filter (fun p=>p.2.nn) [([66],O.dict .nil),([65],m7 e)]=_;rw[Al rfl,Al (p:=fun p:List Nat×O=>p.2.nn) (a:=([65],m7 e)) (BH e)];rfl
  rw[this];rfl
theorem tx:∀(f:List Bool) (i:List Fr) (N:Nat) (y:List UInt8),dY i=false->i.length+f.length<40->NR y->(fR f++55::(out f++y)).length<N->KI i (m7 f) y (run N i (fR f++55::(out f++y)))
 | [],i,N,y,m,hl,n,l=>by
  have l:y.length+1<N:=l;obtain⟨N,rfl⟩:∃k,N=k+1:=⟨N-1,by lia⟩;exact MK m n N (by exact pH (by assumption))|b::f,i,N,y,m,hl,n,l=>by
  have hl:i.length+(f.length+1)<40:=hl;have e:fR (b::f)++55::(out (b::f)++y)=ib b++(fR f++55::(out f++(cb b++y))):=by
   show(ib b++fR f)++55::((out f++cb b)++y)=_;rw[dU,dU]
  rw[e]at l ⊢;rw[aK]at l;have s:3<= (ib b).length/\(ib b).length<=11:=by cases b<;>exact⟨by decide,by decide⟩
  have t:3<= (fR f++55::(out f++(cb b++y))).length\/(b=true/\2<= (fR f++55::(out f++(cb b++y))).length):=by
   rw[aK,fj,aK,aK];cases b with|true=>exact .inr ⟨rfl,by show 2<=_+(_+(1+_)+1);lia⟩|false=>exact .inl (by show 3<=_+(_+(2+_)+1);lia)
  obtain⟨N,rfl⟩:∃k,N=k+6:=⟨N-6,by lia⟩;rw[CW b m (by lia) (r7 f _)];have p:=tx f (KP b::i) (N+bif b then 3 else 1) (cb b++y) (by cases b<;>rfl) (by show i.length+1+_<40;rw[lb];assumption) (NR.cb b y) (by
   cases b with|true=>have:3+_<N+6:=l;show _<N+3;lia|false=>have:11+_<N+6:=l;show _<N+1;lia);obtain⟨k,q,r⟩:=p;rw[r];rw[aK]at q;have:1<= (cb b).length:=by cases b<;>decide
  obtain⟨k,rfl⟩:∃o,k=o+1:=⟨k-1,by lia⟩;exact JX b n k (by lia)
noncomputable def FG (j:Nat):List Bool->Nat:=j.rec (fun a=>a.casesOn 0 fun b _=>pb b) fun _ c a=>a.casesOn 0 fun b a=>(ib b).length+c a
theorem rE (b:Bool)(c:List Bool)(z:List UInt8):(fR (b::c)++55::z).length=(ib b).length+(fR c++55::z).length:=by show((ib b++fR c)++55::z).length=_;rw[dU,aK]
theorem zt (b:Bool)(n:dY e=false)(p:e.length=39)(N:Nat):run (N+3) e (ib b++z)= .error ((ib b++z).length-pb b):=by
 have q:decide (e.length=40)=false:=cO (by lia);have r:decide (e.length+1=40)=true:=dD (by lia);have g:∀(a:Bool) (m:Nat) (y:List UInt8),bX e a m y= .ok (.inr (Fr.new a::e,y)):=fun a m y=>by unfold bX;rw[q];rfl
 have o:∀(f:Fr) (a:Bool) (m:Nat) (y:List UInt8),bX (f::e) a m y= .error m:=fun f a m y=>by
  show(bif decide (e.length+1=40)then _ else _)=_;rw[r];rfl
 cases b with
 |true=>
  have k:bG e (.sign [91]) (91::91::93::z).length (91::93::z)= .ok (.inr (.arr []::e,91::93::z)):=by unfold bG;rw[n];exact g true _ _
  have l:bG (.arr []::e) (.sign [91]) (91::93::z).length (93::z)= .error (91::93::z).length:=o _ true _ _;show fg (run (N+2)) e (.sign [91]) (91::91::93::z).length (91::93::z)=_;rw[gO k];show fg (run (N+1)) (.arr []::e) (.sign [91]) (91::93::z).length (93::z)=_;rw[qg l];rfl|false=>
  have k:∀m y,bG e (.sign [60,60]) m y= .ok (.inr (.dct [] none::e,y)):=fun m y=>by unfold bG;rw[n];exact g false _ _
  have l:∀m y,bG (.dct [] none::e) (.name [66]) m y= .ok (.inr (.dct [] (some [66])::e,y)):=fun _ _=>rfl;have t:∀m y,bG (.dct [] (some [66])::e) (.sign [60,60]) m y= .error m:=fun m y=>o _ false m y;show fg (run (N+2)) e (.sign [60,60]) (60::60::47::66::60::60::62::62::47::65::32::z).length (47::66::60::60::62::62::47::65::32::z)=_;rw[gO (k _ _)];show fg (run (N+1)) (.dct [] none::e) (.name [66]) (47::66::60::60::62::62::47::65::32::z).length (60::60::62::62::47::65::32::z)=_;rw[gO (l _ _)];show fg (run N) (.dct [] (some [66])::e) (.sign [60,60]) (60::60::62::62::47::65::32::z).length (62::62::47::65::32::z)=_;rw[qg (t _ _)];rfl
theorem tt:∀(j:Nat) (d:List Bool) (l:List Fr) (N:Nat) (z:List UInt8),dY l=false->l.length+j=39->j<d.length->(fR d++55::z).length<N->run N l (fR d++55::z)= .error ((fR d++55::z).length-FG j d)
 |j,[],l,N,z,p,r,hl,n=>absurd hl (Nat.not_lt_zero _)|0,b::d,l,N,z,p,r,hl,n=>by
  have s:3<= (ib b).length:=by cases b<;>decide
  rw[rE]at n;have t:1<= (fR d++55::z).length:=by rw[aK,fj];exact jv _
  obtain⟨N,rfl⟩:∃q,N=q+3:=⟨N-3,by lia⟩;have e:fR (b::d)++55::z=ib b++(fR d++55::z):=dU ..;rw[e,zt b p (by omega)];rfl|j+1,b::d,l,N,z,p,r,hl,n=>by
  have s:3<= (ib b).length:=by cases b<;>decide
  have hl:j+1<d.length+1:=hl;rw[rE]at n;have t:3<= (fR d++55::z).length:=by cases d with|nil=>exact absurd hl (by rw[fm];lia)|cons c cs=>
    rw[rE];have:3<= (ib c).length:=by cases c<;>decide
    exact bR (by assumption) (dn ..)
  obtain⟨N,rfl⟩:∃q,N=q+6:=⟨N-6,by lia⟩;have e:fR (b::d)++55::z=ib b++(fR d++55::z):=dU ..;rw[e,CW b p (by lia) (r7 d z),tt j d (KP b::l) _ z (by cases b<;>rfl) (by show l.length+1+j=39;rw[lb];assumption) (by exact pH (by assumption)) (by
   cases b with|true=>have:3+_<N+6:=n;show _<N+3;lia|false=>have:11+_<N+6:=n;show _<N+1;lia)];show _=Except.error ((ib b++(fR d++55::z)).length-((ib b).length+FG j d));rw[aK (as:=ib b),Nat.add_sub_add_left]
theorem Dc:∀(j:Nat) (c:List Bool),FG j c<= (fR c).length
 |0,[]=>cc _|_+1,[]=>cc _|0,b::c=>by
  show pb b<= (ib b++fR c).length;rw[aK];have:pb b<= (ib b).length:=by cases b<;>decide
  exact bR (by assumption) (dn ..)|j+1,b::c=>by
  show(ib b).length+FG j c<= (ib b++fR c).length;rw[aK];exact pc (Dc j c) _
noncomputable def xT (n:Nat)(a:List Bool):List V:=a.rec (fun _=>[]) (fun b _ c n=>.int (n+pb b:Nat)::c (n+(ib b).length)) n
theorem Dr:∀(j n:Nat) (e:List Bool),j<e.length->(xT n e)[j]?=some (.int (n+FG j e:Nat))
 |_,_,[],h=>absurd h (Nat.not_lt_zero _)|0,n,b::e,_=>rfl|j+1,n,b::e,h=>by
  refine(Dr j (n+(ib b).length) e (Nat.lt_of_succ_lt_succ h)).trans ?_;rw[pf];rfl
theorem xU:∀(n:Nat) (d:List Bool) (b:Bool),xT n (d++[b])=xT n d++[.int (n+(fR d).length+pb b:Nat)]/\fR (d++[b])=fR d++ib b/\out (d++[b])=cb b++out d/\(xT n d).length=d.length
 |n,[],b=>⟨rfl,cF _,(cF _).symm,rfl⟩|n,a::d,b=>by
  have f:=xU (n+(ib a).length) d b;refine⟨?_,?_,?_,congrArg (· +1) f.2.2.2⟩
  ·show V.int _::xT (n+(ib a).length) (d++[b])=V.int _::(xT (n+(ib a).length) d++[.int (n+(ib a++fR d).length+pb b:Nat)]);rw[f.1,aK,pf n]
  ·show ib a++fR (d++[b])=(ib a++fR d)++ib b;rw[f.2.1,dU]
  ·show out (d++[b])++cb a=cb b++(out d++cb a);rw[f.2.2.1,dU]
theorem rh:∀a:List Bool,fq (m7 a) (a.length+1) false| []=>rfl|true::a=>⟨rfl,_,rfl,⟨rfl,⟨rfl,_,rfl,rfl,(by decide:0<900000)⟩,rfl,rh a,rfl⟩,(by decide:2<900000)⟩|false::a=>⟨rfl,_,rfl,⟨rfl,⟨rfl,_,rfl,rfl,(by decide:0<64),sE,trivial⟩,rfl,rh a,rfl⟩,(by decide:2<64),(by decide:([[66],[65]]:List (List Nat)).Nodup),rfl,BH a,trivial⟩
theorem IY (c:List Bool):sz (m7 c)=2*c.length+1:=by induction c with
 |nil=>rfl|cons b c d=>
  have e:sz (m7 (b::c))=(1+(sz (m7 c)+0))+1:=by cases b<;>rfl
  rw[e,d,fj];lia
theorem BG:∀(b:Bool) (i:List Bool) (a:Nat),dp (m7 (b::i)) a=a+i.length+2
 |b,[],a=>by
  have e:dp (m7 [b]) a=max (max (max 0 (a+1+1)) (max 0 0)) (a+1):=by cases b<;>rfl
  rw[e,Nat.zero_max,Nat.max_zero,Nat.max_eq_left (jw _),Nat.max_eq_left (eO _)];rfl|b,c::i,a=>by
  have e:dp (m7 (b::c::i)) a=max (max (max 0 (a+1+1)) (max (dp (m7 (c::i)) (a+1)) 0)) (a+1):=by cases b<;>rfl
  rw[e,BG c i (a+1),Nat.zero_max,Nat.max_zero,Nat.max_eq_right (Nat.add_le_add_right (dn ..) 2|>bR (eO _)),Nat.max_eq_left (bR (dn ..) (dn ..)),lb a 1];rfl
noncomputable def m6 (a:List Bool):List UInt8:=fR a++[55]++out a
theorem i3 (b:List Bool):m6 b=fR b++55::(out b++[]):=by show(fR b++[55])++out b=_;rw[dU,cF];rfl
theorem E4 (b:List Bool)(h:b.length<40):dO (m6 b)= .ok (m7 b):=by have r:=tx b [] ((m6 b).length+2) [] rfl (by rw[fm,iF];exact h) NR.nil (by rw[<- i3];exact eO _);unfold dO;rw[i3,r7,<- i3];rw[<- i3]at r;rw[show run _ [] (m6 b)= .ok (m7 b,[])from r];rfl
theorem E3 (a:List Bool)(h:39<a.length):dO (m6 a)= .error ((m6 a).length-FG 39 a):=by have r:=tt 39 a [] ((m6 a).length+2) (out a++[]) rfl rfl h (by rw[<- i3];exact eO _);unfold dO;rw[i3,r7,<- i3];rw[<- i3]at r;rw[r]
theorem to (f:List Bool)(h:f.length<50):ky (m6 f)/\(fR f).length<=f.length*11/\(out f).length<=f.length*2:=by
 have r:∀f:List Bool,eZ (fR f)=true/\eZ (out f)=true/\(fR f).length<=f.length*11/\(out f).length<=f.length*2:=by
  have p:∀{a b:List UInt8},eZ a=true->eZ b=true->eZ (a++b)=true:=fun {a b} x y=>by
   unfold eZ at*;rw[List.all_append,x,y];rfl
  intro f;induction f with
  |nil=>exact⟨rfl,rfl,cc _,cc _⟩|cons b f q=>
   refine⟨p (by cases b<;>rfl) q.1,p q.2.1 (by cases b<;>rfl),?_,?_⟩
   ·show(ib b++fR f).length<= (f.length+1)*11;rw[aK];have:(ib b).length<=11:=by cases b<;>decide
    rw[Nat.succ_mul,k8];exact Nat.add_le_add q.2.2.1 this
   ·show(out f++cb b).length<= (f.length+1)*2;rw[aK];have:(cb b).length<=2:=by cases b<;>decide
    rw[Nat.succ_mul];exact Nat.add_le_add q.2.2.2 this
 have k:=r f;have l:(m6 f).length=(fR f).length+1+(out f).length:=by unfold m6;rw[aK,aK];rfl
 have m:∀c∈m6 f,c.toNat≠92/\c.toNat≠35:=fun c m=>(zG m).elim (fun m=>(zG m).elim (eL k.1 c) (eL (show eZ [55]=true from rfl) c)) (eL k.2.1 c);exact⟨⟨fun c h=>(m c h).1,fun c h=>(m c h).2,by lia,by lia⟩,k.2.2⟩
noncomputable abbrev HO (P L b h:Nat)(d:List Bool)(e:List (Nat×V)):MF:=⟨(7234928,.loc P)::(2037277037,.int b)::(1635017060,.bytes (fR d))::(29113321788501091,.bytes (out d))::(126879296220272,.loc L)::e,[(2203193130746207234167,h)]⟩
def De (b:List (Nat×V)):Prop:=∃a,(∀v,az 6845550 v b=(6845550,v)::a)/\∀v,az 8746397786915697513 v a=[(8746397786915697513,v)]
theorem I0{C9:V}{K:Ks}(b:Bool)(s:e.length<50)(g:j[L]?=some (.list (xT 0 e)))(hq:K (.ok .next) (HO P L l h (e++[b]) [(6845550,C9),(8746397786915697513,.bool b)]) (j.set L (.list (xT 0 (e++[b]))))):pSs k (cz.drop 1) (HO P L l h e [(6845550,C9),(8746397786915697513,.bool b)]) j K:=by
 have f:=to e s;have o:=xU 0 e b;rw[iF]at o;have p:=fx (.int ((fR e).length+pb b:Nat)) g (by rw[o.2.2.2];exact k9 (by assumption) (aP rfl));rw[<- o.1]at p;have w:(ib b).length<=11/\(cb b).length<=2:=by cases b<;>decide
 have q:=jP (ms:=j.set L (.list (xT 0 (e++[b])))) (fR e) (ib b) (by rw[aK];lia);have b2:=jP (ms:=j.set L (.list (xT 0 (e++[b])))) (cb b) (out e) (by rw[aK];lia);rw[<- o.2.1]at q;rw[<- o.2.2.1]at b2;refine aj.mk _ (fK g) ?_;refine aj.mk _ rfl ?_;refine aj.mk _ rfl ?_;cases b with
 |true=>
  refine a9.pos rfl ?_;refine aj.mk _ rfl ?_;refine aj.mk _ p ?_;refine aj.mk _ rfl ?_;refine a9.pos rfl ?_;refine aj.mk _ q ?_;refine aj.mk _ rfl ?_;refine a9.pos rfl ?_;exact aj.mk _ b2 hq|false=>
  refine a9.neg rfl ?_;refine aj.mk _ rfl ?_;refine aj.mk _ p ?_;refine aj.mk _ rfl ?_;refine a9.neg rfl ?_;refine aj.mk _ q ?_;refine aj.mk _ rfl ?_;refine a9.neg rfl ?_;exact aj.mk _ b2 hq
theorem BM(A:L≠P):∀(n:Nat) (x:Int) (p:MS) (d:List Bool) (r:List (Nat×V)),De r->d.length+n<50->gv P p->p[L]?=some (.list (xT 0 d))->(∀j m r,m.length=d.length+n->Kp (o0 P L) p j->gv P j->j[L]?=some (.list (xT 0 m))->De r->Q .next (HO P L g h m r) j)->mP (k+1) eI cz (.rng x n 1) (HO P L g h d r) p Q
 |0,x,p,d,r,N,R,B,C,hq=>jI (aj.mk _ rfl (hq p d r rfl (Kp.refl _ _) B C N))|n+1,x,p,d,r,⟨H,U,X⟩,R,B,C,hq=>by
  refine ry (n:=6845550) (f:=fun v=>HO P L g h d ((6845550,v)::H)) (fun v=>congrArg (fun q=>MF.mk ((7234928,V.loc P)::(2037277037,V.int g)::(1635017060,V.bytes (fR d))::(29113321788501091,V.bytes (out d))::(126879296220272,V.loc L)::q) [(2203193130746207234167,h)]) (U v)) ?_;refine aj.mk _ rfl ?_;refine g9 (k:=k) (many:=2) B (by decide) (by decide) fun u w hw I Z=>?_;refine aj.mk _ rfl ?_;show pSs (k+1) _ ⟨_::_::_::_::_::_::az 8746397786915697513 (.bool (decide ((w:Int)=0))) H,_⟩ u _;rw[X];have K:=I.at C A;refine I0 (decide ((w:Int)=0)) (by exact cN (dn ..) (by assumption)) K ?_;have kk:Kp (o0 P L) p (u.set L (.list (xT 0 (d++[decide ((w:Int)=0)])))):=(I.mono fun i _ e=>.inl e).tr (Kp.set _ _ (.inr rfl));refine BM A n _ _ (d++[decide ((w:Int)=0)]) _ ⟨_,fun _=>rfl,fun _=>rfl⟩ (by rw[aK];show d.length+1+n<50;rw[lb];assumption) (Z.mono (Kp.set (P:=(· =L)) _ _ rfl) (fun e=>A e.symm)) (aq _ K) fun j m F el k' p' g' G=>hq j m F (by rw[el,aK];show d.length+1+n=_;exact lb ..) (kk.tr k') p' g' G
theorem CU (n:Nat)(v:V)(l:List (Nat×V)):(az n v l).lookup n=some v:=(jg n v n l).trans (au rfl)
theorem BL{Q:Kv}(l1:38<=d.length)(l2:d.length<50)(hL:o[L]?=some (.list (xT 0 d)))(n:h≠L)(hc:o[h]?=some (.cell none))(hq:∀p,Kp (· =h) o p->Q (.ok (.bool true)) p):pSs (k+20) (bz.body.drop 3) (HO P L d.length h d vs) o fun r mf o=>Q (bF r) o:=by
 have f:=to d l2;have b1:=jP (ms:=o) (fR d) [55] (by rw[aK];show _+1<=_;lia);have b2:=jP (ms:=o) (fR d++[55]) (out d) (by rw[aK,aK];show _+1+_<=_;lia);have hc2:=aq (.cell (some (.bytes (m6 d)))) hc;have k2:Kp (· =h) o (o.set h (.cell (some (.bytes (m6 d))))):=Kp.set _ _ rfl;have L8:=k2.at hL (ci n);refine aj.mk _ b1 ?_;refine aj.mk _ b2 ?_;refine aj.mk _ (jG _ (mf:=HO P L d.length h d vs) rfl hc) ?_;have fin:∀v:V,Vq 40 v->(∀(R:Kv),(∀x p,dO (m6 d)=x->Kp (fun _=>False) (o.set h (.cell (some (.bytes (m6 d))))) p->R (.ok v) p)->Call (k+20) 79 0 [.lam (.call (.val (.fn 53)) [.call (.val (.fn 65)) [.cell 2203193130746207234167]]) [(2203193130746207234167,h)]] (o.set h (.cell (some (.bytes (m6 d))))) R)->pSs (k+20) (bz.body.drop 5) (HO P L d.length h d (az 6649188 v vs)) (o.set h (.cell (some (.bytes (m6 d))))) fun r mf o=>Q (bF r) o:=fun v hv hR=>by
  refine And.intro rfl ?_;refine(?_:Call (k+20) 79 0 [.lam _ [(2203193130746207234167,h)]] _ _);refine hR _ fun x p _ k'=>?_;refine bY (CU 6649188 v vs) ?_;refine aj.mk _ (E7 hv p) ?_;exact hq p (k2.tr (k'.mono fun i _ h=>False.elim h))
 refine aj.mk _ rfl ?_;by_cases q:d.length<40
 ·refine a9.pos (dD (Int.ofNat_lt.mpr q)) ?_;refine aj.mk _ rfl ?_;refine And.intro (aP rfl) ?_;refine fin (As (.int (d.length+1))) (ym (n:=38) (iC 38 _)) fun R hR=>?_;refine ij (v9 ?_);refine aj.mk _ (aD (mf:=⟨[],[(2203193130746207234167,h)]⟩) rfl hc2) ?_;refine(?_:Call (k+18) 65 0 [.bytes (m6 d)] _ _);refine dP (k:=k+10) f.1 fun x ex=>?_;cases (E4 d q).symm.trans ex;intro ms1 v ka hs;have ed:dp (m7 d) 0=d.length+1:=by cases d with|nil=>exact absurd l1 (by decide)|cons b d=>rw[BG,iF];rfl
  refine vB (k:=k+15) (M:=fun i=>i< (o.set h (.cell (some (.bytes (m6 d))))).length) (fun i hi=>k9 hi ka.len) (rh d) hs (by rw[IY];lia) fun ms2 kb=>?_
  rw[ed]
  exact hR _ ms2 ex (ka.tr kb)
 ·have g:=Dr 39 0 d (by lia)
  rw[iF]at g
  refine a9.neg (cO fun e=>q (Int.ofNat_lt.mp e)) ?_
  refine aj.mk _ (pz L8 g) ?_
  refine And.intro (aP rfl) ?_
  refine fin (rv (FG 39 d:Nat)) (o6 38 _) fun R hR=>?_
  refine ij (v9 ?_)
  refine aj.mk _ (aD (mf:=⟨[],[(2203193130746207234167,h)]⟩) rfl hc2) ?_
  refine(?_:Call (k+18) 65 0 [.bytes (m6 d)] _ _)
  refine dP (k:=k+10) f.1 fun x ex=>?_
  cases (E3 d (by lia)).symm.trans ex
  intro ms1 ka
  have e:((m6 d).length:Int)-(((m6 d).length-FG 39 d:Nat):Int)=(FG 39 d:Nat):=by
   have:=Dc 39 d
   have:(fR d).length<= (m6 d).length:=by unfold m6;rw[aK,aK];lia
   lia
  rw[e]
  exact hR _ ms1 ex ka
theorem I1 (y:gv P l)(hq:∀o,gv P o->Q (.ok (.bool true)) o):Call (k+21) 82 0 [.loc P] l Q:=by
 have hP:=y.lt;refine gC (fn:=bz) rfl rfl ?_;refine(?_:pSs (k+20) bz.body ⟨[(7234928,.loc P)],[(2203193130746207234167,l.length)]⟩ (l++[.cell none]) _);refine g9 (k:=k+19) (many:=6) (y.mono (Kp.app (fun _=>False) l _) id) (by decide) (by decide) fun i d hd C D=>?_;have t:=C.at (ag l (.cell none) []) (fP hP);have u:=C.len;rw[aK]at u;have u:l.length+1<=i.length:=u;refine aj.mk _ rfl ?_;refine And.intro (aP rfl) ?_;refine And.intro (aP rfl) ?_;refine And.intro rfl ?_;have F:(38:Int)+d=(38+d:Nat):=by rfl
 refine aj.mk (.rng 0 (38+d:Nat) 1,_) (by show some (V.rng 0 (38+(d:Int)) 1,_)=_;rw[F]) ?_;refine aj.mk _ (xz _ (n:=38+d) (by lia)) ?_;show mP (k+20) _ _ _ ⟨_::(2037277037,.int (38+(d:Int)))::_,_⟩ _ _;rw[F];refine BM (k:=k+19) (h:=l.length) (L:=i.length) (fP D.lt) (38+d) 0 _ [] [] ⟨_,fun _=>rfl,fun _=>rfl⟩ (by rw[fm];lia) (D.mono (Kp.app (fun _=>False) i [.list []]) id) (ag i _ []) fun J Y Z G K M N de=>?_;rw[fm,iF]at G;rw[<- G];have w:=K.at (ai [.list []] t) (fun z=>z.elim (fun e=>by lia) fun e=>by lia);refine BL (by lia) (by lia) N (by exact eo (by assumption)) w fun x R=>hq x (M.mono R (by exact eo (by assumption)))
theorem Mk(hq:∀e,Q (.ok (.bool true)) e):Call (k+101) 84 0 [.xl us] ms Q:=by refine gC (fn:=xi) rfl rfl ?_;refine(?_:pSs (k+100) xi.body ⟨[(128026154263411,.xl us)],[(1635017060,ms.length)]⟩ (ms++[.cell none]) _);refine MC (k:=k+99) fun d P m o f=>?_;rw[aK]at f;have f:ms.length+1<=P:=f;refine aj.mk _ rfl ?_;refine aj.mk _ (xz d (n:=4) (by decide)) ?_;refine yj (k:=k) (S:=.xl us) (P:=P) (h:=ms.length) (by exact eo (by assumption)) (fun p t q=>?_) 4 0 d [] none LT.n0 o (m.at (ag ms (.cell none) []) id);refine I1 (k:=k+79) q fun g u=>?_;refine aj.mk _ rfl ?_;refine a9.pos rfl ?_;refine(?_:Call (k+100) 83 0 [] g _);exact JQ (k:=k+79) fun i=>hq i
noncomputable def hTb:List Nat:=[705,698,684,712]
noncomputable def KQ:Obj:=⟨.none,none,.freed,#[]⟩
noncomputable def Ar (h:Heap):Heap:=(((h.update 705 fun _=>KQ).update 698 fun _=>KQ).update 684 fun _=>KQ).update 712 fun _=>KQ
theorem kZ (h:Heap)(a:Addr):(h.update a fun _=>KQ).get? a=none:=by cases e:(h.update a fun _=>KQ).get? a with
 |none=>rfl|some o=>
  obtain⟨b,c⟩:=Heap.get?_some_iff.mp e;cases h;simp only[Heap.update,Array.getElem?_modify,if_true]at b;obtain⟨z,_,rfl⟩:=Option.map_eq_some_iff.mp b;exact nomatch c
theorem jz (h:Heap)(b:Addr):(Ar h).get? b=if b∈hTb then none else h.get? b:=by
 unfold Ar hTb;by_cases a:b=712
 ·rw[a,kZ];rfl
 ·rw[km _ _ (ci a)];by_cases c:b=684
  ·rw[c,kZ];rfl
  ·rw[km _ _ (ci c)];by_cases d:b=698
   ·rw[d,kZ];rfl
   ·rw[km _ _ (ci d)];by_cases e:b=705
    ·rw[e,kZ];rfl
    ·rw[km _ _ (ci e),aH];simp[a,c,d,e]
theorem nW(e:(Ar h).get? b=some o):h.get? b=some o/\b ∉ hTb:=by
 rw[jz]at e
 split at e
 ·exact nomatch e
 ·exact⟨e,by assumption⟩
theorem jA(k:∀b o,h.get? b=some o->a.get? b=some o):∀b o,(Ar h).get? b=some o->(Ar a).get? b=some o:=fun b o e=>by
 obtain⟨c,d⟩:=nW e;rw[jz,aH d];exact k _ _ c
theorem BF (h:Heap):(Ar h).objs.size=h.objs.size:=by unfold Ar;rw[Ek,Ek,Ek,Ek]
noncomputable abbrev nh (P:Params):Heap:=Ar (hH P)
noncomputable def OI:List Obj->Nat->Frag:=fun l=>l.rec (fun _=>[]) fun o _ b n=>if o.isFreed||hTb.contains n then b (n+1)else(n,o)::b (n+1)
noncomputable def hK (P:Params):Frag:=OI (HY P) 0
noncomputable def Cn:Program:=view hP []
noncomputable def L9:List Str:=hP.main.scope.names.map (·.1)
noncomputable abbrev N5 (P:Params):Shared:=⟨nh P,Array.mk [],⟨0,0,0,0⟩,1176,default⟩
theorem Pz (P:Params):seen ((recsOf Cn).map (·.name)) (ownsOf Cn) [] (N5 P)=expectedOf Cn:=by kernel_rfl
theorem PA (P:Params):(nh P).bltView=bltViewBooted:=by kernel_rfl
theorem PB (P:Params):((nh P).keysOk L9 ((recsOf Cn).map (·.name)) ((litsOf Cn).map (·.1)) ((clssOf Cn L9).map (·.name))&&(nh P).isNs builtinsNs&&(nh P).isNs mainGlobals&&tabsOk Cn (N5 P))=true:=by kernel_rfl
theorem PC:chainsOk Cn=true:=by kernel_rfl
theorem HT (P:Params):Top Cn L9 (ExcName.means (nh P)) ((nh P).nsMap mainGlobals) ((nh P).nsMap builtinsNs) (nh P):=
 have z:=zB (PB P);have b:=zB z.1;have a:=zB b.1
 top_of_seenO (s:=N5 P) (Pz P) (PA P) a.1 a.2 z.2 PC
theorem NW (P:Params):((hK P).all fun p=>Nat.blt p.1 718&&(!hTb.contains p.1&&!p.2.isFreed))=true:=by kernel_rfl
theorem NZ (P:Params):((hK P).map (·.1)).map (Nq 12 (HY P)).get=(hK P).map fun p=>some p.2:=by kernel_rfl
theorem NY{K:Frag}{t:BT}(a:(K.all fun p=>Nat.blt p.1 n&&(!hTb.contains p.1&&!p.2.isFreed))=true)(e:(K.map (·.1)).map t.get=K.map fun p=>some p.2):(K.map (·.1)).map (Ar (absHeap t n l)).get?=K.map fun p=>some p.2:=by
 rw[fQ]at e ⊢;refine uL fun p m=>?_;have g:t.get p.1=some p.2:=List.map_inj_left.mp e p m;have q:=zB (zE a p m);have r:=zB q.2;rw[Function.comp_apply];rw[jz,aH fun h=>by rw[List.contains_iff_mem.mpr h]at r;exact sB r.1];refine(abs_get (Nat.blt_eq.mp q.1) g).trans ?_;have z:=r.2
 revert z;obtain⟨c,d,x,s⟩:=p.2;cases x with|freed=>exact fun z=>nomatch z|_=>exact fun _=>rfl
theorem PD (P:Params):((hK P).map (·.1)).map (nh P).get?=(hK P).map fun p=>some p.2:=NY (NW P) (NZ P)
theorem NV (P:Params):(hK P).In (nh P):=Frag.in_of rfl (PD P)
noncomputable def PE:List (Nat×Nat):=[(0,21),(128,30),(144,37),(177,59),(178,66),(179,74),(180,81),(181,88),(182,95),(183,102),(184,109),(185,116),(209,166),(337,205),(368,303),(528,311),(560,326),(608,347),(624,352),(640,359),(656,366),(672,373),(688,380),(721,394),(737,416),(769,458),(784,479),(800,486),(816,491),(832,496),(848,503),(897,517),(898,524),(912,538),(928,545),(944,552),(960,559),(976,564),(992,571),(1008,579),(1024,586),(1040,593),(1056,600),(1088,607),(1104,614),(1120,621),(1136,628),(1152,635),(1168,642),(1184,649),(1200,656),(1216,663),(1232,670),(1248,675),(1264,682),(1280,689),(1296,696),(1312,703),(1328,710),(1344,717),(160,44),(352,296),(544,318),(576,333),(592,340)]
noncomputable def Px:List (Nat×Nat):=[(11,147),(13,176),(14,189),(21,285),(45,397),(46,419),(47,440),(48,468),(56,527)]
noncomputable def ng (i j:Nat):Addr:=(PE.lookup (16*i+j)).getD 0
noncomputable def gB (c:Nat):Addr:=(Px.lookup c).getD 0
noncomputable def EW (i j:Nat):Value:=.ref (ng i j-1)
noncomputable def CQ (i:Nat):Str:=dN i 0++".<locals>." ++"<lambda>"
noncomputable def D8:List (Addr×Str):=[(684,CQ 80),(698,CQ 82),(705,CQ 83),(712,CQ 84)]
structure Is (w:World)(G:Heap)(os:OsState)(C:Cx):Prop where
 prog:C.prog=hP
 wd:C.w=w
 K:C.K=hK w.params
 G:C.G=Ar G
 p:C.p=Cn
 loose:C.loose=L9
 mean:C.mean=ExcName.means (nh w.params)
 mg:C.mg=(nh w.params).nsMap mainGlobals
 mb:C.mb=(nh w.params).nsMap builtinsNs
 os:C.os=os
 fa:C.fa=ng
 ca:C.ca=gB
 cdv:C.cdv=EW
 lam:C.lam=fun e b sc=>bQ sc=true/\∃n,fc aZ n false sc b e
 tq:C.tq=D8
theorem Mh{q:OsState}{K:Frag} (s:d=hP) (t:K=hK w.params) (u:H=Ar G) (v:p=Cn) (x:c=L9) (y:f=ExcName.means (nh w.params)) (z:A=(nh w.params).nsMap mainGlobals) (B:C=(nh w.params).nsMap builtinsNs) (D:o=q) (g:F=ng) (h:I=gB) (i:j=EW) (k:l=fun e b r=>bQ r=true/\∃n,fc aZ n false r b e) (m:J=D8):Is w G q ⟨d,w,K,H,p,c,f,A,C,o,F,I,j,l,J⟩:=⟨s,rfl,t,u,v,x,y,z,B,D,g,h,i,k,m⟩
theorem Mg (w:World)(G:Heap)(a:OsState):∃C,Is w G a C:=⟨_,Mh rfl rfl rfl rfl rfl rfl rfl rfl rfl rfl rfl rfl rfl rfl⟩
noncomputable def NL (k:Nat):Nat->List Nat:=k.rec (fun _=>[]) fun _ a n=>if n=0 then []else n % 256::a (n / 256)
noncomputable def C0 (f:Nat):Str:=⟨⟨NL 64 f⟩⟩
noncomputable def nOk (f:Nat):Bool:=aO (C0 f)&&aL (C0 f)==f
theorem FA(g:aO n=true)(h:nOk (aL n)=true):n=C0 (aL n):=fV g (zB h).1 (bh (zB h).2).symm
noncomputable def H8 (K:Frag)(a:Nat->Addr)(b:Nat->Nat->Addr)(c j:Nat)(n:Str):Bool:=plainGet K (a c) n&&(findIn K (.ref (a c)) n==some (some (.ref (b c j)))&&isFn K (.ref (b c j)))
theorem IP (P:Params):(JF.all fun q=>nOk q.1.2&&H8 (hK P) gB ng q.1.1 q.2 (C0 q.1.2))=true:=by kernel_rfl
noncomputable def N9 (n:Nat):Kd:=match n with|0=>.none|1=>.ty .int|2=>.ty .bool|3=>.ty .list|4=>.ty .dict|5=>.ty .bytes|6=>.ty .range|7=>.ty .tuple|n+8=>.cls n
theorem tN (k:Kd):N9 k.code=k:=by cases k with|none=>rfl|ty t=>cases t<;>rfl|cls c=>rfl
noncomputable def vK (b:Nat->Addr)(k:Kd):Value:=k.casesOn (.type "NoneType") (fun t=>.type t.name) fun c=>.ref (b c)
theorem Lw (P:Params):(Et.all fun a=>Mj.all fun b=>kitOne (hK P) (vK gB (N9 a)) (vK gB (N9 b))==some (a==b||(a==2&&b==1)))=true:=by kernel_rfl
noncomputable def ownB (K:Frag)(a:Nat->Addr)(e:Nat->Nat->Addr)(c:Nat):Bool:=plainGet K (a c) "__class__"&&(hasDictIn K (a c)&&(findIn K (.ref (a c)) "__class__" ==some (some (.builtin "object.__class__"))&&(specialIn K (.builtin "object.__class__") "__get__" ==some (some (.builtin "getset_descriptor.__get__")) &&(takesIn K (.builtin "object.__class__")==some true&&mroIn K (a c) (.type "object")==some true))))
theorem LA (P:Params):(Et.all fun a=>Nat.blt a 8||ownB (hK P) gB ng (a-8))=true:=by kernel_rfl
noncomputable def LY (K:Frag)(a:Nat->Addr)(d:Nat->Nat->Addr)(c:Nat)(n:Str):Bool:=plainGet K (a c) n&&(hasDictIn K (a c)&&(findIn K (.ref (a c)) n).any (noGet K))
theorem Lu (P:Params):(wU.all fun q=>nOk q.2&&LY (hK P) gB ng q.1 (C0 q.2))=true:=by kernel_rfl
noncomputable def MJ (K:Frag)(a:Nat->Addr)(d:Nat->Nat->Addr)(c:Nat)(n:Str):Bool:=findIn K (.ref (a c)) "__setattr__" ==some (some (.builtin "object.__setattr__"))&&(plainOver K (a c)&&(takerIn K (a c) n==some none&&hasDictIn K (a c)))
theorem LB (P:Params):(wU.all fun q=>q.1==14||nOk q.2&&MJ (hK P) gB ng q.1 (C0 q.2))=true:=by kernel_rfl
theorem Lo (P:Params):(findIn (hK P) (.ref (gB 14)) "__getattribute__" ==some (some (.builtin "BaseException.__getattribute__"))&&(findIn (hK P) (.ref (gB 14)) "__getattr__" ==some none&&(mroIn (hK P) (gB 14) (.type "BaseException")==some true&&(hasDictIn (hK P) (gB 14)&&(findIn (hK P) (.ref (gB 14)) sI).any (noGet (hK P))))))=true:=by kernel_rfl
noncomputable def JW (K:Frag)(a:Nat->Addr)(c:Nat->Nat->Addr)(n:Str):Bool:=findIn K (.ref (a 14)) "__setattr__" ==some (some (.builtin "object.__setattr__"))&&(kS K (a 14)&&(takerIn K (a 14) n==some none&&hasDictIn K (a 14)))
theorem IR (P:Params):(JW (hK P) gB ng ch&&JW (hK P) gB ng sI)=true:=by kernel_rfl
theorem IQ (P:Params):((nh P).get? sysModules).isSome=true:=by kernel_rfl
noncomputable def Jp (v:V)(u:Value):Bool:=match v with| .int i=>(match u with| .int j _=>i==j|_=>false)| .bool b=>u== .bool b|_=>false
noncomputable def xy:List V->List Value->Bool| [],a=>a.isEmpty|v::vs,a=>match a with|u::r=>Jp v u&&xy vs r| []=>false
theorem xx(h:Jp v u=true):VR C s v u:=by cases v with
 |int i=>
  cases u with|int j t=>rw[bh (show(i==j)=true from h)];exact⟨_,rfl⟩|_=>exact KT h
 |bool b=>exact bh h|_=>exact KT h
theorem tL(c:List V):∀b,xy c b=true->VRs C σ c b:=by induction c with
 |nil=>
  intro b h;cases b with
  |nil=>exact rfl|cons u r=>exact nomatch h
 |cons v c d=>
  intro b h;cases b with|nil=>exact nomatch h|cons u r=>exact⟨u,r,rfl,xx (zB h).1,d r (zB h).2⟩
noncomputable def Kl (o:Obj):Option (List Value):=match o.data with| .seq a n=>if(o.cls== .type "tuple"&&o.dict.isNone&&o.slots.isEmpty)=true then some a.toList else none|_=>none
noncomputable def Kk (K:Frag)(u:Value):Option (List Value):=match u with| .ref a=>(K.lookup a).bind Kl|_=>none
theorem Ho(h:Kl o=some a):∃n,o={cls:=.type "tuple",data:=.seq a.toArray n}:=by
 obtain⟨c,d,t,s⟩:=o;cases t with
 |seq i n=>
  have h:(if(c== .type "tuple"&&d.isNone&&s.isEmpty)=true then some i.toList else none)=some a:=h;by_cases q:(c== .type "tuple"&&d.isNone&&s.isEmpty)=true
  ·rw[au q]at h;have e:=zB q;have f:=zB e.1;cases e9 h;rw[bh f.1,Option.isNone_iff_eq_none.mp f.2,Array.isEmpty_iff.mp e.2];exact⟨n,rfl⟩
  ·rw[aH q]at h;cases h|_=>cases h
theorem Hn{K:Frag}(h:Kk K u=some b):∃a n,u= .ref a/\K.lookup a=some {cls:=.type "tuple",data:=.seq b.toArray n}:=by cases u with
 |ref a=>
  have h:(K.lookup a).bind Kl=some b:=h;cases z:K.lookup a with
  |none=>rw[z]at h;cases h|some o=>rw[z]at h;exact(Ho h).elim fun n e=>⟨a,n,rfl,z.trans (congrArg some e)⟩
 |_=>cases h
noncomputable def Kt (K:Frag)(d:Nat->Addr)(e:Nat->Nat->Addr)(v:V)(u:Value):Bool:=match v with| .int i=>Jp (.int i) u| .tup g=>(Kk K u).any fun c=>xy g c&&Nat.ble c.length 1000000| .fn i=>u== .ref (e i 0)| .cls i=>u== .ref (d i)| .ty t=>u== .type t.name| .bi b=>u== .builtin b.name|_=>false
noncomputable def N1 (K:Frag)(a:Nat->Addr)(b:Nat->Nat->Addr)(c d:Str->Option Value)(n:Str)(v:V):Bool:=match c n with|some u=>Kt K a b v u|none=>(d n).any (Kt K a b v)
theorem NF (P:Params):(aZ.all fun q=>nOk q.1&&N1 (hK P) gB ng ((nh P).nsMap mainGlobals) ((nh P).nsMap builtinsNs) (C0 q.1) q.2)=true:=by kernel_rfl
theorem EV (P:Params):(Er.all fun q=>keepIn (hK P) (.ref (ng q.1.1 q.1.2)))=true:=by kernel_rfl
noncomputable def makeB (K:Frag)(a:Nat->Addr)(b:Nat->Nat->Addr)(c:Nat):Bool:=makesIn K (a c)&&(findIn K (.ref (a c)) "__init__" ==some (some (.ref (b c 1)))&&(isFn K (.ref (b c 1))&&keepIn K (.ref (a c))))
theorem IO (P:Params):(JF.all fun q=>q.1.2 !=6872339552563453791||makeB (hK P) gB ng q.1.1)=true:=by kernel_rfl
noncomputable def vI (K:Frag)(a:Addr):FuncData:=match K.lookup a with|some ⟨_,_,.func f,_⟩=>f|_=>fnOf (eY 0 0) (eY 0 0) (eK 0 0) [] (ae 0 0) .none .none .none .none none .none .none
noncomputable def KO (K:Frag)(a:Nat->Nat->Addr)(b:Nat->Nat->Value)(i j:Nat):FuncData:=fnOf (eY i j) (dN i j) (eK i j) (am i j) (ae i j) (vI K (a i j)).defaults (vI K (a i j)).kwdefaults (vI K (a i j)).doc (vI K (a i j)).pyModule (vI K (a i j)).annotations (b i j) (vI K (a i j)).closureTuple
theorem NH (P:Params):(Er.map fun q=>(hK P).lookup (ng q.1.1 q.1.2))=Er.map fun q=>some ⟨.type "function",none,.func (KO (hK P) ng EW q.1.1 q.1.2),⟨[]⟩⟩:=by kernel_rfl
noncomputable def NQ (K:Frag)(a:Nat->Nat->Addr)(i j:Nat):List Value:=(Kk K (vI K (a i j)).defaults).getD []
theorem ND (P:Params):(Er.all fun q=>xy q.2.dfl (NQ (hK P) ng q.1.1 q.1.2))=true:=by kernel_rfl
noncomputable def ME (i j d:Nat):Nat:=(dL i j).length-d
theorem NB (P:Params)(g:Nat->Value)(S:Setting):(Er.map fun q=>(List.range (q.2.dfl.length+1)).map fun d=>peek (hK P) S (bindArgs (KO (hK P) ng EW q.1.1 q.1.2) ⟨(List.range (ME q.1.1 q.1.2 d)).map g,[]⟩))=Er.map fun q=>(List.range (q.2.dfl.length+1)).map fun d=>some ((dL q.1.1 q.1.2).zip ((List.range (ME q.1.1 q.1.2 d)).map g++(NQ (hK P) ng q.1.1 q.1.2).drop (q.2.dfl.length-d))):=by kernel_rfl
noncomputable def OU (K:Frag)(f:Nat->Nat->Value)(i j:Nat)(e:Fn):Bool:=codeIn K (f i j) (dN i j)&&(e.params==(dL i j).map aL&&(e.cells==(jy (ae i j)).map aL &&((dL i j).all (fun y=>(ae i j).names.lookup y==some .local||(ae i j).names.lookup y==some .cell)&&(decide (dL i j).Nodup&&((ae i j).names.all (fun q=>aO q.1)&&(decide ((ae i j).names.map (·.1)).Nodup &&((ae i j).kind== .function&&(!(ae i j).isCoroutine&&!(ae i j).isGenerator))))))))
theorem NE (P:Params):(Er.all fun q=>OU (hK P) EW q.1.1 q.1.2 q.2)=true:=by kernel_rfl
theorem NG (P:Params):(codeHdIn (hK P) 688 684&&codeHdIn (hK P) 702 698&&codeHdIn (hK P) 709 705&&codeHdIn (hK P) 716 712)=true:=by kernel_rfl
theorem Lq (P:Params):exmOne (hK P) (.ref (gB Bu)) (.ref (gB Bu))=some true:=by kernel_rfl
theorem LC (P:Params):(nh P).nsMap mainGlobals aU=some (.ref (gB Bu)):=by kernel_rfl
noncomputable def nO (K:Frag)(a:Addr):ClassData:=match K.lookup a with|some ⟨_,_,.cls f,_⟩=>f|_=>default
noncomputable def DQ (K:Frag)(a:Addr)(i:Nat):Option Value:=((K.lookup a).bind fun o=>o.slots[i]?).join
noncomputable def NP (K:Frag)(a:Addr):Option Addr:=(K.lookup a).bind (·.dict)
theorem Ln (P:Params):(hK P).lookup (gB 14)=some (excClassObj (nO (hK P) (gB 14)).name (nO (hK P) (gB 14)).qualname (gB 14) (nO (hK P) (gB 14)).ns (nO (hK P) (gB 14)).bases (nO (hK P) (gB 14)).mro.tail (nO (hK P) (gB 14)).hasDict (nO (hK P) (gB 14)).slotNames (nO (hK P) (gB 14)).subclasses (nO (hK P) (gB 14)).abstract (nO (hK P) (gB 14)).collection (NP (hK P) (gB 14)) (DQ (hK P) (gB 14) 0) (DQ (hK P) (gB 14) 1) (DQ (hK P) (gB 14) 2) (DQ (hK P) (gB 14) 3) (DQ (hK P) (gB 14) 5) "Exception.__new__"):=by kernel_rfl
theorem Lz (P:Params):(let m:=(nO (hK P) (gB 14)).mro.tail;m.contains (.type "Exception")&&(m.contains (.type "BaseException")&&(!m.contains (.type "AttributeError")&&!m.contains (.type "NameError"))))=true:=by kernel_rfl
theorem Lv (P:Params):(findIn (hK P) (.ref (gB 14)) "__init__" ==some (some (.ref (ng 13 1))))=true:=by kernel_rfl
theorem Ls (P:Params):(hK P).lookup (ng 13 1)=some ⟨.type "function",none,.func (KO (hK P) ng EW 13 1),⟨[]⟩⟩:=by kernel_rfl
theorem Ll (P:Params)(u v w:Value)(S:Setting):peek (hK P) S (bindArgs (KO (hK P) ng EW 13 1) ⟨[u,v,w],[]⟩)=some [(dK,u),(ch,v),(sI,w)]:=by kernel_rfl
theorem Lm (P:Params):(codeIn (hK P) (EW 13 1) (dN 13 1)&&keepIn (hK P) (.ref (gB 14)))=true:=by kernel_rfl
theorem Lp (P:Params):((nh P).nsMap mainGlobals (Str.ofString "Exception"),(nh P).nsMap builtinsNs (Str.ofString "Exception"))=(none,some (.type "Exception")):=by kernel_rfl
def Ix{s:Type}(p:s->Prop)(l:List s):Prop:=l.rec True fun a _ b=>p a/\b
theorem Ix.at(l:List s):Ix p l->∀a∈l,p a:=by induction l with|nil=>exact fun _ a h=>nomatch h|cons b r d=>exact fun h a m=>(zC m).elim (fun e=>e▸h.1) (d h.2 a)
noncomputable def H4 (i j:Nat):Bool:=j==0&&[80,82,83,84].contains i
def O4 (q:(Nat×Nat)×Fn):Prop:=∃a,dC aZ a (ae q.1.1 q.1.2) (am q.1.1 q.1.2)=some q.2.body/\(a=true->H4 q.1.1 q.1.2=true)
theorem Kj:Ix O4 Er:=⟨⟨_,Kh,nofun⟩,⟨_,Ki,nofun⟩,⟨_,Gr,nofun⟩,⟨_,Gs,nofun⟩,⟨_,Gu,nofun⟩,⟨_,Gv,nofun⟩,⟨_,Gw,nofun⟩,⟨_,Gx,nofun⟩,⟨_,Gy,nofun⟩,⟨_,Gz,nofun⟩,⟨_,GA,nofun⟩,⟨_,GB,nofun⟩,⟨_,GC,nofun⟩,⟨_,GD,nofun⟩,⟨_,GE,nofun⟩,⟨_,GF,nofun⟩,⟨_,GG,nofun⟩,⟨_,GH,nofun⟩,⟨_,GI,nofun⟩,⟨_,GJ,nofun⟩,⟨_,GK,nofun⟩,⟨_,GL,nofun⟩,⟨_,GN,nofun⟩,⟨_,GO,nofun⟩,⟨_,GP,nofun⟩,⟨_,GQ,nofun⟩,⟨_,GR,nofun⟩,⟨_,GS,nofun⟩,⟨_,GT,nofun⟩,⟨_,GU,nofun⟩,⟨_,GV,nofun⟩,⟨_,GW,nofun⟩,⟨_,GX,nofun⟩,⟨_,GY,nofun⟩,⟨_,GZ,nofun⟩,⟨_,G0,nofun⟩,⟨_,G1,nofun⟩,⟨_,G2,nofun⟩,⟨_,G3,nofun⟩,⟨_,G4,nofun⟩,⟨_,G5,nofun⟩,⟨_,G6,nofun⟩,⟨_,G7,nofun⟩,⟨_,G8,nofun⟩,⟨_,G9,nofun⟩,⟨_,Ha,nofun⟩,⟨_,Hb,nofun⟩,⟨_,Hc,nofun⟩,⟨_,Hd,nofun⟩,⟨_,He,nofun⟩,⟨_,Hf,nofun⟩,⟨_,Hg,nofun⟩,⟨_,Hh,nofun⟩,⟨_,Hi,fun _=>rfl⟩,⟨_,Hj,nofun⟩,⟨_,Hk,fun _=>rfl⟩,⟨_,Hl,fun _=>rfl⟩,⟨_,Hm,fun _=>rfl⟩,trivial⟩
theorem b2(h:(a&&b)=true):a=true/\b=true:=zB h
theorem nK{s:Type}{o:Option s}{p:s->Bool}(h:o.any p=true):∃a,o=some a/\p a=true:=by cases o with|none=>exact nomatch h|some a=>exact⟨a,rfl,h⟩
theorem Hs{c:OsState}(I:Is w G c C)(k:∀b o,(hH w.params).get? b=some o->G.get? b=some o):C.K.In C.G:=by rw[I.K,I.G];exact(NV w.params).keeps (jA k)
theorem OE{e:OsState}(I:Is w G e C)(k:∀b o,(hH w.params).get? b=some o->G.get? b=some o):KF C:=⟨Hs I k,by rw[I.G,I.p,I.loose,I.mean,I.mg,I.mb];exact(HT w.params).keeps (jA k)⟩
theorem KG{h:OsState}(I:Is w G h C)(c j:Nat)(n:Str)(g:aO n=true)(e:zx c (aL n)=some j):wM C c j n:=by have z:=IP w.params;rw[<- I.K,<- I.ca,<- I.fa]at z;obtain⟨l,f⟩:=b2 (zE z _ (aw e));have f:H8 C.K C.ca C.fa c j (C0 (aL n))=true:=f;rw[<- FA g l]at f;obtain⟨a,b⟩:=b2 f;obtain⟨b,d⟩:=b2 b;exact⟨a,bh b,d⟩
theorem M4{a:OsState}(I:Is w G a C)(k t:Kd)(b:Et.contains k.code=true)(c:Mj.contains t.code=true):kitOne C.K (Aj C k) (Aj C t)=some (k.code==t.code||(k.code==2&&t.code==1)):=by have z:=Lw w.params;rw[<- I.K,<- I.ca]at z;have z:=zE (zE z _ (List.contains_iff_mem.mp b)) _ (List.contains_iff_mem.mp c);rw[tN,tN]at z;exact bh z
theorem M5{i:OsState}(I:Is w G i C)(c:Nat)(h:Et.contains (Kd.cls c).code=true):Ax C c:=by
 have z:=LA w.params;rw[<- I.K,<- I.ca,<- I.fa]at z;have z:=zE z _ (List.contains_iff_mem.mp h);have z:(Nat.blt (c+8) 8||ownB C.K C.ca C.fa (c+8-8))=true:=z;rw[Nat.add_sub_cancel]at z;rcases Bool.or_eq_true_iff.mp z with q|q
 ·exact absurd (aP q) (by lia)
 ·obtain⟨a,q⟩:=b2 q;obtain⟨b,q⟩:=b2 q;obtain⟨c,q⟩:=b2 q;obtain⟨d,q⟩:=b2 q;obtain⟨e,f⟩:=b2 q;exact⟨a,b,bh c,bh d,bh e,bh f⟩
theorem wW(h:jQ c f=true):(c,f)∈wU:=by obtain⟨q,hq,e⟩:=List.any_eq_true.mp h;obtain⟨a,b⟩:=b2 e;rw[<- bh a,<- bh b];exact hq
theorem M3{i:OsState}(I:Is w G i C)(c:Nat)(n:Str)(g:aO n=true)(h:jQ c (aL n)=true):Aw C c n:=by have z:=Lu w.params;rw[<- I.K,<- I.ca,<- I.fa]at z;obtain⟨l,f⟩:=b2 (zE z _ (wW h));have f:LY C.K C.ca C.fa c (C0 (aL n))=true:=f;rw[<- FA g l]at f;obtain⟨a,b⟩:=b2 f;obtain⟨b,d⟩:=b2 b;exact⟨a,b,nK d⟩
theorem M6{i:OsState}(I:Is w G i C)(c:Nat)(n:Str)(g:aO n=true)(h:jQ c (aL n)=true)(j:c≠14):Ay C c n:=by
 have z:=LB w.params;rw[<- I.K,<- I.ca,<- I.fa]at z;rcases Bool.or_eq_true_iff.mp (zE z _ (wW h))with q|q
 ·exact absurd (bh q) j
 obtain⟨m,f⟩:=b2 q;have f:MJ C.K C.ca C.fa c (C0 (aL n))=true:=f;rw[<- FA g m]at f;obtain⟨a,b⟩:=b2 f;obtain⟨b,c⟩:=b2 b;obtain⟨c,d⟩:=b2 c;exact⟨bh a,b,bh c,d⟩
theorem M2{f:OsState}(I:Is w G f C):AH C (Str.ofString "at"):=by have z:=Lo w.params;rw[<- I.K,<- I.ca]at z;obtain⟨a,q⟩:=b2 z;obtain⟨b,q⟩:=b2 q;obtain⟨c,q⟩:=b2 q;obtain⟨d,e⟩:=b2 q;exact⟨bh a,bh b,bh c,d,nK e⟩
theorem yl (X:C.K.In C.G)(h:Kt C.K C.ca C.fa v u=true):VR C Sg.none v u:=by cases v with
 |int i=>exact xx (v:=.int i) h|tup k=>
  obtain⟨c,e,q⟩:=nK h;obtain⟨d,f⟩:=b2 q;obtain⟨a,n,g,j⟩:=Hn e;exact⟨c,⟨aP f,a,n,g,.inl (X _ _ j)⟩,tL _ _ d⟩|fn i=>exact bh h|cls i=>exact bh h|ty t=>exact bh h|bi b=>exact bh h|_=>exact KT h
theorem OH{f:OsState}(I:Is w G f C)(X:C.K.In C.G)(x:Str)(v:V)(hx:a8 x=true)(e:aZ.lookup (aL x)=some v):∃u,(C.mg x=some u\/(C.mg x=none/\C.mb x=some u))/\VR C Sg.none v u:=by
 have z:=NF w.params;rw[<- I.K,<- I.ca,<- I.fa,<- I.mg,<- I.mb]at z;obtain⟨i,b⟩:=b2 (zE z _ (aw e));have b:N1 C.K C.ca C.fa C.mg C.mb (C0 (aL x)) v=true:=b;rw[<- FA (bg hx) i]at b;unfold N1 at b
 split at b
 ·rename_i u e;exact⟨u,.inl e,yl X b⟩
 ·rename_i e;obtain⟨u,j,q⟩:=nK b;exact⟨u,.inr ⟨e,j⟩,yl X q⟩
theorem OC{d:OsState}(I:Is w G d C)(k:∀b o,(hH w.params).get? b=some o->G.get? b=some o):KB C:=⟨OE I k,KG I,M4 I,M5 I,M3 I,M2 I,M6 I,(Option.isSome_iff_exists.mp (IQ w.params)).imp fun o e=>by rw[I.G];exact jA k _ _ e,OH I (Hs I k)⟩
theorem wn (b:List Value):b=(List.range b.length).map fun q=>b.getD q .none:=by refine List.ext_getElem (by simp) fun i d e=>?_;simp[d]
theorem Lx{d:OsState}(I:Is w G d C)(h:H4 i j=true)(X:C.K.In C.G):wO C (C.fi i j):=by
 obtain⟨f,a⟩:=b2 h;obtain rfl:j=0:=bh f;have z:=NG w.params;rw[<- I.K]at z;obtain⟨q,g⟩:=b2 z;obtain⟨q,k⟩:=b2 q;obtain⟨l,m⟩:=b2 q;have b:∀{i:Nat} (c P:Addr),EW i 0= .ref c->D8.lookup P=some (CQ i)->codeHdIn C.K c P=true->wO C (C.fi i 0):=fun c P n o q=>⟨rfl,⟨c,P,_,(gX (gX I.cdv _) _).trans n,codeHd_of_K X q,by rw[I.tq];exact o,rfl⟩,⟨_,rfl⟩⟩;rcases zC (List.contains_iff_mem.mp a)with rfl|a
 ·exact b 688 684 (by kernel_rfl) (by kernel_rfl) l
 rcases zC a with rfl|a
 ·exact b 702 698 (by kernel_rfl) (by kernel_rfl) m
 rcases zC a with rfl|a
 ·exact b 709 705 (by kernel_rfl) (by kernel_rfl) k
 ·obtain rfl:=List.mem_singleton.mp a;exact b 716 712 (by kernel_rfl) (by kernel_rfl) g
theorem M1{x:OsState}(I:Is w G x C)(X:C.K.In C.G)(t:((i,j),o)∈Er):Hz C i j o (KO C.K C.fa C.cdv i j):=by have z:=NH w.params;have y:=ND w.params;rw[<- I.K,<- I.fa]at z y;rw[<- I.cdv]at z;refine⟨⟨_,List.map_inj_left.mp z _ t⟩,fun s f p v A=>?_⟩;have hd:(dL i j).length-f.length<o.dfl.length+1:=Nat.lt_succ_of_le (Nat.sub_le_of_le_add (k8 _ _▸A));have B:o.dfl.length-((dL i j).length-f.length)=f.length+o.dfl.length-(dL i j).length:=(Nat.sub_sub_right _ v).trans (congrArg (·-_) (k8 ..));have D:ME i j ((dL i j).length-f.length)=f.length:=Nat.sub_sub_self v;have F:=(tL (C:=C) (σ:=Sg.none) _ _ (zE y _ t)).cut (f.length+o.dfl.length-(dL i j).length);refine⟨_,F.1,kp_binds (X.keeps p) fun S=>?_⟩;have e:=NB w.params (fun q=>f.getD q .none) S;rw[<- I.K,<- I.fa,<- I.cdv]at e;have e:=List.map_inj_left.mp (List.map_inj_left.mp e _ t) _ (List.mem_range.mpr hd);have e:peek C.K S (bindArgs (KO C.K C.fa C.cdv i j) ⟨(List.range (ME i j ((dL i j).length-f.length))).map fun q=>f.getD q .none,[]⟩)=some ((dL i j).zip ((List.range (ME i j ((dL i j).length-f.length))).map (fun q=>f.getD q .none)++(NQ C.K C.fa i j).drop (o.dfl.length-((dL i j).length-f.length)))):=e;rw[D,B,<- wn]at e;exact e
theorem OG{d:OsState}(I:Is w G d C)(X:C.K.In C.G)(i j:Nat)(a:Fn)(h:Ci i j=some a):ph C i j a:=by have b:=aw h;have z:=NE w.params;rw[<- I.K,<- I.cdv]at z;have z:OU C.K C.cdv i j a=true:=zE z _ b;obtain⟨f,z⟩:=b2 z;obtain⟨g,z⟩:=b2 z;obtain⟨k,z⟩:=b2 z;obtain⟨l,z⟩:=b2 z;obtain⟨m,z⟩:=b2 z;obtain⟨n,z⟩:=b2 z;obtain⟨o,z⟩:=b2 z;obtain⟨p,z⟩:=b2 z;obtain⟨r,z⟩:=b2 z;obtain⟨s,t,u⟩:=Kj.at _ _ b;exact⟨⟨_,_,_,_,_,_,M1 I X b⟩,f,bh g,bh k,fun y v=>(Bool.or_eq_true_iff.mp (zE l y v)).imp bh bh,eP m,fun q hq=>zE n q hq,eP o,bh p,(pd _).mp r,(pd _).mp z,s,t,fun e=>Lx I (u e) X⟩
theorem KA{f:OsState}(I:Is w G f C)(c:Nat)(h:ie c=true):wL C c:=by
 obtain⟨j,e⟩:=Option.isSome_iff_exists.mp h;have z:=IO w.params;rw[<- I.K,<- I.ca,<- I.fa]at z;rcases Bool.or_eq_true_iff.mp (zE z _ (aw e))with q|q
 ·exact absurd rfl (bne_iff_ne.mp q)
 have q:makeB C.K C.ca C.fa c=true:=q;obtain⟨a,q⟩:=b2 q;obtain⟨b,q⟩:=b2 q;obtain⟨c,d⟩:=b2 q;exact⟨a,bh b,c,d⟩
theorem Ht{b:OsState}(I:Is w G b C)(i j:Nat)(c:Fn)(h:Ci i j=some c):keepIn C.K (.ref (C.fa i j))=true:=by have z:=EV w.params;rw[<- I.K,<- I.fa]at z;exact zE z _ (aw h)
theorem OD{c:OsState}(I:Is w G c C)(k:∀b o,(hH w.params).get? b=some o->G.get? b=some o):KD C:=⟨⟨OC I k,OG I (Hs I k),Ht I,KA I,fun e b d h=>by rw[I.lam]at h;exact h,fun e b d n h t=>by rw[I.lam];exact⟨h,n,t⟩⟩,by rw[I.K,I.ca];exact Lq w.params,by rw[I.mg,I.ca];exact LC w.params⟩
theorem OF{B:OsState}(I:Is w G B C)(k:∀b o,(hH w.params).get? b=some o->G.get? b=some o):KY C:=by
 obtain⟨j,m⟩:=b2 (Lz w.params);obtain⟨l,m⟩:=b2 m;obtain⟨p,r⟩:=b2 m;have t:=Lm w.params;have x:=Ln w.params;have y:=Lv w.params;have A:=Ls w.params;have f:=IR w.params;rw[<- I.K,<- I.ca]at x f;rw[<- I.K,<- I.ca,<- I.cdv]at t;rw[<- I.K,<- I.ca,<- I.fa]at y;rw[<- I.K,<- I.fa,<- I.cdv]at A;rw[<- I.fa]at f;rw[<- I.K,<- I.ca]at j l p r;obtain⟨a,b⟩:=b2 t;refine⟨OD I k,⟨_,_,_,_,_,_,_,_,_,_,_,_,_,_,_,_,Hs I k _ _ x,j,l,(pd _).mp p,(pd _).mp r⟩,bh y,⟨_,_,_,_,_,_,_,A,fun s u v z X=>kp_binds X fun S=>?_⟩,a,fun n h=>?_,b,?_⟩
 ·have e:=Ll w.params u v z S;rw[<- I.K,<- I.fa,<- I.cdv]at e;exact e
 ·have e:JW C.K C.ca C.fa n=true:=h.elim (fun e=>e▸ (b2 f).1) fun e=>e▸ (b2 f).2;obtain⟨a,q⟩:=b2 e;obtain⟨b,q⟩:=b2 q;obtain⟨c,d⟩:=b2 q;exact⟨bh a,b,bh c,d⟩
 ·rw[I.mg,I.mb];exact dE (Lp w.params)
theorem IS (P:Params):((hH P).get? 684,(hH P).get? 698,(hH P).get? 705,(hH P).get? 712)=(some (tabObj #[]),some (tabObj #[]),some (tabObj #[]),some (tabObj #[])):=by kernel_rfl
theorem Ly (P:Params):(nh P).nsMap mainGlobals (Str.ofString "law")=some (.ref (ng 84 0)):=by kernel_rfl
noncomputable def Pp (b:Nat):Nat:=if b=684 then 688 else if b=698 then 702 else if b=705 then 709 else 716
noncomputable def LX (b:Addr)(d:Data):Bool:=match d with| .fields c=>c[11]?==some (.ref b)|_=>false
theorem Ff(h:LX b d=true):∃a,d= .fields a/\a[11]?=some (.ref b):=by cases d with|fields a=>exact⟨a,rfl,bh h⟩|_=>exact KT h
noncomputable def HL (o:Option Obj)(b:Addr):Bool:=o.any fun o=>o.cls== .type "code"&&LX b o.data
theorem BA(h:HL o b=true):∃c a,o=some c/\c.cls= .type "code"/\c.data= .fields a/\a[11]?=some (.ref b):=(nK h).elim fun o e=>(b2 e.2).elim fun f g=>(Ff g).elim fun a q=>⟨o,a,e.1,bh f,q⟩
theorem NC (P:Params):(hTb.all fun b=>HL ((hH P).get? (Pp b)) b)=true:=by kernel_rfl
theorem wy{w:World}{s:Shared}(k:∀b o,(hH w.params).get? b=some o->s.heap.get? b=some o):∀b∈hTb,s.heap.get? b=some (tabObj #[]):=by
 have z:=IS w.params;have z:=dE z;have a:=dE z.2;have c:=dE a.2;intro b hb;rcases zC hb with rfl|hb
 ·exact k _ _ c.1
 rcases zC hb with rfl|hb
 ·exact k _ _ a.1
 rcases zC hb with rfl|hb
 ·exact k _ _ z.1
 ·rw[List.mem_singleton.mp hb];exact k _ _ c.2
noncomputable def Nf:Sg:=⟨[],[],[],[],D8.map fun q=>(q.1,#[])⟩
theorem Gn:D8.map (·.1)=[684,698,705,712]:=rfl
theorem D9{b:Addr}:b∈hTb ↔ b∈D8.map (·.1):=by rw[Gn];exact(show([705,698,684,712]:List Nat).Perm [684,698,705,712] by decide).mem_iff
theorem Dd (I:Is w s.heap s.os C)(k:∀b o,(hH w.params).get? b=some o->s.heap.get? b=some o)(j:s.gens=#[]):eQ C 101 callerA [] Nf s:=by
 have n:∀p∈Nf.news,∃b∈D8.map (·.1),p=(b,tabObj #[]):=fun p a=>by
  have a:p∈ (D8.map fun q=>(q.1,(#[]:Array Value))).map fun q=>(q.1,tabObj q.2):=a;rw[fQ]at a;obtain⟨q,hq,e⟩:=zF a;exact⟨q.1,e7 hq,e.symm⟩
 refine⟨fun b o e=>(nW (I.G▸e)).1,iG (by rw[I.G];exact BF _),fun p a=>?_,?_,rfl,(fun f hf=>nomatch hf),⟨by decide+kernel,by decide+kernel,rfl⟩,j,I.os.symm,rfl,(fun l o r e=>nomatch e),?_⟩
 ·obtain⟨b,hb,rfl⟩:=n p a;have hb:=D9.mpr hb;exact⟨wy k b hb,by rw[I.G];show(Ar s.heap).get? b=none;rw[jz,au hb]⟩
 ·show(([684,698,705,712]:List Nat)).Nodup
  decide
 ·refine⟨by rw[I.tq];show(D8.map fun q=>(q.1,(#[]:Array Value))).map (·.1)=_;rw[fQ];rfl,fun b d m=>?_,fun b d q m _ t x e=>?_⟩
  ·obtain⟨q,_,e⟩:=zF (show(b,d)∈D8.map fun q=>(q.1,(#[]:Array Value))from m);rw[<- (dE e).2];exact trivial
  ·obtain⟨q,_,u⟩:=zF (show(b,d)∈D8.map fun q=>(q.1,(#[]:Array Value))from m);rw[<- (dE u).2]at e;exact nomatch e
theorem FH{s:Shared}(I:Is w s.heap s.os C)(k:∀b o,(hH w.params).get? b=some o->s.heap.get? b=some o)(h:eQ C A callerA B r f):OldK s.heap f.heap:=by
 have i:∀b o,s.heap.get? b=some o->b∈hTb->∃d,o=tabObj #[]/\f.heap.get? b=some (tabObj d):=fun b o e hb=>by
  have q:=D9.mp hb;rw[<- I.tq,<- h.tabs.keys]at q;obtain⟨⟨n,d⟩,p,rfl⟩:=zF q;refine⟨d,e9 (e.symm.trans (wy k _ hb)),(h.news (n,tabObj d) ?_).1⟩;exact iD _ (iD _ (iD _ (iD _ (e7 p))))
 have hk:∀b o,s.heap.get? b=some o->b ∉ hTb->f.heap.get? b=some o:=fun b o e hb=>h.keep b o (by rw[I.G,jz,aH hb];exact e);refine⟨fun b o e=>?_,fun b o e=>?_⟩
 ·by_cases hb:b∈hTb
  ·obtain⟨d,rfl,g⟩:=i b o e hb;obtain⟨t,u,v,x,y,z⟩:=BA (zE (NC w.params) b hb);refine .inr (.inl ⟨⟨_,t,u,k _ _ v,x,y,z⟩,rfl,#[],d,rfl,?_⟩);rw[g,Array.empty_append]
  ·exact .inl (hk b o e hb)
 ·by_cases hb:b∈hTb
  ·obtain⟨d,-,g⟩:=i b o e hb;exact⟨_,g⟩
  ·exact⟨_,hk b o e hb⟩
theorem Jq(h:IntsAre a b):KJ b a:=by induction h with|nil=>exact rfl|cons n t _ c=>exact⟨t,_,rfl,c⟩
theorem M7{s:Shared}(I:Is w s.heap s.os C)(k:∀b o,(hH w.params).get? b=some o->s.heap.get? b=some o)(h:s.heap.IsList a d.toArray)(hI:IntsAre d f)(hl:f.length<=1000000):VRs C Nf [.xl f] [.ref a]:=by
 refine⟨_,_,rfl,⟨a,d,rfl,?_,Jq hI,hl⟩,rfl⟩;obtain⟨o,g,c,i⟩:=h;refine⟨o,?_,c,i⟩;rw[I.G,jz,aH fun hb=>?_]
 ·exact g
 ·have e:=e9 (g.symm.trans (wy k _ hb));rw[e]at c;exact nomatch c
theorem Fs (k:∀b o,(hH w.params).get? b=some o->s.heap.get? b=some o)(hg:s.gens=#[])(hL:s.heap.IsList a us.toArray)(hI:IntsAre us ns)(hl:ns.length<=1000000)
  (q:∀s',OldK s.heap s'.heap->s'.os=s.os->s'.gens=#[]->R (.ok (.ret (.bool true))) s'):codeAny (model hP w) callerA (.call (.ref (ng 84 0)) ⟨[.ref a],[]⟩) R s:=by
 obtain⟨r,hr,n,e⟩:=(Mk (k:=0) (ms:=[]) (us:=ns) (Q:=fun r _=>r= .ok (.bool true)) fun _=>rfl).w
 obtain⟨C,I⟩:=Mg w s.heap s.os
 have p:=((MN (OF I k).toKX n).callF 101 84 0 [.xl ns] [] r (e n (cc _))).2
 have p:=p callerA Nf s [.ref a] (Dd I k hg) (M7 I k hL hI hl) R (fun v ev σ' s' u le ok r'=>by
  rw[hr]at ev
  cases ev
  rw[show u= .bool true from r']
  exact q s' (FH I k ok) (ok.os.trans I.os) ok.gens) fun z ez=>by rw[hr]at ez;exact nomatch ez
 rw[I.prog,I.wd,I.fa]at p
 exact p
theorem Ju{w:World}{s:Shared}(k:∀b o,(hH w.params).get? b=some o->s.heap.get? b=some o)(hn:s.heap.Ns mainGlobals mg)(e:mg (Str.ofString "law")=some (.ref fa)):fa=ng 84 0:=by
 have h:=((HT w.params).g.keeps (jA k)).keeps (h':=s.heap) fun b o e=>(nW e).1
 have z:=(h.agree hn (Str.ofString "law")).symm.trans (Ly w.params)
 rw[e]at z
 exact mX (e9 z)
section
theorem FU (l:List Int):PySem.Challenge.rw_nn0153_01.row.claim.post [ofPy (PyData.list (l.map PyData.int))] (.bool true) [ofPy (PyData.list (l.map PyData.int))]=true:=by kernel_rfl
noncomputable def hD:DefRec:=⟨eY 84 0,eK 84 0,am 84 0,ae 84 0,⟨628,0,643,59⟩⟩
noncomputable abbrev zi:OpenRow:=PySem.Challenge.rw_nn0153_01.row
theorem Ma:defOf lS zi.name=some (hD,[]):=by kernel_rfl
theorem Mb:zi.prog.theDef zi.name=some (hD.params,hD.body,hD.scope):=by kernel_rfl
theorem N6:kwWritten? hD.params.kwonlyargs hD.params.kw_defaults=some []:=by kernel_rfl
theorem N7:(chainsOk lS&&opensWell zi.prog&&(frees zi.toRowW&&zi.within.isEmpty))=true:=by kernel_rfl
section
open PySem.W.Fast
noncomputable abbrev hl:OpenLaw:=PySem.Challenge.rw_nn0153_01
noncomputable abbrev hb:List Stmt:=hP.main.body
theorem C8 (k:Look)(b:List Stmt):∀a,noRoadLSs k (a++b)=(noRoadLSs k a&&noRoadLSs k b)| []=>rfl|x::a=>(congrArg (noRoadLS k x&&·) (C8 k b a)).trans (Bool.and_assoc ..).symm
theorem Oo (n:Str)(h:tw13343964577679436407 hP hb n=false):readsOut hP hb n=false:=(gX (gX (gX te13343964577679436407 hP) hb) n).trans h
theorem Oq:readsOut hP hb "vars" =false:=Oo _ (by kernel_rfl)
theorem Os:readsOut hP hb "dir" =false:=Oo _ (by kernel_rfl)
theorem Ot:readsOut hP hb "locals" =false:=Oo _ (by kernel_rfl)
theorem P0:(["vars","dir","locals"]:List Str).filter (readsOut hP hb)=[]:=by rw[qE,Oq,qE,Os,qE,Ot];rfl
theorem P6:(!(importedModules hb).all cThrough.contains)=false:=by kernel_rfl
theorem On (k:Look)(a:List Stmt)(h:tw8326940854005059898 k a=true):noRoadLSs k a=true:=(gX (gX te8326940854005059898 k) a).trans h
theorem PV:noRoadLSs {strict:=false,foot:=none} (hb.take 45)=true:=On _ _ (by kernel_rfl)
theorem PW:noRoadLSs {strict:=false,foot:=none} (hb.drop 45)=true:=On _ _ (by kernel_rfl)
theorem PS:noRoadLSs {strict:=!(importedModules hb).all cThrough.contains,foot:=none,bare:=(["vars","dir","locals"]:List Str).filter (readsOut hP hb)} hb=true:=by rw[P6,P0,<- List.take_append_drop 45 hb,C8,PV,PW];rfl
theorem Om(h:tw17119622794617984870 hP b f=true):namesMeet hP b f=true:=(gX (gX (gX te17119622794617984870 hP) b) f).trans h
theorem PT:(namesMeet hP hb fun _ n=>PySem.W.attrL n)=true:=Om (by rw[te17868728402115742887];kernel_rfl)
theorem PR:namesResolve hP=true:=(gX te8377067652309620493 _).trans (by kernel_rfl)
theorem P7:looksOpen hP=true:=by unfold looksOpen;refine fp (fp (fp (fp (fp ?_ ?_) PR) ?_) PS) PT<;>kernel_rfl
theorem Qa:hl.row.wellSaid=true:=by
 unfold OpenRow.wellSaid OpenRow.partSaid
 iterate 15 refine fp ?_ ?_
 exact P7
 all_goals kernel_rfl
theorem PY:hl.bound'.all (fun n=>!builtinNamed n||hl.about==[n]||!hl.reads n)=true:=by rw[named_eq];kernel_rfl
theorem PX:noClassBlock hl.prog hl.footing=true:=(gX (gX te8179353310426384613 _) _).trans (by kernel_rfl)
theorem P8:noRoadLSs {strict:=true,foot:=some hl.bound',writes:=hl.writes,may:=hl.may} hl.footing=true:=On _ _ (by kernel_rfl)
theorem PZ:hl.own.all (fun n=>!builtinNamed n)=true:=by rw[named_eq];kernel_rfl
theorem P3:namesMeet hP hl.above (fun _ n=>!hl.own.contains n)=true:=Om (by kernel_rfl)
theorem P5:namesMeet hP hl.footing (fun c n=>c.kind== .module||c.names.lookup n !=some .globalExplicit)=true:=Om (by kernel_rfl)
theorem Jl:PySem.Challenge.rw_nn0153_01.wellSaid=true:=by unfold OpenLaw.wellSaid;refine fp (fp (fp (fp (fp (fp (fp (fp (fp (fp (fp (fp (fp (fp (fp (fp (fp (fp Qa ?_) ?_) PX) ?_) ?_) P8) ?_) ?_) ?_) PY) ?_) ?_) ?_) ?_) ?_) PZ) P3) P5<;>kernel_rfl
end
theorem the_end:PySem.Challenge.rw_nn0153_01.Holds:=by
 w_on
 refine holds_law Jl fun said=>?_
 refine holds_open (q:=lS) (loose:=Es) (Xt:=fun s=>true) (XP:=fun _ _=>True) (Yf:=fun s=>s.heap) (Ya:=fun w=>hH w.params) (YP:=fun w h=>∀b o,(hH w.params).get? b=some o->h.get? b=some o) (N:=9408)
  J4 (fun w s e b o h=>by rw[<- e]at h;exact h) (fun w h h' e k b o q=>k _ _ (e b o q)) (fun _ _=>trivial) (fun _ _ _ _ _=>trivial) Ma Mb N6 (fun s e=>?rf) (by rfl) (by first|assumption|decide+kernel) N7 ⟨rfl,rfl,rfl,rfl,rfl,by decide+kernel⟩ ?hw ?hc
 case hw=>w_witness2
 case rf=>exact recFacts_nil rfl
 case hc=>
  intro w s₀ s₁ mg mb G Y fa o pm cd doc dV kV ho hd hcd hD hmg hg args fh as hpre hlay hrd hwl hlo
  have T:=G.T
  wrow_args hpre hlay hrd hwl hlo
  rename_i hL ra w1 r0 hI hr hc1 hc2
  obtain rfl:=Ju Y T.g hmg
  refine enter_call (Fs Y hg hL hI (bR (Nat.le_of_not_lt fun q=>hc1 (Int.ofNat_lt.mpr q)) (by decide)) fun s' k1 k2 k3=>?_)
  refine⟨.inl ⟨_,.bool true,[],rfl,fun _=>rfl,.bool true,?_,fun _=>⟨.nil,fun _ h=>nomatch h⟩⟩,k1,k2,.of_eq k3⟩
  exact FU _
end
end Mine.Internal
theorem PySem.Challenge.cw_nn0153_01_holds : PySem.Challenge.rw_nn0153_01.Holds :=
 Mine.Internal.the_end
