import PyProof.Rows.All
import Wide.All
import OpenK.AllK
import Wide.FinOn
import HandS.ForMost
import HandS.IsInst
import HandS.Property
import HandS.Wide
import HandS.Conv
import HandS.Style
import HandS.FStr
import HandS.Defaults
import HandS.Exc
import HandS.ExcOwn
import HandS.WordsExc
import HandS.TryMany
import HandS.Star
import HandS.ClsMeth
import HandS.Lambda
import KE.KeyNested
import KE.KDictKeyed
import HandS.TupAny
import HandS.Deep
import HandS.Rev
import HandS.Zip
import HandS.TupLe
import HandS.RaiseMore
import HandS.HeadHook4
import PyProof.RulesMatch
import KE.GoesMore
import HandS.MakeKwOnly
import HandS.HeadHook3
import HandS.ExcInit
import KE.KExcSuper
import HandS.ExcField
import HandS.HotCalls
import OpenK.KOps
import OpenK.KMeth
import KE.KCallOwn
import PyProof.InstEq
import KE.KSortTupG
import HandS.TupSets
import HandS.SortInts
import HandS.Text
import PyProof.ListRange
import HandS.Dict
import HandS.List
import HandS.Head2
import PyProof.StrOps2
import HandS.DictComp
import KE.GoesEnum
import HandS.HeadNt
import HandS.Replace
import KE.KDictPairs
import KE.KDictDisplayH
import HandS.GenCall
import HandS.GenList
import HandS.Strs
import HandS.OwnEq
import KE.SortData
import PyProof.TupleOfSeq
import HandS.GenOver
import PyProof.SetRoads
import PyProof.Rows.StrIntSpec
import PyProof.FString3
import HandS.SetFor
import HandS.SetBool
import HandS.TryOnly
import HandS.More
import HandS.Iter
import KE.KExcIs
import HandS.ExcValue
import HandS.ExcIs
import HandS.StrMore
import HandS.ReplaceDef
import HandS.ReplaceLit
import HandS.RaiseFrom
import HandS.ExcInitHot
import HandS.SuiteRaise
import KE.KExcInit
import PyProof.Rows.StrCountLaw
import HandS.Codes
import HandS.Base
import HandS.Call
import HandS.Words
import HandS.Head0
import HandS.Head1
import HandS.HeadEnd
import HandS.HeadWalk
import Wide.Once
import PySem.Challenge.RW_sharesay_k74_error_classes
set_option Elab.async false
set_option linter.all false
set_option maxRecDepth 100000
set_option maxHeartbeats 8000000
open PySem PySem.Spec PyProof.Rows L2
local macro_rules|`(!0)=>`(by decide)
local macro_rules|`(⋯)=>`(by decide +kernel)
local macro_rules|`(∅)=>`(by omega)
local macro_rules|`(%[$xs,*|0])=>do
 let mut r:Lean.Term:=Lean.mkIdent `mNil
 for x in xs.getElems.reverse do r←`($(Lean.mkIdent `zAC) $x $r)
 return r
def Ja:=@List.getElem?_append_left
def Jb:=@Option.some.inj
def Jc:=@PySem.Heap.get?_push_of_some
def Jd:=@List.getElem?_eq_some_iff
def Je:=@List.prefix_refl
def Jf:=@L2.upd_same
def Jg:=@L2.upd_ne
def Jh:=@Bool.and_eq_true
def Ji:=@List.mem_cons_self
def Jj:=@List.mem_of_getElem?
def Jk:=@List.getElem?_eq_getElem
def Jl:=@List.mem_cons
def Jm:=@He.glo_ok
def Jn:=@List.getElem?_map
def Jo:=@List.getElem?_append_right
def Jp:=@PySem.Heap.lt_size
def Jq:=@List.not_mem_nil
def Jr:=@List.length_map
def Js:=@List.all_eq_true
def Jt:=@List.getElem?_set_ne
def Ju:=@Nat.le_refl
def Jv:=@List.length_append
def Jw:=@List.getElem?_eq_none
def Jx:=@decide_eq_true_eq
def Jy:=@List.mem_cons_of_mem
def Jz:=@List.length_set
def JA:=@Nat.lt_of_lt_of_le
def JB:=@List.getElem?_set_self
def JC:=@PySem.Heap.get?_push_size
def JD:=@of_decide_eq_true
def JE:=@PySem.wpAny_bind
def JF:=@PySem.wpAny_loadPart_at
def JG:=@List.getElem?_eq_none_iff
def JH:=@List.getElem?_of_mem
def JI:=@He.free_ok
def JJ:=@He.eqO_ok
def JK:=@List.mem_singleton
def JL:=@PySem.F.excBase_ValueError
def JM:=@L2.ne_of_none
def JN:=@if_pos
def JO:=@PySem.W.looks_clsIn
def JP:=@Nat.le_add_right
def JQ:=@List.take_of_length_le
def JR:=@PySem.Str.ofString_eq_toList
def JS:=@List.drop_of_length_le
def JT:=@List.prefix_append
def JU:=@List.contains_cons
def JV:=@Nat.ne_of_lt
def JW:=@List.append_nil
def JY:=@Nat.zero_le
def JZ:=@List.map_cons
def J0:=@List.size_toArray
def J1:=@PySem.W.looks_findIn
def J3:=@or_false
def J4:=@List.lookup_cons
def J5:=@beq_eq_false_iff_ne
def J6:=@PySem.wpAny_pure
def J7:=@List.nodup_cons
def J8:=@List.getElem?_replicate
def J9:=@if_neg
def Va:=@PySem.wpAny_Call_Name_kw
def Vb:=@Int.natCast_nonneg
def Vc:=@Bool.not_eq_true'
def Vd:=@List.drop_zero
def Ve:=@PySem.Heap.get?_update_self
def Vf:=@PySem.Calls.loadGlobal_builtin
def Vg:=@List.of_mem_zip
def Vh:=@PySem.sizeLine_eq
def Vi:=@PySem.ks_codeAny_call_defAt
def Vj:=@PySem.W.looks_mroIn
def Vk:=@PySem.wpAny_isSubtype_exc
def Vl:=@PySem.W.ks_loadName_global
def Vm:=@PySem.Calls.evalArgs_plain
def Vn:=@PySem.W.codeRec_of
def Vo:=@PySem.wpAny_pyIter_tuple
def Vp:=@PySem.Code.quiet_builtin
def Vq:=@PySem.codeAny_mono
def Vr:=@L2.pa_cons
def Vs:=@PySem.ks_wpAny_isType_cls
def Vt:=@PySem.ks_wpAny_call_super
def Vu:=@List.drop_eq_getElem_cons
def Vv:=@PySem.wpAny_mono
def Vw:=@List.nodup_append
def Vx:=@PySem.wpAny_call
def Vy:=@PySem.ks_wpAt_execs_cons
def Vz:=@PySem.ks_wpAt_MethodCall
def VA:=@PySem.ks_wpAt_super_base
def VB:=@PySem.Heap.get?_push_at
def VC:=@PySem.Calls.spliced_cons
def VD:=@PySem.Calls.Constant_str
def VE:=@PySem.Calls.spliced_nil
def VF:=@Int.eq_ofNat_of_zero_le
def VG:=@Nat.lt_succ_self
def VH:=@Nat.le_trans
def VI:=@decide_eq_false
def VJ:=@PySem.codeAny_of_tree
def VL:=@PySem.W.bind_fn
def VM:=@Nat.not_lt_zero
def VN:=@Prod.mk.injEq
def VO:=@List.all_cons
def VP:=@Nat.lt_irrefl
def VQ:=@Ne.symm
def VR:=@L2.pe_var
def VS:=@L2.pss_one
namespace Y
inductive P where
 |non|bl (b:Bool)|int (i:Int)|str (s:Str)
 |tup (l:List P)|lst (l:List P)|scr (l:List Int)
 |dk (ks:List Key) (l:List P)
 |obj (c:Nat) (l:List P)
 /-- an exception of the class number c,its fields by place -/
 |exn (c:Nat) (l:List P)
 /-- the lambda number i of the frame number j -/
 |lam (j i:Nat)
 /-- a class by number -/
 |cls (c:Nat)
 /-- a dict that is never written again;keys ints and texts -/
 |fd (ks:List Key) (l:List P)
 /-- .. keys tuples of ints,texts,tuples -/
 |fn (ks:List P) (l:List P)
inductive W where
 |p (x:P)|r (i:Nat)
inductive Cell where
 |lst (l:List W)|dk (ks:List Key) (l:List W)|ins (c:Nat) (l:List W)|dead|dn (ks:List P) (l:List W)
 /-- a tuple of ints that is known to have no dict -/
 |tp (l:List Int)
structure Exn where
 c:Nat
 l:List P
inductive Res (α:Type) where
 |ok (a:α) (st:List Cell)|exc (x:Exn) (st:List Cell)|no
def Res.bind{α β:Type} (r:Res α) (k:α→List Cell→Res β):Res β:=match r with
 | .ok a st=>k a st
 | .exc x st=>.exc x st
 | .no=>.no
abbrev Sg:=List (Option W)
abbrev EM:=Sg→List Cell→Res W
inductive Fl where
 |nx|rt (w:W)|bk|ct
abbrev FM:=List W→List Cell→Res W
structure LamR where
 params:Arguments
 body:Expr
 scope:Scope
 dfl:Bool
def lamO(r:LamR) (q:Str) (clos:List (Str×Addr)) (pm cv ct dV:Value):Obj :=
 { cls:=.type "function",data:=.func { PySem.W.kla_fn "<lambda>" q r.params r.body r.scope clos pm cv ct with defaults:=dV } }
structure Cls where
 l:List (Addr×List Str)
 /-- the tables of code objects,each with the name that its code objects bear -/
 tb:List (Addr×Str):=[]
 /-- the lambdas by number -/
 lm:List LamR:=[]
 /-- the cells of the frames whose lambdas are told,each with the name that its lambdas bear -/
 fr:List (Str×List (Str×Addr)):=[]
 /-- the World,where hashes of texts are asked for -/
 wd:Option World:=none
instance:GetElem? Cls Nat (Addr×List Str) fun c i=>i<c.l.length where
 getElem c i h:=c.l[i]
 getElem? c i:=c.l[i]?
mutual
def nkP:P→Option NestedKey
 | .non=>some .none
 | .int i=>some (.num i)
 | .str z=>some (.text z)
 | .tup l=>(nkPs l).map .tup
 |_=>none
def nkPs:List P→Option (List NestedKey)
 |[]=>some []
 |x::l=>match nkP x,nkPs l with
  |some k,some ks=>some (k::ks)
  |_,_=>none
end
def nkT:P→Option NestedKey
 | .tup l=>match nkP (.tup l)with
  |some k=>if k.depth≤8 then some k else none
  |none=>none
 |_=>none
def nEnts(w:World):List NestedKey→List Addr→List Value→List DictEntry
 |k::ks,a::as,v::vs=>⟨k.hash w,.ref a,v⟩::nEnts w ks as vs
 |_,_,_=>[]
def NDat(wd:Option World) (od:Obj) (nks:List NestedKey) (as:List Addr) (vs:List V):Prop :=
 ∃w0 vals es ep,wd=some w0∧od.ExactDict∧od.data=.dict es ep∧Vals vs vals∧es.toList=nEnts w0 nks as vals∧nks.length=as.length∧nks.length=vs.length∧nks.Nodup
def NDict(wd:Option World) (a:Addr) (nks:List NestedKey) (as:List Addr) (vs:List V):HO:=.ext fun h=>∃od,h.get? a=some od∧NDat wd od nks as vs
def exq(a:Addr) (oe:Obj):HO:=.ext fun h=>h.get? a=some oe
section
variable (K:PySem.W.Frag) (cl:Cls) (G:Hp)
mutual
inductive RP:P→V→Prop
 |non:RP .non .non
 |bl (b:Bool):RP (.bl b) (.bl b)
 |int (i:Int):RP (.int i) (.int i)
 |str (s:Str):RP (.str s) (.str s)
 |tup {a:Addr}{vs:List V}{l:List P}:SqT K G a vs→RPs l vs→RP (.tup l) (.ref a)
 |lst {a:Addr}{vs:List V}{l:List P}:G a=some (.lst vs)→RPs l vs→RP (.lst l) (.ref a)
 |scr {a:Addr}{l:List Int}:SqL K G a (l.map V.int)→RP (.scr l) (.ref a)
 |dk {a:Addr}{ks:List Key}{vs:List V}{l:List P}:G a=some (.dK (ks.zip vs))→ks.length=vs.length→RPs l vs→RP (.dk ks l) (.ref a)
 |obj {a C dx:Addr}{c:Nat}{ns:List Str}{vs:List V}{l:List P}:cl[c]?=some (C,ns)→G a=some (.ins C dx (ns.zip vs))→ns.length=vs.length→RPs l vs→RP (.obj c l) (.ref a)
 |exn {a C dd:Addr}{oe:Obj}{c:Nat}{ns:List Str}{vs:List V}{l:List P}:cl[c]?=some (C,ns)→(oe.cls=.ref C∧oe.dict=some dd∧∃fs,oe.data=.fields fs)→G a=some (exq a oe)→G dd=some (.xd (ns.zip vs))→ns.length=vs.length→RPs l vs→RP (.exn c l) (.ref a)
 |lam {f c':Addr}{j i:Nat}{r:LamR}{q:Str}{cs:List (Str×Addr)}{pm ct dV:Value}:cl.lm[i]?=some r→cl.fr[j]?=some (q,cs)→G f=some (exq f (lamO r q (cloFrom cs r.scope.names []) pm (.ref c') ct dV))→G c'=some (LamX.CodeO c' q)→(r.dfl=false∧dV=.none∨r.dfl=true∧∃T,dV=.ref T∧G T=some (.tup [.int 0]))→RP (.lam j i) (.ref f)
 |cls {C:Addr}{c:Nat}{ns:List Str}:cl[c]?=some (C,ns)→RP (.cls c) (.ref C)
 |fd {a:Addr}{od:Obj}{ks:List Key}{vs:List V}{l:List P}:G a=some (.frz od (.dK (ks.zip vs)))→ks.length=vs.length→RPs l vs→RP (.fd ks l) (.ref a)
 |fn {a:Addr}{od:Obj}{nks:List NestedKey}{as:List Addr}{vs us:List V}{ks l:List P}:(a==sysModules)=false→G a=some (exq a od)→NDat cl.wd od nks as vs→ks.map nkT=nks.map some→us=as.map V.ref→RPs ks us→RPs l vs→RP (.fn ks l) (.ref a)
inductive RPs:List P→List V→Prop
 |nil:RPs [] []
 |cons {x:P}{v:V}{l:List P}{vs:List V}:RP x v→RPs l vs→RPs (x::l) (v::vs)
end
end
def Sub(G G':Hp):Prop:=∀a o,G a=some o→G' a=some o
theorem Sub.refl(G:Hp):Sub G G:=fun _ _ h=>h
theorem Sub.trans{G G' G'':Hp} (a:Sub G G') (b:Sub G' G''):Sub G G'':=fun x o h=>b x o (a x o h)
theorem Sub.new{G:Hp}{p:Addr}{o:HO} (h:G p=none):Sub G (upd G p o):=fun a u e=>by
 rw[Jg (JM e h)];exact e
theorem Sub.rd{G G':Hp} (s:Sub G G'){a:Addr}{u:HO} (h:Rd G a u):Rd G' a u:=by
 rcases h with h|⟨o,h⟩
 ·exact .inl (s _ _ h)
 ·exact .inr ⟨o,s _ _ h⟩
theorem Sub.sqL{K:PySem.W.Frag}{G G':Hp} (s:Sub G G'){a:Addr}{xs:List V} (h:SqL K G a xs):SqL K G' a xs:=by
 rcases h with h|h
 ·exact .inl (s.rd h)
 ·exact .inr h
theorem Sub.sqT{K:PySem.W.Frag}{G G':Hp} (s:Sub G G'){a:Addr}{xs:List V} (h:SqT K G a xs):SqT K G' a xs:=by
 rcases h with h|h
 ·exact .inl (s.rd h)
 ·exact .inr h
section
variable {K:PySem.W.Frag}{cl:Cls}{G G':Hp}
mutual
theorem RP.mono(s:Sub G G'):∀ {x:P}{v:V},RP K cl G x v→RP K cl G' x v
 |_,_,.non=>.non
 |_,_,.bl b=>.bl b
 |_,_,.int i=>.int i
 |_,_,.str z=>.str z
 |_,_,.tup h r=>.tup (s.sqT h) (RPs.mono s r)
 |_,_,.lst h r=>.lst (s _ _ h) (RPs.mono s r)
 |_,_,.scr h=>.scr (s.sqL h)
 |_,_,.dk h e r=>.dk (s _ _ h) e (RPs.mono s r)
 |_,_,.obj c h e r=>.obj c (s _ _ h) e (RPs.mono s r)
 |_,_,.exn c x h d e r=>.exn c x (s _ _ h) (s _ _ d) e (RPs.mono s r)
 |_,_,.lam a b c d e=>.lam a b (s _ _ c) (s _ _ d) (e.elim .inl fun⟨h,T,h1,h2⟩=>.inr ⟨h,T,h1,s _ _ h2⟩)
 |_,_,.cls h=>.cls h
 |_,_,.fd h e r=>.fd (s _ _ h) e (RPs.mono s r)
 |_,_,.fn n h d e u r q=>.fn n (s _ _ h) d e u (RPs.mono s r) (RPs.mono s q)
theorem RPs.mono(s:Sub G G'):∀ {l:List P}{vs:List V},RPs K cl G l vs→RPs K cl G' l vs
 |_,_,.nil=>.nil
 |_,_,.cons h r=>.cons (RP.mono s h) (RPs.mono s r)
end
theorem RPs.length:∀ {l:List P}{vs:List V},RPs K cl G l vs→l.length=vs.length
 |_,_,.nil=>rfl
 |_,_,.cons _ r=>congrArg Nat.succ (RPs.length r)
theorem RPs.get:∀ {l:List P}{vs:List V}{i:Nat}{x:P},RPs K cl G l vs→l[i]?=some x→∃v,vs[i]?=some v∧RP K cl G x v
 |_,_,_,_,.nil,e=>by simp at e
 |_,_,0,_,.cons h _,e=>by simp at e;subst e;exact⟨_,rfl,h⟩
 |_,_,i+1,x,.cons _ r,e=>by
  obtain⟨u,h1,h2⟩:=RPs.get (i:=i) (x:=x) r (by simpa using e)
  exact⟨u,by simpa using h1,h2⟩
theorem RPs.take:∀ {l:List P}{vs:List V} (n:Nat),RPs K cl G l vs→RPs K cl G (l.take n) (vs.take n)
 |_,_,0,_=>.nil
 |_,_,_+1,.nil=>.nil
 |_,_,n+1,.cons h r=>.cons h (RPs.take n r)
theorem RPs.drop:∀ {l:List P}{vs:List V} (n:Nat),RPs K cl G l vs→RPs K cl G (l.drop n) (vs.drop n)
 |_,_,0,r=>r
 |_,_,_+1,.nil=>.nil
 |_,_,n+1,.cons _ r=>RPs.drop n r
end
def RW(K:PySem.W.Frag) (cl:Cls) (ρ:List Addr) (G:Hp):W→V→Prop
 | .p x,v=>RP K cl G x v
 | .r i,v=>∃a,ρ[i]?=some a∧v=.ref a
inductive RWs (K:PySem.W.Frag) (cl:Cls) (ρ:List Addr) (G:Hp):List W→List V→Prop
 |nil:RWs K cl ρ G [] []
 |cons {w:W}{v:V}{l:List W}{vs:List V}:RW K cl ρ G w v→RWs K cl ρ G l vs→RWs K cl ρ G (w::l) (v::vs)
section
variable {K:PySem.W.Frag}{cl:Cls}{ρ ρ':List Addr}{G G':Hp}
theorem RW.mono(p:ρ <+: ρ') (s:Sub G G'){w:W}{v:V} (h:RW K cl ρ G w v):RW K cl ρ' G' w v:=by
 cases w with
 |p x=>exact RP.mono s h
 |r i =>
  obtain⟨a,e,q⟩:=h;obtain⟨t,rfl⟩:=p;refine⟨a,?_,q⟩;have hi:i<ρ.length:=(Jd.mp e).1;rw[Ja hi];exact e
theorem RWs.mono(p:ρ <+: ρ') (s:Sub G G'):∀ {l:List W}{vs:List V},RWs K cl ρ G l vs→RWs K cl ρ' G' l vs
 |_,_,.nil=>.nil
 |_,_,.cons h r=>.cons (h.mono p s) (RWs.mono p s r)
theorem RWs.length:∀ {l:List W}{vs:List V},RWs K cl ρ G l vs→l.length=vs.length
 |_,_,.nil=>rfl
 |_,_,.cons _ r=>congrArg Nat.succ (RWs.length r)
theorem RWs.get:∀ {l:List W}{vs:List V}{i:Nat}{x:W},RWs K cl ρ G l vs→l[i]?=some x→∃v,vs[i]?=some v∧RW K cl ρ G x v
 |_,_,_,_,.nil,e=>by simp at e
 |_,_,0,_,.cons h _,e=>by simp at e;subst e;exact⟨_,rfl,h⟩
 |_,_,i+1,x,.cons _ r,e=>by
  obtain⟨u,h1,h2⟩:=RWs.get (i:=i) (x:=x) r (by simpa using e)
  exact⟨u,by simpa using h1,h2⟩
theorem RWs.set{w:W}{v:V} (h:RW K cl ρ G w v):∀ {l:List W}{vs:List V} (i:Nat),RWs K cl ρ G l vs→RWs K cl ρ G (l.set i w) (vs.set i v)
 |_,_,_,.nil=>.nil
 |_,_,0,.cons _ r=>.cons h r
 |_,_,i+1,.cons q r=>.cons q (RWs.set h i r)
theorem RWs.take:∀ {l:List W}{vs:List V} (n:Nat),RWs K cl ρ G l vs→RWs K cl ρ G (l.take n) (vs.take n)
 |_,_,0,_=>.nil
 |_,_,_+1,.nil=>.nil
 |_,_,n+1,.cons h r=>.cons h (RWs.take n r)
theorem RWs.drop:∀ {l:List W}{vs:List V} (n:Nat),RWs K cl ρ G l vs→RWs K cl ρ G (l.drop n) (vs.drop n)
 |_,_,0,r=>r
 |_,_,_+1,.nil=>.nil
 |_,_,n+1,.cons _ r=>RWs.drop n r
theorem RWs.of_pures:∀ {l:List P}{vs:List V},RPs K cl G l vs→RWs K cl ρ G (l.map W.p) vs
 |_,_,.nil=>.nil
 |_,_,.cons h r=>.cons h (RWs.of_pures r)
def pures:List W→Option (List P)
 |[]=>some []
 | .p x::l=>(pures l).map (x :: ·)
 | .r _::_=>none
theorem zDY:∀ {l:List W}{m:List P},pures l=some m→l=m.map W.p
 |[],m,h=>by
  obtain rfl:[]=m:=Jb h;rfl
 | .p x::l,m,h=>by
  have h:(pures l).map (x :: ·)=some m:=h
  cases e:pures l with
  |none=>rw[e]at h;cases h
  |some k =>
   rw[e]at h;obtain rfl:x::k=m:=Jb h;rw[zDY e];rfl
 | .r i::l,m,h=>by cases h
theorem RWs.pure':∀ {l:List P}{vs:List V},RWs K cl ρ G (l.map W.p) vs→RPs K cl G l vs
 |[],_,.nil=>.nil
 |_::_,_,.cons h r=>.cons h (RWs.pure' r)
theorem RWs.pures{l:List W}{m:List P}{vs:List V} (h:RWs K cl ρ G l vs) (e:Y.pures l=some m):RPs K cl G m vs:=by
 rw[zDY e]at h;exact h.pure'
end
def RS(K:PySem.W.Frag) (cl:Cls) (ρ:List Addr) (G:Hp) (σ:Sg) (τ:L2.St):Prop :=
 σ.length=τ.length∧∀(i:Nat) (w:W),σ[i]?=some (some w)→∃v,τ[i]?=some (some v)∧RW K cl ρ G w v
def CA(K:PySem.W.Frag) (cl:Cls) (ρ:List Addr) (G:Hp) (H:Hp) (a:Addr):Cell→Prop
 | .lst l=>∃vs,H a=some (.lst vs)∧RWs K cl ρ G l vs
 | .dk ks l=>∃vs,H a=some (.dK (ks.zip vs))∧ks.length=vs.length∧RWs K cl ρ G l vs
 | .ins c l=>∃C dx ns vs,cl[c]?=some (C,ns)∧H a=some (.ins C dx (ns.zip vs))∧vs.length≤ns.length∧RWs K cl ρ G l vs
 | .dead=>∃o,G a=some o
 | .dn ks l=>∃nks as vs,(a==sysModules)=false∧H a=some (NDict cl.wd a nks as vs)∧ks.map nkT=nks.map some∧RPs K cl G ks (as.map V.ref)∧RWs K cl ρ G l vs
 | .tp l=>∃(oe:Obj) (its:List Value) (n:Nat),H a=some (exq a oe)∧oe.cls=.type "tuple" ∧ oe.dict=none∧oe.data=.seq its.toArray n∧Vals (l.map V.int) its
def strip(H:Hp):Hp:=fun a=>match H a with
 |some (.tbl _)=>none
 |o=>o
def NT(u:HO):Prop:=∀ps,u≠.tbl ps
theorem strip_of{H:Hp}{a:Addr}{u:HO} (h:H a=some u) (nt:NT u):strip H a=some u:=by
 unfold strip;rw[h];split
 ·rename_i ps e
  exact absurd (Jb e) (nt ps)
 ·rfl
theorem zCY{H:Hp}{a:Addr} (h:strip H a=none):H a=none∨∃ps,H a=some (.tbl ps):=by
 cases e:H a with
 |none=>exact .inl rfl
 |some u =>
  by_cases nt:NT u
  ·rw[strip_of e nt]at h;cases h
  ·exact .inr (Classical.byContradiction fun z=>nt fun ps q=>z ⟨ps,by rw[q]⟩)
def TabG(G H:Hp) (P:Addr) (q:Str):Prop:=∃ps:Array Value,H P=some (.tbl ps)∧TriplesOk ps.toList∧∀(pos:Pos) (cv:Value),codeAmong pos ps.toList=some cv→∃c,cv=.ref c∧G c=some (LamX.CodeO c q)
theorem TabG.nil{G H:Hp}{P:Addr}{q:Str} (h:H P=some (.tbl #[])):TabG G H P q:=⟨#[],h,True.intro,fun pos cv hc=>by
 have z:codeAmong pos []=some cv:=hc
 simp[codeAmong]at z⟩
theorem TabG.ext{G H H':Hp}{P:Addr}{q:Str} (t:TabG G H P q) (e:∀b o,H b=some o→H' b=some o):TabG G H' P q:=by
 obtain⟨ps,h1,h2,h3⟩:=t;exact⟨ps,e _ _ h1,h2,h3⟩
theorem TabG.sub{G G' H:Hp}{P:Addr}{q:Str} (t:TabG G H P q) (s:Sub G G'):TabG G' H P q:=by
 obtain⟨ps,h1,h2,h3⟩:=t
 exact⟨ps,h1,h2,fun pos cv hc=>by
  obtain⟨c,e1,e2⟩:=h3 pos cv hc
  exact⟨c,e1,s _ _ e2⟩⟩
theorem zDb{G H:Hp}{P p:Addr}{q:Str}{o:HO} (t:TabG G H P q) (h:H p=none):TabG G (upd H p o) P q:=t.ext fun b u e=>by
 rw[Jg (JM e h)];exact e
def PlO(u:HO):Prop:=NT u∧True
theorem zGf{u:HO} (h:match u with | .tbl _=>False | .ext _=>False|_=>True):PlO u:=by
 refine⟨fun ps z=>?_,trivial⟩
 subst z;exact h
structure En where
 H0:Hp
 n0:Nat
 G0:Hp
structure Rel (K:PySem.W.Frag) (cl:Cls) (E0:En) (ρ:List Addr) (G:Hp) (st:List Cell) (H:Hp):Prop where
 len:ρ.length=st.length
 nd:ρ.Nodup
 cell:∀(i:Nat) c a,st[i]?=some c→ρ[i]?=some a→CA K cl ρ G H a c
 sep:∀(i:Nat) c a,st[i]?=some c→ρ[i]?=some a→c=.dead∨G a=none
 sub:Sub G H
 old:∀a u,E0.H0 a=some u→(∀i:Nat,i<E0.n0→ρ[i]?≠some a)→H a=some u
 new:∀(i:Nat) a,E0.n0≤i→ρ[i]?=some a→E0.H0 a=none
 n0:E0.n0≤ρ.length
 grow:∀a o,G a=some o→E0.G0 a=some o∨E0.H0 a=none∨∃i:Nat,i<E0.n0∧ρ[i]?=some a
 ent:∀a u,E0.H0 a=some u→NT u
 gnt:∀a u,G a=some u→NT u
 tabs:∀p∈cl.tb,TabG G H p.1 p.2
section
variable {K:PySem.W.Frag}{cl:Cls}{E0:En}{ρ ρ':List Addr}{G G':Hp}{st:List Cell}{H H':Hp}
theorem CA.mono(p:ρ <+: ρ') (s:Sub G G'){a:Addr} (e:H' a=H a):∀ {c:Cell},CA K cl ρ G H a c→CA K cl ρ' G' H' a c
 | .lst l,⟨vs,h,r⟩=>⟨vs,e.trans h,r.mono p s⟩
 | .dk ks l,⟨vs,h,z,r⟩=>⟨vs,e.trans h,z,r.mono p s⟩
 | .ins c l,⟨C,dx,ns,vs,k,h,z,r⟩=>⟨C,dx,ns,vs,k,e.trans h,z,r.mono p s⟩
 | .dead,⟨o,h⟩=>⟨o,s _ _ h⟩
 | .dn ks l,⟨nks,as,vs,n,h,z,q,r⟩=>⟨nks,as,vs,n,e.trans h,z,RPs.mono s q,r.mono p s⟩
 | .tp _,⟨oe,its,n,h,r⟩=>⟨oe,its,n,e.trans h,r⟩
theorem Rel.at(R:Rel K cl E0 ρ G st H){i:Nat}{c:Cell} (h:st[i]?=some c):∃a,ρ[i]?=some a∧CA K cl ρ G H a c∧(c=.dead∨G a=none):=by
 have hi:i<st.length:=(Jd.mp h).1;have hj:i<ρ.length:=by rw[R.len];exact hi
 exact⟨ρ[i],by simp[hj],R.cell i c _ h (by simp[hj]),R.sep i c _ h (by simp[hj])⟩
theorem Rel.there(R:Rel K cl E0 ρ G st H){i:Nat}{a:Addr} (h:ρ[i]?=some a):∃o,H a=some o:=by
 have hi:i<ρ.length:=(Jd.mp h).1;have hj:i<st.length:=by rw[←R.len];exact hi
 have x:=R.cell i _ a (Jk hj) h;cases e:st[i]with
 |lst l=>rw[e]at x;obtain⟨vs,z,_⟩:=x;exact⟨_,z⟩
 |dk ks l=>rw[e]at x;obtain⟨vs,z,_⟩:=x;exact⟨_,z⟩
 |ins c l=>rw[e]at x;obtain⟨C,dx,ns,vs,_,z,_⟩:=x;exact⟨_,z⟩
 |dead=>rw[e]at x;obtain⟨o,z⟩:=x;exact⟨o,R.sub _ _ z⟩
 |dn ks l=>rw[e]at x;obtain⟨_,_,_,_,z,_⟩:=x;exact⟨_,z⟩
 |tp l=>rw[e]at x;obtain⟨_,_,_,z,_⟩:=x;exact⟨_,z⟩
theorem Rel.gnone(R:Rel K cl E0 ρ G st H){p:Addr} (h:H p=none):G p=none:=by
 cases e:G p with
 |none=>rfl
 |some o=>rw[R.sub _ _ e]at h;cases h
theorem Rel.fresh0(R:Rel K cl E0 ρ G st H){p:Addr} (h:H p=none):E0.H0 p=none:=by
 cases e:E0.H0 p with
 |none=>rfl
 |some u =>
  by_cases q:∀i:Nat,i<E0.n0→ρ[i]?≠some p
  ·rw[R.old p u e q]at h;cases h
  ·exfalso;apply q;intro i _ z;obtain⟨o,y⟩:=R.there z;rw[h]at y;cases y
theorem Rel.froze(R:Rel K cl E0 ρ G st H){p:Addr}{o:HO} (h:H p=none) (nt:NT o:=by intro _ z;cases z):Rel K cl E0 ρ (upd G p o) st (upd H p o):=by
 have gp:=R.gnone h
 have ne:∀(i:Nat) a,ρ[i]?=some a→a≠p:=fun i a e z=>by
  obtain⟨u,q⟩:=R.there e;rw[z,h]at q;cases q
 refine⟨R.len,R.nd,fun i c a e1 e2=>?_,fun i c a e1 e2=>?_,fun a u e=>?_,fun a u e q=>?_,R.new,R.n0,fun a u e=>?_,R.ent,fun a u e=>?_,fun q hq=>(zDb (R.tabs q hq) h).sub (Sub.new gp)⟩
 ·exact(R.cell i c a e1 e2).mono (Je _) (Sub.new gp) (Jg (ne i a e2))
 ·rw[Jg (ne i a e2)];exact R.sep i c a e1 e2
 ·by_cases z:a=p
  ·subst z;rw[Jf]at e ⊢;exact e
  ·rw[Jg z]at e ⊢;exact R.sub a u e
 ·have q2:=R.old a u e q;rw[Jg (JM q2 h)];exact q2
 ·by_cases z:a=p
  ·subst z;exact .inr (.inl (R.fresh0 h))
  ·rw[Jg z]at e;exact R.grow a u e
 ·by_cases z:a=p
  ·subst z;rw[Jf]at e;cases e;exact nt
  ·rw[Jg z]at e;exact R.gnt a u e
theorem CA.po{K:PySem.W.Frag}{cl:Cls}{ρ:List Addr}{G H:Hp}{a:Addr}:∀ {c:Cell},CA K cl ρ G H a c→c≠.dead→∃u,H a=some u∧PlO u
 | .lst l,⟨vs,h,_⟩,_=>⟨_,h,zGf trivial⟩
 | .dk ks l,⟨vs,h,_⟩,_=>⟨_,h,zGf trivial⟩
 | .ins c l,⟨C,dx,ns,vs,_,h,_⟩,_=>⟨_,h,zGf trivial⟩
 | .dead,_,n=>absurd rfl n
 | .dn ks l,⟨nks,as,vs,_,h,_⟩,_=>⟨_,h,⟨fun _ z=>(nomatch z),trivial⟩⟩
 | .tp _,⟨_,_,_,h,_⟩,_=>⟨_,h,⟨fun _ z=>(nomatch z),trivial⟩⟩
theorem Rel.tblF(R:Rel K cl E0 ρ G st H){a:Addr}{ps:Array Value} (h:H a=some (.tbl ps)):(∀i:Nat,ρ[i]?≠some a)∧E0.H0 a=none:=by
 have h1:∀i:Nat,ρ[i]?≠some a:=fun i z=>by
  have hi:i<st.length:=by rw[←R.len];exact(Jd.mp z).1
  by_cases hcd:st[i]=.dead
  ·obtain⟨o2,z2⟩:=R.cell i _ a (by rw[Jk hi,hcd]) z
   have z3:=R.sub _ _ z2;rw[h]at z3;exact R.gnt a o2 z2 ps (Jb z3).symm
  ·obtain⟨u2,z2,po⟩:=(R.cell i _ a (Jk hi) z).po hcd;rw[h]at z2;exact po.1 ps (Jb z2).symm
 refine⟨h1,?_⟩;cases e:E0.H0 a with
 |none=>rfl
 |some u =>
  have z1:=R.old a u e fun i _=>h1 i
  rw[h]at z1;exact absurd (Jb z1).symm (R.ent a u e ps)
end
def RX(K:PySem.W.Frag) (cl:Cls) (G:Hp) (H:Hp) (x:Exn) (cls:Value) (d:Option Addr):Prop :=
 ∃C ns dd vs,cl[x.c]?=some (C,ns)∧cls=.ref C∧d=some dd∧H dd=some (.xd (ns.zip vs))∧ns.length=vs.length∧RPs K cl G x.l vs
structure Bs where
 K:PySem.W.Frag
 cl:Cls
 E0:En
abbrev Bs.Rel(B:Bs) (ρ:List Addr) (G:Hp) (st:List Cell) (H:Hp):Prop:=Y.Rel B.K B.cl B.E0 ρ G st H
abbrev Bs.RW(B:Bs) (ρ:List Addr) (G:Hp):W→V→Prop:=Y.RW B.K B.cl ρ G
abbrev ZX:=Value→Option Addr→Hp→Prop
def Aft(B:Bs){α β:Type} (V:List Addr→Hp→α→β→Prop) (ρ:List Addr) (G:Hp) (R:Res α) (Q:β→Hp→Prop) (Z:ZX):Prop:=match R with
 | .ok a st=>∀ρ' G' H' b,ρ <+: ρ'→Sub G G'→B.Rel ρ' G' st H'→V ρ' G' a b→Q b H'
 | .exc x st=>∀ρ' G' H' cls d,ρ <+: ρ'→Sub G G'→B.Rel ρ' G' st H'→RX B.K B.cl G' H' x cls d→Z cls d H'
 | .no=>False
section
variable {B:Bs}{α β γ δ:Type}{U:List Addr→Hp→α→β→Prop}{U2:List Addr→Hp→γ→δ→Prop}{ρ ρ':List Addr}{G G':Hp}{Z:ZX}
theorem Aft.mono{R:Res α}{Q:β→Hp→Prop} (p:ρ <+: ρ') (s:Sub G G') (h:Aft B U ρ G R Q Z):Aft B U ρ' G' R Q Z:=by
 cases R with
 |ok a st=>exact fun ρ2 G2 H2 b p2 s2 r u=>h ρ2 G2 H2 b (p.trans p2) (s.trans s2) r u
 |exc x st=>exact fun ρ2 G2 H2 c d p2 s2 r u=>h ρ2 G2 H2 c d (p.trans p2) (s.trans s2) r u
 |no=>exact h
theorem Aft.seq{R:Res α}{k:α→List Cell→Res γ}{Q:δ→Hp→Prop}{Q':β→Hp→Prop} (h:Aft B U2 ρ G (R.bind k) Q Z)
  (g:∀a st ρ' G' H' b,R=.ok a st→ρ <+: ρ'→Sub G G'→B.Rel ρ' G' st H'→U ρ' G' a b→Aft B U2 ρ' G' (k a st) Q Z→Q' b H'):Aft B U ρ G R Q' Z:=by
 cases R with
 |ok a st=>exact fun ρ2 G2 H2 b p s r u=>g a st ρ2 G2 H2 b rfl p s r u (Aft.mono p s h)
 |exc x st=>exact h
 |no=>exact h
end
section
variable {X:Cx}
def T(X:Cx) (e:Expr):TE:=fun σ H Q=>∀(pins:List (Addr×Obj)) (s:Shared),Inv X pins σ H s→wpAny (model X.prog X.w) X.A (eval e X.env) (EP X pins σ Q) X.xe s
theorem T.of{e:Expr}{t:TE}{σ:L2.St}{H:Hp}{Q:VK} (h:PE X e t) (q:t σ H Q):T X e σ H Q:=fun pins s I=>h.run pins s σ H Q I q
end
abbrev TM:=Sg→List Cell→Res Bool
abbrev AM:=Sg→List Cell→Res (List W)
abbrev bs(K:PySem.W.Frag) (cl:Cls) (E0:En):Bs:=⟨K,cl,E0⟩
structure SE (K:PySem.W.Frag) (cl:Cls) (X:Cx) (Wx:WX) (m:EM) (e:Expr):Prop where
 run:∀E0 ρ G σ st τ H Q,(bs K cl E0).Rel ρ G st H→RS K cl ρ G σ τ→Aft (bs K cl E0) (bs K cl E0).RW ρ G (m σ st) Q (fun c d H'=>Wx c d τ H')→T X e τ H Q
structure GX (K:PySem.W.Frag) (X:Cx):Prop where
 hK:X.K=K
 hc:X.calm=true
 hN:X.N.Nodup
 hu:X.A.units+65<cLine
 hh:X.A.handled=none
section
variable {K:PySem.W.Frag}{cl:Cls}{X:Cx}{Wx:WX}{E0:En}{ρ ρ':List Addr}{G G':Hp}{σ:Sg}{τ:L2.St}{st:List Cell}{H:Hp}
theorem RS.mono(p:ρ <+: ρ') (s:Sub G G') (h:RS K cl ρ G σ τ):RS K cl ρ' G' σ τ:=⟨h.1,fun i w e=>by
 obtain⟨v,e1,r⟩:=h.2 i w e
 exact⟨v,e1,r.mono p s⟩⟩
theorem Aft.here{B:Bs}{α β:Type}{U:List Addr→Hp→α→β→Prop}{a:α}{b:β}{Q:β→Hp→Prop}{Z:ZX} (h:Aft B U ρ G (.ok a st) Q Z) (R:B.Rel ρ G st H) (u:U ρ G a b):Q b H :=
 h ρ G H b (Je _) (Sub.refl _) R u
def mVar(i:Nat):EM:=fun σ st=>match σ[i]? with
 |some (some w)=>.ok w st
 |_=>.no
theorem se_var{i:Nat}{x:Str}{pos:Pos} (hN:X.N[i]?=some x) (hv:Vis X.env.scope x) (hd:(x==("__debug__" : Str))=false:=by decide +kernel) (hcd:(x==("__classdict__" : Str))=false:=by decide +kernel):SE K cl X Wx (mVar i) (.Name x pos):=by
 refine⟨fun E0 ρ G σ st τ H Q R S h=>T.of (VR hN hv hd hcd) ?_⟩
 unfold mVar at h;split at h
 ·rename_i w e
  obtain⟨v,e1,r⟩:=S.2 i w e;exact⟨v,e1,h.here R r⟩
 ·exact h.elim
end
section
variable {K:PySem.W.Frag}{cl:Cls}{X:Cx}{Wx:WX}{E0:En}{ρ ρ':List Addr}{G G':Hp}{σ:Sg}{τ:L2.St}{st:List Cell}{H:Hp}
theorem RPs.empty{l:List P}{vs:List V} (r:RPs K cl G l vs):l.isEmpty=vs.isEmpty:=by cases r<;>rfl
theorem RWs.empty{l:List W}{vs:List V} (r:RWs K cl ρ G l vs):l.isEmpty=vs.isEmpty:=by cases r<;>rfl
theorem T.bind{e:Expr}{Q Q':VK} (h:T X e τ H Q) (k:∀v H',Q v H'→Q' v H'):T X e τ H Q':=fun pins s I=>thn (h pins s I) fun u s1 ⟨v,H1,I1,r,q⟩=>⟨v,H1,I1,r,k v H1 q⟩
end
inductive SR where
 |ok (f:Fl) (σ:Sg) (st:List Cell)|exc (x:Exn) (σ:Sg) (st:List Cell)|no
abbrev SMm:=Sg→List Cell→SR
section
variable {K:PySem.W.Frag}{cl:Cls}{X:Cx}{Wx:WX}{E0:En}{ρ ρ':List Addr}{G G':Hp}{σ:Sg}{τ:L2.St}{st:List Cell}{H:Hp}{D:Ends}
theorem RS.set(S:RS K cl ρ G σ τ){w:W}{v:V} (r:RW K cl ρ G w v) (i:Nat):RS K cl ρ G (σ.set i (some w)) (τ.set i (some v)):=by
 refine⟨by rw[Jz,Jz];exact S.1,fun j z e=>?_⟩
 by_cases hj:i=j
 ·subst hj
  have hl:i<σ.length:=by
   have:=(Jd.mp e).1
   rwa [Jz]at this
  rw[JB hl]at e;cases e;exact⟨v,JB (by rw[←S.1];exact hl),r⟩
 ·rw[Jt hj]at e;obtain⟨u,e1,r1⟩:=S.2 j z e;exact⟨u,by rw[Jt hj];exact e1,r1⟩
inductive Tg where
 |nm (i:Nat)|tp (l:List Tg)
mutual
def Tg.slots:Tg→List Nat
 | .nm i=>[i]
 | .tp ts=>Tg.slotss ts
def Tg.slotss:List Tg→List Nat
 |[]=>[]
 |t::ts=>Tg.slots t++Tg.slotss ts
end
end
structure Src where
 get:List Cell→Nat→Option (Option W)
 n:Nat
abbrev IM:=Sg→List Cell→Res Src
def content:Cell→List W
 | .lst l=>l
 | .dk _ l=>l
 | .ins _ l=>l
 | .dead=>[]
 | .dn _ l=>l
 | .tp _=>[]
def zBi(c:Cell):Bool:=match c with
 | .dead=>false
 |c=>(pures (content c)).isSome
def getCells(st:List Cell):List Nat→Option (List Cell)
 |[]=>some []
 |i::is=>match st[i]? with
  |some c=>if zBi c=true then match getCells st is with
    |some cs=>some (c::cs)
    |none=>none else none
  |none=>none
def putCells:List Nat→List Cell→List Cell→List Cell
 |i::is,c::cs,st=>(putCells is cs st).set i c
 |_,_,st=>st
section
variable {K:PySem.W.Frag}{cl:Cls}{X:Cx}{Wx:WX}{E0:En}{ρ ρ' ρ2:List Addr}{G G':Hp}{σ:Sg}{τ:L2.St}{st st':List Cell}{H H' Hm:Hp}{D:Ends}
theorem zCR{l:List W}{vs:List V} (h:(pures l).isSome=true) (r:RWs K cl ρ G l vs):RWs K cl ρ2 G l vs:=by
 cases e:pures l with
 |none=>rw[e]at h;cases h
 |some m =>
  have q:=r.pures e;rw[zDY e];exact .of_pures q
theorem CA.plain{a:Addr}{c:Cell} (h:zBi c=true) (x:CA K cl ρ G H a c):CA K cl ρ2 G H a c:=by
 cases c with
 |lst l=>obtain⟨vs,h1,h2⟩:=x;exact⟨vs,h1,zCR h h2⟩
 |dk ks l=>obtain⟨vs,h1,z,h2⟩:=x;exact⟨vs,h1,z,zCR h h2⟩
 |ins c l=>obtain⟨C,dx,ns,vs,k,h1,z,h2⟩:=x;exact⟨C,dx,ns,vs,k,h1,z,zCR h h2⟩
 |dead=>cases h
 |dn ks l=>obtain⟨nks,as,vs,n,h1,z,q,h2⟩:=x;exact⟨nks,as,vs,n,h1,z,q,zCR h h2⟩
 |tp l=>exact x
theorem zBO:∀ {refs:List Nat}{cs st:List Cell},(putCells refs cs st).length=st.length
 |[],_,_=>by unfold putCells;rfl
 |_::_,[],_=>by unfold putCells;rfl
 |i::is,c::cs,st=>by unfold putCells;rw[Jz];exact zBO
theorem zBy:∀ {refs:List Nat}{cs st:List Cell}{i:Nat},i∉refs→(putCells refs cs st)[i]?=st[i]?
 |[],_,_,_,_=>by unfold putCells;rfl
 |_::_,[],_,_,_=>by unfold putCells;rfl
 |k::is,c::cs,st,i,h=>by
  unfold putCells;rw[Jt (fun e=>h (by rw[e];exact Ji))]
  exact zBy fun m=>h (Jy _ m)
theorem zCI:∀ {refs:List Nat}{cs st:List Cell}{j i:Nat},refs.Nodup→refs[j]?=some i→refs.length≤cs.length→i<st.length→(putCells refs cs st)[i]?=cs[j]?
 |[],_,_,_,_,_,h,_,_=>by simp at h
 |_::_,[],_,_,_,_,_,h,_=>by simp at h
 |k::is,c::cs,st,0,i,nd,h,hl,hi=>by
  simp at h;subst h;unfold putCells;rw[JB (by rw[zBO];exact hi)]
  rfl
 |k::is,c::cs,st,j+1,i,nd,h,hl,hi=>by
  have h:is[j]?=some i:=by simpa using h
  have ne:k≠i:=fun e=>(J7.mp nd).1 (by rw[e];exact Jj h)
  unfold putCells;rw[Jt ne];rw[zCI (J7.mp nd).2 h (by simpa using hl) hi]
  simp
theorem zBn:∀ {refs:List Nat}{cs:List Cell}{j i:Nat},getCells st refs=some cs→refs[j]?=some i→∃c,cs[j]?=some c∧st[i]?=some c∧zBi c=true
 |[],_,_,_,_,h=>by simp at h
 |k::is,cs,j,i,e,h=>by
  rw[getCells]at e;split at e
  ·rename_i c ec
   split at e
   ·rename_i hp
    split at e
    ·rename_i ds ed
     cases e;cases j with
     |zero =>
      simp at h;subst h;exact⟨c,rfl,ec,hp⟩
     |succ j =>
      obtain⟨d,h1,h2⟩:=zBn (j:=j) ed (by simpa using h)
      exact⟨d,by simpa using h1,h2⟩
    ·cases e
   ·cases e
  ·cases e
def rhos(ρ:List Addr) (refs:List Nat):List Addr:=refs.map fun i=>ρ.getD i 0
theorem zDa(R:Rel K cl E0 ρ G st H){refs:List Nat}{cs:List Cell} (e:getCells st refs=some cs){j i:Nat} (h:refs[j]?=some i):∃a,ρ[i]?=some a∧(rhos ρ refs)[j]?=some a:=by
 obtain⟨c,_,h2,_⟩:=zBn e h;obtain⟨a,ha,_⟩:=R.at h2;refine⟨a,ha,?_⟩;unfold rhos;rw[Jn,h];show some (ρ.getD i 0)=some a;rw[List.getD_eq_getElem?_getD,ha];rfl
theorem zCE(R:Rel K cl E0 ρ G st H){refs:List Nat}{cs:List Cell} (e:getCells st refs=some cs){j:Nat}{a:Addr} (h:(rhos ρ refs)[j]?=some a):∃i,refs[j]?=some i∧ρ[i]?=some a:=by
 unfold rhos at h;rw[Jn]at h;cases q:refs[j]? with
 |none=>rw[q]at h;cases h
 |some i =>
  obtain⟨b,h1,h2⟩:=zDa R e q;unfold rhos at h2;rw[Jn]at h2;rw[h]at h2;cases h2;exact⟨i,rfl,h1⟩
theorem getElem?_inj {α:Type}{l:List α} (nd:l.Nodup){i j:Nat}{a:α} (h1:l[i]?=some a) (h2:l[j]?=some a):i=j:=by
 have e1:=Jd.mp h1;have e2:=Jd.mp h2;exact(List.getElem_inj (h₀:=e1.1) (h₁:=e2.1) nd).mp (e1.2.trans e2.2.symm)
theorem zB8{α:Type}{l m:List α}{i:Nat}{a:α} (h:(l++m)[i]?=some a):(i<l.length∧l[i]?=some a)∨(l.length≤i∧m[i-l.length]?=some a):=by
 by_cases hi:i<l.length
 ·rw[Ja hi]at h;exact .inl ⟨hi,h⟩
 ·rw[Jo ∅]at h;exact .inr ⟨∅,h⟩
theorem Rel.ret(R:Rel K cl E0 ρ G st H){refs:List Nat}{cs:List Cell}{xs:List Addr} (nd:refs.Nodup) (hc:getCells st refs=some cs) (up:Sub H Hm) (hx:∀x∈xs,H x=none)
  (p:(xs++rhos ρ refs) <+: ρ') (s:Sub G G') (R':Rel K cl ⟨strip Hm,(xs++rhos ρ refs).length,G⟩ ρ' G' st' H') (pl:((st'.drop xs.length).take refs.length).all zBi=true) (ln:xs.length+refs.length≤st'.length) :
  Rel K cl E0 ρ G' (putCells refs (st'.drop xs.length) st) H':=by
 have lr:(rhos ρ refs).length=refs.length:=Jr ..;obtain⟨tl,rfl⟩:=p
 -- a cell of the caller that is not handed in
 have notin:∀(i:Nat) a,ρ[i]?=some a→i∉refs→∀j:Nat,j<(xs++rhos ρ refs).length→(xs++rhos ρ refs++tl)[j]?≠some a:=fun i a ha hi j hj e=>by
  rw[Ja hj]at e;rcases zB8 e with⟨h1,h2⟩|⟨h1,h2⟩
  ·obtain⟨o,q⟩:=R.there ha;rw[hx a (Jj h2)]at q;cases q
  ·obtain⟨k,r1,r2⟩:=zCE R hc h2
   have:=getElem?_inj R.nd r2 ha
   subst this;exact hi (Jj r1)
 -- what was handed in,by places
 have inn:∀(j:Nat) a,j<(xs++rhos ρ refs).length→(xs++rhos ρ refs++tl)[j]?=some a→a∈xs∨∃i,i∈refs∧ρ[i]?=some a:=fun j a hj e=>by
  rw[Ja hj]at e;rcases zB8 e with⟨h1,h2⟩|⟨h1,h2⟩
  ·exact .inl (Jj h2)
  ·obtain⟨k,r1,r2⟩:=zCE R hc h2;exact .inr ⟨k,Jj r1,r2⟩
 have at':∀(i:Nat) a,i∈refs→ρ[i]?=some a→∃j,refs[j]?=some i∧(xs++rhos ρ refs++tl)[xs.length+j]?=some a∧j<refs.length:=fun i a hi ha=>by
  obtain⟨j,hj⟩:=JH hi;obtain⟨b,h1,h2⟩:=zDa R hc hj;rw[ha]at h1;cases h1;have hl:j<refs.length:=(Jd.mp hj).1;refine⟨j,hj,?_,hl⟩;rw[Ja (by rw[Jv,lr];omega),Jo ∅]
  rw[show xs.length+j-xs.length=j by omega];exact h2
 have hil:∀(i:Nat) a,ρ[i]?=some a→i<st.length:=fun i a ha=>by rw[←R.len];exact(Jd.mp ha).1
 refine⟨by rw[zBO];exact R.len,R.nd,fun i c a e1 e2=>?_,fun i c a e1 e2=>?_,R'.sub,fun a u e q=>?_,R.new,R.n0,fun a u e=>?_,R.ent,R'.gnt,R'.tabs⟩
 ·by_cases hi:i∈refs
  ·obtain⟨j,h1,h2,h3⟩:=at' i a hi e2;rw[zCI nd h1 (by rw[List.length_drop];omega) (hil i a e2)]at e1
   have x:=R'.cell (xs.length+j) c a (by rw[List.getElem?_drop]at e1;exact e1) h2
   have hp:zBi c=true:=Js.mp pl c (Jj (i:=j) (by rw[List.getElem?_take_of_lt h3];exact e1))
   exact CA.plain hp x
  ·rw[zBy hi]at e1
   by_cases hcd:c=.dead
   ·subst hcd;obtain⟨o,z⟩:=R.cell i _ a e1 e2;exact⟨o,s _ _ z⟩
   ·obtain⟨o,q,po⟩:=(R.cell i c a e1 e2).po hcd;have q2:=R'.old a o (strip_of (up a o q) po.1) (notin i a e2 hi);exact(R.cell i c a e1 e2).mono (Je _) s (q2.trans q.symm)
 ·by_cases hi:i∈refs
  ·obtain⟨j,h1,h2,h3⟩:=at' i a hi e2;rw[zCI nd h1 (by rw[List.length_drop];omega) (hil i a e2)]at e1
   exact R'.sep (xs.length+j) c a (by rw[List.getElem?_drop]at e1;exact e1) h2
  ·rw[zBy hi]at e1;rcases R.sep i c a e1 e2 with z|z
   ·exact .inl z
   ·refine .inr ?_
    cases g:G' a with
    |none=>rfl
    |some u =>
     obtain⟨o,q⟩:=R.there e2;rcases R'.grow a u g with y|y|⟨j,hj,y⟩
     ·have y:G a=some u:=y;rw[z]at y;cases y
     ·have y:strip Hm a=none:=y;rcases zCY y with y|⟨ps,y⟩
      ·rw[up a o q]at y;cases y
      ·rw[up a o q]at y;cases y;exact absurd e2 ((R.tblF q).1 i)
     ·exact absurd y (notin i a e2 hi j hj)
 ·have h1:=R.old a u e q;refine R'.old a u (strip_of (up a u h1) (R.ent a u e)) fun j hj y=>?_
  rcases inn j a hj y with m|⟨i,hi,r⟩
  ·rw[hx a m]at h1;cases h1
  ·by_cases hn:i<E0.n0
   ·exact q i hn r
   ·rw[R.new i a ∅ r]at e;cases e
 ·rcases R'.grow a u e with y|y|⟨j,hj,y⟩
  ·exact R.grow a u y
  ·have y:strip Hm a=none:=y;refine .inr (.inl ?_);rcases zCY y with y|⟨ps,y⟩
   ·exact R.fresh0 (by
     cases g:H a with
     |none=>rfl
     |some o=>rw[up a o g]at y;cases y)
   ·cases g:H a with
    |none=>exact R.fresh0 g
    |some o =>
     rw[up a o g]at y;cases y;exact(R.tblF g).2
  ·rcases inn j a hj y with m|⟨i,hi,r⟩
   ·exact .inr (.inl (R.fresh0 (hx a m)))
   ·by_cases hn:i<E0.n0
    ·exact .inr (.inr ⟨i,hn,r⟩)
    ·exact .inr (.inl (R.new i a ∅ r))
section
variable {f:Addr}{fd:FuncData}{ps:List Str}{F:FM}{a:AM}{k:Nat}{x m:Str}{p pos apos:Pos}{e:Expr}{es:List Expr}
structure FldAt (K:PySem.W.Frag) (cl:Cls) (fn:Str) (c i:Nat):Prop where
 ex:∃C ns,cl[c]?=some (C,ns)∧ns.Nodup∧ns[i]?=some fn∧L2.Cls K C∧NoAttr K C fn
end
end
inductive ZK where
 |L (a:Addr)|T (a:Addr)|S (x:Str)
def ZK.val:ZK→V
 | .L a=>.ref a
 | .T a=>.ref a
 | .S x=>.str x
def ZK.len(K:PySem.W.Frag) (H:Hp) (n:Nat):ZK→Prop
 | .L a=>∃xs,SqL K H a xs∧xs.length=n
 | .T a=>∃xs,SqT K H a xs∧xs.length=n
 | .S x=>x.cps.size=n
section
variable {K:PySem.W.Frag}{cl:Cls}{X:Cx}{Wx:WX}{E0:En}{ρ ρ':List Addr}{G G':Hp}{σ:Sg}{τ:L2.St}{st:List Cell}{H:Hp}{D:Ends}
def vis(sc:Scope) (x:Str):Bool:=match sc.names.lookup x with
 |some .local=>true
 |some .cell=>true
 |some .free=>true
 |_=>false
theorem vis_ok{sc:Scope}{x:Str} (h:vis sc x=true):Vis sc x:=by
 unfold vis at h;split at h
 ·exact .inl (by assumption)
 ·exact .inr (.inl (by assumption))
 ·exact .inr (.inr (by assumption))
 ·cases h
theorem v{i:Nat}{x:Str}{pos:Pos} (hN:X.N[i]?=some x) (hv:vis X.env.scope x=true) (hd:((x==("__debug__" : Str))||(x==("__classdict__" : Str)))=false):SE K cl X Wx (mVar i) (.Name x pos):=by
 rw[Bool.or_eq_false_iff]at hd;exact se_var hN (vis_ok hv) hd.1 hd.2
end
section
open PySem.W (ksEnv ksFn kxs_mw)
section
variable {K:PySem.W.Frag}{cl:Cls}{X:Cx}{Wx:WX}{E0:En}{ρ ρ':List Addr}{G G':Hp}{σ:Sg}{τ:L2.St}{st:List Cell}{H:Hp}{D:Ends}
abbrev WE(E:XK):WX:=fun c d _ H=>E c d H
end
end
section
open LamX
section
variable {K:PySem.W.Frag}{cl:Cls}{E0:En}{ρ:List Addr}{G:Hp}{st:List Cell}{H H1:Hp}
theorem Rel.grown(R:Rel K cl E0 ρ G st H) (eN:ExtN H H1) (T1:∀p∈cl.tb,TabG G H1 p.1 p.2):Rel K cl E0 ρ G st H1:=by
 refine⟨R.len,R.nd,fun i c a e1 e2=>?_,R.sep,fun a u e=>eN a u (R.sub a u e) (R.gnt a u e),fun a u e q=>eN a u (R.old a u e q) (R.ent a u e),R.new,R.n0,R.grow,R.ent,R.gnt,T1⟩
 by_cases hcd:c=.dead
 ·subst hcd;exact R.cell i _ a e1 e2
 ·obtain⟨o,z,po⟩:=(R.cell i c a e1 e2).po hcd;exact(R.cell i c a e1 e2).mono (Je _) (Sub.refl _) ((eN a o z po.1).trans z.symm)
end
end
section
open LamX (CodeO ExtN TabB)
section
variable {K:PySem.W.Frag}{cl:Cls}{X:Cx}{Wx:WX}{E0:En}{ρ:List Addr}{G:Hp}{σ:Sg}{τ:L2.St}{st:List Cell}{H:Hp}
theorem zEU{c:Addr}{q:Str}:NT (CodeO c q):=fun _ z=>by unfold CodeO at z;cases z
theorem Rel.code{Pt c':Addr}{q:Str}{ps ps':Array Value} (R:Rel K cl E0 ρ G st H) (hP:H Pt=some (.tbl ps)) (hc:H c'=none) (hu:∀p∈cl.tb,p.1=Pt→p.2=q) (ht:TriplesOk ps'.toList)
  (ha:∀(pos:Pos) (cv:Value),codeAmong pos ps'.toList=some cv→∃c,cv=.ref c∧upd G c' (CodeO c' q) c=some (CodeO c q)):Rel K cl E0 ρ (upd G c' (CodeO c' q)) st (upd (upd H Pt (.tbl ps')) c' (CodeO c' q)):=by
 have R':=R.froze (o:=CodeO c' q) hc zEU;have ne:Pt≠c':=JM hP hc;refine R'.grown (fun b o e n=>?_) fun p hp=>?_
 ·by_cases hb:b=c'
  ·rw[hb]at e ⊢;rw[Jf]at e ⊢;exact e
  ·rw[Jg hb]at e ⊢;rw[Jg fun z=>by rw[z,hP]at e;exact n ps (Jb e).symm]
   exact e
 ·by_cases hb:p.1=Pt
  ·rw[hu p hp hb,hb];exact⟨ps',by rw[Jg ne,Jf],ht,ha⟩
  ·obtain⟨qs,e1,e2,e3⟩:=R'.tabs p hp
   have ec:p.1≠c':=fun z=>by
    rw[z,Jf]at e1;exact zEU qs (Jb e1)
   rw[Jg ec]at e1;exact⟨qs,by rw[Jg ec,Jg hb];exact e1,e2,e3⟩
end
end
section
open PySem.W (ksFn ksEnv)
structure DefE where
 at_:PySem.W.Frag→Addr
 name:Str
 qual:Str
 params:Arguments
 body:List Stmt
 scope:Scope
 clo:List Str
abbrev FnE:Type:=Option ((Str×Str×Arguments)×(FuncBody×Scope)×Addr×List Str×Addr)
def fnE(K:PySem.W.Frag) (a:Addr):FnE:=(K.lookup a).bind fun o=>match o.data with
 | .func d=>some ((d.name,d.qualname,d.params),(d.body,d.scope),d.globals,d.closure.map Prod.fst,d.builtins)
 |_=>none
def DefE.val(d:DefE):FnE:=some ((d.name,d.qual,d.params),(.stmts d.body,d.scope),mainGlobals,d.clo,builtinsNs)
def DefE.okB(K:PySem.W.Frag) (d:DefE):Bool:=(K.lookup (d.at_ K)).any fun o=>match o.data with
 | .func e=>PySem.W.keepIn K (.ref (d.at_ K))&&PySem.W.codeIn K e.code d.qual&&He.dflB K e.defaults []&&He.kwdB K e.kwdefaults []
 |_=>false
theorem DefE.ex{K:PySem.W.Frag}{d:DefE} (e:fnE K (d.at_ K)=d.val) (c:d.okB K=true):∃(oc:Value) (od:Option Addr) (osl:Array (Option Value)) (clo:List (Str×Addr)) (dV kV doc pm cdv ct:Value) (an:Option Addr),
  K.lookup (d.at_ K)=some ⟨oc,od,.func (PySem.W.fnX d.name d.qual d.params d.body d.scope clo dV kV doc pm an cdv ct),osl⟩∧clo.map Prod.fst=d.clo∧PySem.W.keepIn K (.ref (d.at_ K))=true∧PySem.W.codeIn K cdv d.qual=true∧DflV K dV []∧KwdV K kV []:=by
 unfold fnE at e;unfold DefE.okB at c;cases q:K.lookup (d.at_ K)with
 |none=>rw[q]at c;cases c
 |some o =>
  obtain⟨oc,od,dt,osl⟩:=o;rw[q]at c e;cases dt with
  |func fd =>
   obtain⟨n1,n2,n3,n4,n5,n6,n7,n8,n9,n10,n11,n12,n13,n14,n15⟩:=fd;have e2:(some ((n1,n2,n3),(n4,n5),n6,n7.map Prod.fst,n15):FnE)=some ((d.name,d.qual,d.params),(.stmts d.body,d.scope),mainGlobals,d.clo,builtinsNs):=e;simp only[Option.some.injEq,VN]at e2;obtain⟨⟨h1,h2,h3⟩,⟨h4,h5⟩,h6,h7,h8⟩:=e2;have c2:(PySem.W.keepIn K (.ref (d.at_ K))&&PySem.W.codeIn K n13 d.qual&&He.dflB K n8 []&&He.kwdB K n9 [])=true:=c;simp only[Jh]at c2;obtain⟨⟨⟨k1,k2⟩,k3⟩,k4⟩:=c2;refine⟨oc,od,osl,n7,n8,n9,n10,n11,n13,n14,n12,?_,h7,k1,k2,He.dflB_ok k3,He.kwdB_ok k4⟩;subst h1 h2 h3 h4 h5 h6 h8;rfl
  |_=>cases c
structure SaysE (fa:List He.Fa) (fn:List He.DefD) (ts:List He.Tab) (tf:List He.Defn) (ex:PySem.W.Frag→Bool) (es:List DefE) (w:World) (h:Heap) (K:PySem.W.Frag):Prop where
 x:He.SaysX fa fn ts tf ex w h K
 e:es.map (fun d=>fnE K (d.at_ K))=es.map DefE.val
 ok:es.all (fun d=>d.okB K)=true
abbrev AlE:Type:=He.AlX×Bool×List FnE
def zGa(fn:List He.DefD) (ts:List He.Tab) (es:List DefE) (w:World):AlE:=(He.valX fn ts w,true,es.map DefE.val)
def oexD(C:Addr):Value→Data→List (Option Value)→Bool
 | .type "type",.cls cd,sl=>(match cd.mro,sl with
  | .ref c::bm,[_,_,_,_,some (.builtin n),_]=>decide (c=C)&&decide (n = "ValueError.__new__") && !cd.hasDel&&cd.hasDict&&PySem.HandSPX.refsVE bm
  |_,_=>false)
 |_,_,_=>false
def oexB(K:PySem.W.Frag) (C:Addr):Bool:=((K.lookup C).any fun o=>oexD C o.cls o.data o.slots.toList)&&He.eqO (PySem.W.findIn K (.ref C) "__setattr__") (some (some (.builtin "object.__setattr__")))&&decide (PySem.W.subIn K (.ref C) (.type "BaseException")=some true)&&decide (PySem.W.typeIn K (.ref C)=some (.type "type"))&&PySem.W.keepIn K (.ref C)
def zHm(C:Addr):Data→Bool
 | .cell (some (.ref c))=>decide (c=C)
 |_=>false
def strIs(z:Str):Option Value→Bool
 |some (.str y _)=>z==y
 |_=>false
def fileD(z:Str):Data→Bool
 | .fields vs=>strIs z vs[2]?
 |_=>false
def zEe(K:PySem.W.Frag) (cc C:Addr):Bool:=(K.lookup cc).any fun o=>zHm C o.data
def zEc(K:PySem.W.Frag) (a:Addr) (z:Str):Bool:=(K.lookup a).any fun o=>fileD z o.data
def zGH(K:PySem.W.Frag) (f:Addr):Option (Addr×Addr):=(K.lookup f).bind fun o=>match o.data with
 | .func d=>(match d.closure,d.code with|[q],.ref a=>some (q.2,a)|_,_=>none)
 |_=>none
def excB(K:PySem.W.Frag) (x z:Str) (g:Option Str):Bool:=oexB K (He.ga K x)&&xfB K (He.ga K x)&&He.eqO (PySem.W.findIn K (.ref (He.ga K x)) "tag") (some none)&&(g.all fun f=>He.eqO (PySem.W.findIn K (.ref (He.ga K x)) f) (some none) && !(f==("tag" : Str))) &&
 He.eqO (PySem.W.findIn K (.ref (He.ga K x)) "__init__") (some (some (.ref (He.ma K (He.ga K x) "__init__"))))&&decide (PySem.W.typeIn K (.ref (He.ma K (He.ga K x) "__init__"))=some (.type "function")) &&
 ((zGH K (He.ma K (He.ga K x) "__init__")).any fun q=>zEe K q.1 (He.ga K x)&&zEc K q.2 z)&&He.eqO (PySem.W.ks_superIn K (He.ga K x) (He.ga K x) "__init__") (some (some (.builtin "ValueError.__init__"))) &&
 decide (PySem.W.mroIn K (He.ga K x) (.ref (He.ga K x))=some true)&&decide (PySem.W.subIn K (.ref (He.ga K x)) (.type "ValueError")=some true)&&He.eqO (PySem.W.nsIn K cStatics "thirdparty.any") (some none)
structure FileOf (P:Program) (z:Str):Prop where
 file:((P.main.file:Str)==z)=true
 top:(P.main.scope.names.lookup ("super" : Str)).isSome=false
end
section
open PySem.W PySem.Calls HandSHeadRun
noncomputable section
def RunA(r:OpenRow) (q:Program) (M:Nat) (loose:List PySem.Str) (w:World):Prop :=
 ∀os:OsState,(endF (stepQ (denQ tabQ) r.prog w) M r.prog w os).map (fun s=>(looksF r.prog (boot_heap w.params) s.abs,seenQ q loose (importedModules r.prog.main.body) (fun s=>xlAt q [] s&&recOk r.toRowW.records s) s.abs))=some (true,openGood q loose)
def RunB(r:OpenRow) (H:Hook) (ob:SharedT→H.α) (M:Nat) (w:World):Prop :=
 ∀os:OsState,(endF (stepQ (denQ tabQ) r.prog w) M r.prog w os).map ob=some (H.val w)
theorem two3{α β γ δ:Type}{x:Option α}{f:α→β}{g:α→γ}{h:α→δ}{a:β}{b:γ}{c:δ} (h1:x.map (fun s=>(f s,g s))=some (a,b)) (h2:x.map h=some c):x.map (fun s=>(f s,g s,h s))=some (a,b,c):=by
 cases x with
 |none=>cases h1
 |some s =>
  simp only[Option.map_some,Option.some.injEq,VN]at h1 h2 ⊢;exact⟨h1.1,h1.2,h2⟩
theorem zFS{r:OpenRow}{q:Program}{H:Hook}{ob:SharedT→H.α}{M:Nat}{loose:List PySem.Str}{w:World} (a:RunA r q M loose w) (b:RunB r H ob M w):RunEq r q H ob M loose w:=fun os=>two3 (a os) (b os)
end
end
def z3:List NestedKey→List Addr→List Value→List (NestedKey×Addr×Value)
 |k::ks,a::as,v::vs=>(k,a,v)::z3 ks as vs
 |_,_,_=>[]
section
open GenW
inductive Pjk where
 |id|fst
end
section
open GenW
abbrev SpJ:=Pjk→List V→Hp→(List V→Hp→Prop)→XK→Prop
end
section
open PySem.W PySem.Calls HandSHeadRun
noncomputable section
def RunH{γ:Type} (r:OpenRow) (M:Nat) (w:World) (h:SharedT→γ) (c:γ):Prop:=∀os:OsState,(endF (stepQ (denQ tabQ) r.prog w) M r.prog w os).map h=some c
def zFE(ts:List He.Tab) (es:List DefE) (w:World):(List (Option (List (Option (PySem.Str×Int))))×Bool)×(Bool×List FnE):=((ts.map fun t=>some (He.keysIn w.params t.2),true),true,es.map DefE.val)
variable {r:OpenRow}{M n:Nat}{w:World}{fa fb:List He.Fa}{fn fm:List He.DefD}{ts:List He.Tab}{tf:List He.Defn}{ex:PySem.W.Frag→Bool}{es:List DefE}
theorem two2{α β γ:Type}{x:Option α}{f:α→β}{g:α→γ}{a:β}{b:γ} (h1:x.map f=some a) (h2:x.map g=some b):∃s,x=some s∧f s=a∧g s=b:=by
 cases x with
 |none=>cases h1
 |some s=>exact⟨s,rfl,Jb h1,Jb h2⟩
end
end
end Y
namespace NS
def ask(m:Nat) (h:Int) (c:Nat):SetTable.Probe:=nth m (runAt m (SetTable.bits h%(m+1)) (SetTable.bits h)) c
abbrev Lk:=List (NestedKey×Addr)
end NS
namespace Y
open GenW
inductive LR where
 |ok (f:Fl) (σ:Sg) (st:List Cell) (ys:List P)|no (ys:List P)
abbrev LMn:=Sg→List Cell→List P→LR
def LR.ys:LR→List P
 | .ok _ _ _ ys=>ys
 | .no ys=>ys
def Mono(m:LMn):Prop:=∀σ st ys,ys <+: (m σ st ys).ys
structure Gf where
 P:Program
 w:World
 K:PySem.W.Frag
 mg:Str→Option Value
 base:Heap
 cl:Cls
 N:List Str
 qual:Str
 scope:Scope
 f:Addr
 cd:Value
 A:Around
 outer:List Env
 n0:Nat
abbrev Gf.env(g:Gf):Env:=envOfC g.qual g.scope g.n0 g.f g.cd
structure Ix where
 s0:Shared
 H0:Hp
 pn:List (Addr×Obj)
 E0:En
 ρ0:List Addr
 i:Nat
def Gf.X(g:Gf) (x:Ix):Cx:=gcxOf g.P g.w g.K g.mg g.base g.N g.qual g.scope g.f g.cd g.A g.outer x.s0 x.H0 (fun _ _ _=>False) x.pn
def Gf.Ok(g:Gf) (x:Ix):Prop:=x.s0.heap.objs.size=g.n0
section
variable {g:Gf}{x x2:Ix}
theorem Gf.AX(h:g.Ok x):(g.X x).A=g.A.deeper g.env:=by
 show g.A.deeper (envOfC g.qual g.scope x.s0.heap.objs.size g.f g.cd)=_;rw[h]
end
structure Game where
 Wk:Shared→Ix→Prop
 yf:List P
 Bud:Nat
 fin:Bool
def GSt(g:Gf) (x:Ix) (ρ:List Addr) (G:Hp) (st:List Cell) (τ:L2.St) (H:Hp) (s:Shared):Prop :=
 g.Ok x∧(bs g.K g.cl x.E0).Rel ρ G st H∧Inv (g.X x) [] τ H s∧Sub x.E0.G0 G∧x.ρ0 <+: ρ
def Bd(W:Game) (n c:Nat):Prop:=n+c=W.Bud∧1≤n
def YP(g:Gf) (W:Game):Protocol:=fun n s₀ v s kap =>
 ∃x ρ G σ st τ H z xv,W.Wk s₀ x∧GSt g x ρ G st τ H s∧RS g.K g.cl ρ G σ τ∧RelV xv v∧RP g.K g.cl G z xv∧W.yf[x.i]?=some z∧n+1+x.i=W.Bud ∧
  (1≤n→∀s2 x2 G2 H2,W.Wk s2 x2→x2.i=x.i+1→GSt g x2 ρ G2 st τ H2 s2→RS g.K g.cl ρ G2 σ τ→kap (.send .none) s2)
def RE(g:Gf) (W:Game):GenEnd:=fun n s₀ r s =>
 ((r=.ok (.ret .none)∨r=.ok .next)∧∃x ρ G st τ H,W.Wk s₀ x∧GSt g x ρ G st τ H s∧x.i=W.yf.length∧W.fin=true∧n+x.i=W.Bud)∨∃e,r=.error e∧False
structure JCL (g:Gf) (c:Code) (fs:List Frame) (gd:Bool→Bool):Prop where
 over:g.A.over c fs=g.A.deeper g.env
 split:splitAtGen fs=none
 guard:fs.any Frame.guarded=false
 gd:gd false=false
def FlR(g:Gf) (ρ:List Addr) (G:Hp) (σ:Sg) (τ:L2.St):Fl→Flow→Prop
 | .nx,fl=>fl=.next∧RS g.K g.cl ρ G σ τ
 | .bk,fl=>fl=.brk∧RS g.K g.cl ρ G σ τ
 | .ct,fl=>fl=.cont∧RS g.K g.cl ρ G σ τ
 | .rt w,fl=>∃v u,RW g.K g.cl ρ G w v∧RelV v u∧fl=.ret u
def Acc(g:Gf) (W:Game) (c:Code) (fs:List Frame) (k:Flow→Sem PySem.Fin):LR→Prop
 | .ok f σ st ys=>ys <+: W.yf∧∀n s₀ s x ρ G τ H fl,Bd W n ys.length→x.i=ys.length→W.Wk s₀ x→GSt g x ρ G st τ H s→FlR g ρ G σ τ f fl→Seg (model g.P g.w) g.A (RE g W) (YP g W) n s₀ c (k fl) fs s
 | .no ys=>ys <+: W.yf∧W.Bud≤ys.length
theorem Acc.pre{g:Gf}{W:Game}{c:Code}{fs:List Frame}{k:Flow→Sem PySem.Fin}{r:LR} (h:Acc g W c fs k r):r.ys <+: W.yf:=by
 cases r<;>exact h.1
def JX(g:Gf) (W:Game) (c:Code) (fs:List Frame) (j:Value→Sem PySem.Fin):Prop :=
 ∀n s₀ e s x,g.Ok x→(g.X x).xe e s→Seg (model g.P g.w) g.A (RE g W) (YP g W) n s₀ c (j e) fs s
def TL(g:Gf) (m:LMn) (t:(Flow→Sem PySem.Fin)→(Value→Sem PySem.Fin)→(Bool→Bool)→(List Value→List Value)→Sem PySem.Fin):Prop :=
 ∀(W:Game) (n:Nat) (s₀ s:Shared) (c:Code) (fs:List Frame) (k:Flow→Sem PySem.Fin) (j:Value→Sem PySem.Fin) (gd:Bool→Bool) (lv:List Value→List Value) (x:Ix) (ρ:List Addr) (G:Hp) (σ:Sg) (st:List Cell) (ys:List P) (τ:L2.St) (H:Hp),
  JCL g c fs gd→Bd W n ys.length→x.i=ys.length→W.Wk s₀ x→GSt g x ρ G st τ H s→RS g.K g.cl ρ G σ τ→Acc g W c fs k (m σ st ys)→JX g W c fs j→Seg (model g.P g.w) g.A (RE g W) (YP g W) n s₀ c (t k j gd lv) fs s
structure YLs (g:Gf) (m:LMn) (e:List Stmt):Prop where
 mono:Mono m
 run:TL g m fun k j gd lv=>(execs e g.env).wrap k j gd lv
abbrev WN:WX:=WE (fun _ _ _=>False)
def cut(h:Heap) (n:Nat):Heap:=⟨h.objs.extract 0 n,h.life⟩
def Gf.own(g:Gf):List Addr:=g.n0::(g.env.cells.map (·.1)).filterMap fun y=>g.env.cells.lookup y
theorem Gf.own_of{g:Gf}{a:Addr} (h:a∈g.own):a=g.n0∨∃y,g.env.cells.lookup y=some a:=by
 rcases Jl.mp h with e|e
 ·exact .inl e
 ·obtain⟨y,_,e⟩:=List.mem_filterMap.mp e;exact .inr ⟨y,e⟩
def AccE(W:Game):LR→Prop
 | .ok .nx _ _ ys=>ys=W.yf∧W.fin=true
 | .ok (.rt (.p .non)) _ _ ys=>ys=W.yf∧W.fin=true
 | .no ys=>ys=W.yf∧W.Bud≤ys.length
 |_=>False
abbrev sgN(ws:List W) (np N:Nat):Sg:=ws.map some++List.replicate (N-np) none
def MadeL(P:Program) (w:World) (K:PySem.W.Frag) (mg:Str→Option Value) (base:Heap) (cl:Cls) (k:Nat) (outer:List Env) (H:Hp) (s:Shared) (m:LMn) (np Nn:Nat) (vs:List V) (u:Value) (s':Shared):Prop :=
 ∃(a:Addr) (go:Obj) (gi:Nat) (c:Code) (N:List Str) (qual:Str) (scope:Scope) (f:Addr) (cd:Value),u=.ref a∧s.heap.objs.size≤a∧s'.heap.get? a=some go∧(∀v,go.data≠.cell v)∧(∀h:Heap,h.get? a=some go→h.IsGen a gi) ∧
  s'.gens[gi]?=some (.fresh c)∧s'.os=s.os∧AllBare s'.gens∧s'.heap.NoLimit∧(∀b o,s.heap.get? b=some o→s'.heap.get? b=some o) ∧
  ∀A,Room k A→A.frames=some outer→∀g:Gf,g=⟨P,w,K,mg,base,cl,N,qual,scope,f,cd,A,outer,s.heap.objs.size⟩ →
   (∀b∈g.own,s.heap.objs.size≤b∧b≠a∧∃o,s'.heap.get? b=some o)∧(∃x0 τ0,g.Ok x0∧Inv (g.X x0) [] τ0 H s'∧(∀ws G,ws.length=np→RPs K cl G ws vs→RS K cl [] G (sgN (ws.map W.p) np Nn) τ0) ∧
   ∀(W:Game) (s2:Shared) (x:Ix) (G H2:Hp) (σ0:Sg),W.Wk s2 x→x.i=0→1≤W.Bud→GSt g x [] G [] τ0 H2 s2→RS K cl [] G σ0 τ0→AccE W (m σ0 [] [])→Seg (model P w) A (RE g W) (YP g W) W.Bud s2 c ((model P w).den c) [] s2)
structure GenL (P:Program) (w:World) (K:PySem.W.Frag) (mg:Str→Option Value) (base:Heap) (cl:Cls) (k:Nat) (f:Addr) (fd:FuncData) (ps:List Str) (Nn:Nat) (m:LMn):Prop where
 run:∀(A:Around) (outer:List Env) (s:Shared) (H:Hp) (args:Args) (us:List Value) (vs:List V),Room k A→Env0 P w K mg base A outer s H→BindsTo s fd args (ps.zip us)→Vals vs us→vs.length=ps.length →
  codeAny (model P w) A (.call (.ref f) args) (fun r s'=>match r with | .ok (.ret u)=>MadeL P w K mg base cl k outer H s m ps.length Nn vs u s'|_=>False) s
theorem zGl{K:PySem.W.Frag}{cl:Cls}{G:Hp}{ws:List P}{vs:List V}{np:Nat}{N:List Str} (hl:ws.length=np) (hN:np≤N.length) (r:RPs K cl G ws vs):RS K cl [] G (sgN (ws.map W.p) np N.length) (L2.start N vs):=by
 have lv:=r.length;unfold L2.start sgN;refine⟨by simp[hl,←lv],fun i w' e=>?_⟩
 rcases zB8 e with⟨h1,h2⟩|⟨h1,h2⟩
 ·rw[Jr,Jr]at h1;rw[Jn]at h2;cases q:(ws.map W.p)[i]? with
  |none=>rw[q]at h2;cases h2
  |some u =>
   rw[q]at h2;have h2:some (some u)=some (some w'):=h2;cases h2;obtain⟨v,ev,rv⟩:=(RWs.of_pures (ρ:=[]) r).get q;refine⟨v,?_,rv⟩;rw[Ja (by rw[Jr,←lv];exact h1),Jn,ev];rfl
 ·rw[J8]at h2;split at h2<;>cases h2
theorem zHR{P:Program}{w:World}{K:PySem.W.Frag}{mg:Str→Option Value}{base:Heap}{cl:Cls}{k:Nat}{f:Addr}{name qual:Str}{params:Arguments}{body:List Stmt}{scope:Scope}{dV kV doc pm cdv ct oc:Value}{an od:Option Addr}
  {osl:Array (Option Value)}{N ps:List Str}{m:LMn} (lk:K.lookup f=some ⟨oc,od,.func (PySem.W.fnOf name qual params body scope dV kV doc pm an cdv ct),osl⟩) (hcd:PySem.W.codeIn K cdv qual=true) (S:GScope N ps scope)
  (hbody:∀(A:Around) (outer:List Env) (n0:Nat),Room k (A.deeper (envOfC qual scope n0 f cdv))→YLs ⟨P,w,K,mg,base,cl,N,qual,scope,f,cdv,A,outer,n0⟩ m body) :
  GenL P w K mg base cl (k+1) f (PySem.W.fnOf name qual params body scope dV kV doc pm an cdv ct) ps N.length m:=by
 refine⟨fun A outer s H args us vs hr e0 hb r hl=>?_⟩
 have KX:K.In s.heap:=e0.mod.kin.keeps fun b o e=>(e0.bs b o e).1
 have lim:s.heap.NoLimit:=e0.mod.nolimit.keeps fun b o e=>(e0.bs b o e).1
 have kinds:∀y∈ps.zip us,scope.names.lookup y.1=some .local∨(scope.names.lookup y.1=some .cell∧((cellsFrom (s.heap.objs.size+1) scope.names []).lookup y.1).isSome=true):=fun⟨n,v⟩ hy =>
  (S.par n (Vg hy).1).elim .inl fun q=>.inr ⟨q,PySem.W.cellsFrom_some _ _ _ (.inl q)⟩
 refine codeAny_call_generator hr.depth (KX _ _ lk) rfl S.co S.gen rfl (Vn KX hcd) (hb _ _ _ _ ?_);refine wpAny_newFunctionEnv_cells S.kind kinds fun env he s1 x=>?_
 subst he;have lim1:s1.heap.NoLimit:=lim.keeps x.toInCall.keep;refine⟨lim1,?_⟩;obtain⟨h1,tk,es1,_⟩:=x.done;have os1:s1.os=s.os:=by rw[es1]
 have gen1:s1.gens=s.gens:=by rw[es1]
 have lt1:s.heap.objs.size<s1.heap.objs.size:=x.toInCall.ns.lt;have kp1:∀b o,s.heap.get? b=some o→s1.heap.get? b=some o:=x.toInCall.keep;generalize hL:s1.heap.objs.size=L at lt1
 have main:∀(go:Obj) (nm qn:Value) (tk2:Nat),go.cls=.type "generator" → go.data=.fields #[.int s1.gens.size 0,nm,qn]→go.slots = #[]→(∀h:Heap,(h.push go).get? h.objs.size=some go) →
   MadeL P w K mg base cl (k+1) outer H s m ps.length N.length vs (.ref L) { s1 with gens:=s1.gens.push (.fresh (.func body (envOfC qual scope s.heap.objs.size f cdv))),toks:=tk2,heap:=s1.heap.push go }:=by
  intro go nm qn tk2 hgc hgd0 hgs hgp;have isg:∀h:Heap,h.get? L=some go→h.IsGen L s1.gens.size:=fun h e=>⟨go,nm,qn,e,hgc,hgd0,hgs⟩
  have pushed:(s1.heap.push go).get? L=some go:=by rw[←hL];exact hgp _
  have ab:AllBare (s1.gens.push (.fresh (.func body (envOfC qual scope s.heap.objs.size f cdv)))):=AllBare.push (by rw[gen1];exact e0.bare) rfl
  refine⟨L,go,s1.gens.size,_,N,qual,scope,f,cdv,rfl,∅,pushed,(fun v q=>by rw[hgd0]at q;cases q),isg,Array.getElem?_push_size ..,os1,ab,lim1.keeps fun b o e=>Jc _ e,fun b o e=>Jc _ (kp1 b o e),?_⟩
  intro Aw hrw hfr g hg;have e0w:Env0 P w K mg base Aw outer s H:=⟨hfr,e0.mod,e0.bs,e0.bsz,e0.funs,e0.frf,e0.hok,e0.bare⟩;have I1:Inv (gcxOf P w K mg base N qual scope f cdv Aw outer s H (fun _ _ _=>False) []) [] (L2.start N vs) H s1:=inv_startG S hrw.hd e0w hl r x
  have I2:Inv (gcxOf P w K mg base N qual scope f cdv Aw outer s H (fun _ _ _=>False) []) [] (L2.start N vs) H { s1 with gens:=s1.gens.push (.fresh (.func body (envOfC qual scope s.heap.objs.size f cdv))),toks:=tk2,heap:=s1.heap.push go } :=
   I1.call' (ch:=[]) rfl (Un.kept fun b o e=>Jc _ e) (I1.hok.kept fun b o e=>Jc _ e) ab fun b z=>by simp at z
  have hln:ps.length≤N.length:=by have:=congrArg List.length S.pre;rw[List.length_take]at this;omega
  refine⟨fun b hb=>?_,⟨s,H,[],⟨H,0,H⟩,[],0⟩,L2.start N vs,by rw[hg];rfl,by rw[hg];exact I2,fun ws G hw hr2=>zGl hw hln hr2,?_⟩
  ·have lt_L:∀o,s1.heap.get? b=some o→b<L:=fun o e=>by rw[←hL];exact Jp e
   rcases Gf.own_of hb with e|⟨y,e⟩
   ·rw[hg]at e;have e:b=s.heap.objs.size:=e;obtain⟨o,_,_,ho,_⟩:=x.toInCall.ns;rw[e];exact⟨Ju _,JV lt1,o,Jc _ ho⟩
   ·rw[hg]at e;have e':(gcxOf P w K mg base N qual scope f cdv Aw outer s H (fun _ _ _=>False) []).env.cells.lookup y=some b:=e
    obtain⟨v,ob,ho,_⟩:=I1.cell y b e';exact⟨I1.ok.cab y b rfl e',JV (lt_L ob ho),ob,Jc _ ho⟩
  intro W s2 xx G H2 σ0 hw hi hbud hgs S0 acc;have ht:=hbody Aw outer s.heap.objs.size (hrw.deeper _);rw[←hg]at ht;have ev:g.env=envOfC qual scope s.heap.objs.size f cdv:=by rw[hg]
  have gP:g.P=P:=by rw[hg]
  have gw:g.w=w:=by rw[hg]
  have gA:g.A=Aw:=by rw[hg]
  have key:=ht.run W W.Bud s2 s2 (.func body (envOfC qual scope s.heap.objs.size f cdv)) [] (fun f=>.pure (.done (.ret (match f with | .ret v=>v|_=>.none)))) (fun e=>(leaving (envOfC qual scope s.heap.objs.size f cdv) e).wrap (fun _=>.raise e) .raise id id) id id
   xx [] G σ0 [] [] _ H2 ⟨by rw[gA,ev];exact over_func,rfl,rfl,rfl⟩ ⟨Nat.add_zero _,hbud⟩ hi hw hgs (by rw[hg];exact S0) ?_ ?_
  ·refine seg_func ?_
   rw[gP,gw,gA,ev]at key;exact key
  ·generalize m σ0 [] []=r at acc;cases r with
   |no ys=>exact⟨by rw[acc.1];exact Je _,acc.2⟩
   |ok fl σ st ys =>
    cases fl with
    |nx =>
     refine⟨by rw[acc.1];exact Je _,fun n s₀ s3 x' ρ' G' τ' H' fl hn hi' hw' hg' hf=>?_⟩
     obtain⟨rfl,_⟩:=hf;exact seg_end (.ok (.ret .none)) (.inl ⟨.inl rfl,x',ρ',G',st,τ',H',hw',hg',by rw[hi',acc.1],acc.2,by rw[hi'];exact hn.1⟩)
    |rt u =>
     cases u with
     |r i=>exact acc.elim
     |p y =>
      cases y with
      |non =>
       refine⟨by rw[acc.1];exact Je _,fun n s₀ s3 x' ρ' G' τ' H' fl hn hi' hw' hg' hf=>?_⟩
       obtain⟨v,u,hv,hr,rfl⟩:=hf;cases hv;have eu:u=Value.none:=hr;subst eu;exact seg_end (.ok (.ret .none)) (.inl ⟨.inl rfl,x',ρ',G',st,τ',H',hw',hg',by rw[hi',acc.1],acc.2,by rw[hi'];exact hn.1⟩)
      |_=>exact acc.elim
    |bk=>exact acc.elim
    |ct=>exact acc.elim
  ·intro n s₀ e s3 x' hok hx;refine seg_wrap ?_
   have hx:wpAny (model g.P g.w) (g.A.deeper (envOfC g.qual g.scope x'.s0.heap.objs.size g.f g.cd)) (leaving (envOfC g.qual g.scope x'.s0.heap.objs.size g.f g.cd) e) (fun _ s''=>CX g.P g.w g.outer x'.H0 x'.s0 (fun _ _ _=>False) e s''∧∀p∈x'.pn,s''.heap.get? p.1=some p.2) (fun _ _=>False) s3:=hx
   have hok:x'.s0.heap.objs.size=g.n0:=hok;rw[hok]at hx;have ev2:envOfC g.qual g.scope g.n0 g.f g.cd=envOfC qual scope s.heap.objs.size f cdv:=ev;rw[ev2]at hx;rw[over_func];refine Vv hx ?_ ?_
   ·intro _ s4 q;obtain⟨⟨_,_,_,_,_,_,_,_,_,_,_,_,q⟩,_⟩:=q;exact q.elim
   ·exact fun _ s4 q=>q.elim
 exact hL▸main _ _ _ _ rfl rfl rfl fun h=>JC _ rfl
structure Lk (P:Program) (w:World) (K:PySem.W.Frag) (mg:Str→Option Value) (base:Heap) (cl:Cls) (k:Nat) (f:Addr) (ps:List Str) (Nn:Nat) (m:LMn):Prop where
 ex:∃fd,GenL P w K mg base cl k f fd ps Nn m∧Binds K fd ps []
 kp:PySem.W.keepIn K (.ref f)=true
structure FXL (k:Nat) (g:Gf):Prop where
 gx:∀x,g.Ok x→GX g.K (g.X x)
 tk:∀x,g.Ok x→Takes (g.X x) WN
 own:∀x,g.Ok x→PassesOwn (model (g.X x).prog (g.X x).w) (g.X x).A (g.X x).env (g.X x).xe
 rm:∀x,g.Ok x→Room k (g.X x).A
section
variable {K:PySem.W.Frag}{cl:Cls}
theorem Lk.of{P:Program}{w:World}{mg:Str→Option Value}{base:Heap}{N ps:List Str}{x qual:Str}{params:Arguments}{body:List Stmt}{scope:Scope}{f:Addr}{k:Nat}{m:LMn}
  (F:∃fd,FunD K x qual params body scope [] [] f fd) (S:GScope N ps scope) (bd:∀(kV doc pm:Value) (an:Option Addr) (cdv ct:Value) (us:List Value),us.length=ps.length→bindArgs (PySem.W.fnOf x qual params body scope .none kV doc pm an cdv ct) ⟨us,[]⟩=pure (ps.zip us))
  (hb:∀(cd:Value) (A:Around) (outer:List Env) (n0:Nat),FXL k ⟨P,w,K,mg,base,cl,N,qual,scope,f,cd,A,outer,n0⟩→YLs ⟨P,w,K,mg,base,cl,N,qual,scope,f,cd,A,outer,n0⟩ m body) :
  Lk P w K mg base cl (k+1) f ps N.length m:=by
 obtain⟨fd,F⟩:=F;refine⟨⟨fd,?_,F.bindsN bd⟩,F.kp⟩;obtain⟨oc,od,dV,kV,doc,pm,an,cdv,ct,osl,rfl,lk,hcd,_,_⟩:=F.ex;refine zHR lk hcd S fun A outer n0 hr=>hb cdv A outer n0 ⟨fun y hy=>?_,fun y hy=>takes_gcx,fun y hy=>owns_gcx,fun y hy=>?_⟩
 ·have eA:=Gf.AX hy;refine⟨rfl,rfl,S.nd,?_,?_⟩
  ·rw[eA]
   have:=hr.un
   show(A.deeper (envOfC qual scope n0 f cdv)).units+65<cLine;omega
  ·rw[eA];exact hr.hd
 ·rw[Gf.AX hy];exact hr
end
section
variable {K:PySem.W.Frag}{cl:Cls}{E0 E1:En}{ρ ρg ρg' ρ':List Addr}{G G':Hp}{st stg stg' st':List Cell}{H H':Hp}
def Dsj(E0:En) (ρ ρg:List Addr):Prop:=∀b∈ρg,(∀j:Nat,ρ[j]?≠some b)∧E0.H0 b=none
def trk(H:Hp) (L:List Addr) (h:Heap):Hp:=fun b=>if b∈L then(h.get? b).map (exq b)else H b
theorem trk_in{L:List Addr}{h:Heap}{b:Addr} (m:b∈L){o:Obj} (e:h.get? b=some o):trk H L h b=some (exq b o):=by
 unfold trk;rw[JN m,e];rfl
theorem zE1{L:List Addr}{h:Heap}{b:Addr} (m:b∉L):trk H L h b=H b:=J9 m
def zHU(E0:En) (Hb:Hp) (L ρg:List Addr) (G:Hp):En:=⟨fun b=>if b∈L++ρg then Hb b else E0.H0 b,E0.n0,G⟩
theorem Rel.body{L:List Addr}{h:Heap} (R:Rel K cl E0 ρ G st H) (Rg:Rel K cl E1 ρg G stg H) (d:Dsj E0 ρ ρg) (hL:∀b∈L,H b=none∧∃o,h.get? b=some o):Rel K cl (zHU E0 (trk H L h) L ρg G) ρ G st (trk H L h):=by
 have off:∀a u,H a=some u→a∉L:=fun a u e m=>by rw[(hL a m).1]at e;cases e
 have up:∀a u,H a=some u→trk H L h a=some u:=fun a u e=>by rw[zE1 (off a u e)];exact e
 have at_:∀(i:Nat) a,ρ[i]?=some a→a∉L++ρg:=fun i a e m=>by
  rcases List.mem_append.mp m with m|m
  ·obtain⟨o,q⟩:=R.there e;exact off a o q m
  ·exact(d a m).1 i e
 have hin:∀a,a∈L++ρg→(zHU E0 (trk H L h) L ρg G).H0 a=trk H L h a:=fun a m=>JN m
 have hout:∀a,a∉L++ρg→(zHU E0 (trk H L h) L ρg G).H0 a=E0.H0 a:=fun a m=>J9 m
 refine⟨R.len,R.nd,fun i c a e1 e2=>?_,R.sep,fun a u e=>up a u (R.sub a u e),fun a u e q=>?_,fun i a hi e=>?_,R.n0,fun a o e=>.inl e,fun a u e=>?_,R.gnt,fun q hq=>(R.tabs q hq).ext up⟩
 ·obtain⟨o,q⟩:=R.there e2;exact(R.cell i c a e1 e2).mono (Je _) (Sub.refl _) ((up a o q).trans q.symm)
 ·by_cases m:a∈L++ρg
  ·rw[hin a m]at e;exact e
  ·rw[hout a m]at e;exact up a u (R.old a u e q)
 ·rw[hout a (at_ i a e)];exact R.new i a hi e
 ·by_cases m:a∈L++ρg
  ·rw[hin a m]at e
   by_cases m2:a∈L
   ·obtain⟨o,q⟩:=(hL a m2).2;rw[trk_in m2 q]at e;cases e;exact fun ps z=>nomatch z
   ·rw[zE1 m2]at e;have m3:a∈ρg:=(List.mem_append.mp m).resolve_left m2;obtain⟨j,hj⟩:=JH m3;intro ps z;subst z;exact(Rg.tblF e).1 j hj
  ·rw[hout a m]at e;exact R.ent a u e
end
structure Lp where
 K:PySem.W.Frag
 cl:Cls
 X:Cx
 Wx:WX
 E0:En
 pins:List (Addr×Obj)
 ρ1:List Addr
 G1:Hp
 kont:Nat→Sg→List Cell→SR
 D:Ends
 g:Gf
 a:Addr
 go:Obj
 gi:Nat
 xs:List Addr
 yf:List P
 fin:Bool
section
open GenW GT
section
variable {L:Lp}{i:Nat}{ρ ρg:List Addr}{G H:Hp}{σ σg:Sg}{st stg:List Cell}{τ τg:L2.St}{gs:GenState}{s:Shared}
def Lp.obs(L:Lp):List Addr:=L.a::(L.g.own++L.xs)
end
end
section
open PySem.W PySem.Calls HandSHeadRun
noncomputable section
variable {fa fb:List He.Fa}{fn fm:List He.DefD}{ts:List He.Tab}{tf:List He.Defn}{ex:PySem.W.Frag→Bool}{es:List DefE}
theorem zEv{as:List Addr}{w:World}{h:Heap}
  (e:((fun K:PySem.W.Frag=>(((He.obsT fa fn ts K,ex K&&He.tabsB h.get? tf K),(es.all fun d=>d.okB K),es.map fun d=>fnE K (d.at_ K)):AlE)) (He.frT h.get? as))=zGa fn ts es w):SaysE fa fn ts tf ex es w h (He.frT h.get? as):=by
 generalize hK:He.frT h.get? as=K at *
 have e1:He.obsT fa fn ts K=He.valT fn ts w:=congrArg (fun z:AlE=>z.1.1) e
 have e2:(ex K&&He.tabsB h.get? tf K)=true:=congrArg (fun z:AlE=>z.1.2) e
 have e3:(es.all fun d=>d.okB K)=true:=congrArg (fun z:AlE=>z.2.1) e
 have e4:(es.map fun d=>fnE K (d.at_ K))=es.map DefE.val:=congrArg (fun z:AlE=>z.2.2) e
 rw[Jh]at e2
 have key:∀p∈tf,PySem.W.codeHdIn K (He.cT K p).1 (He.cT K p).2=true∧∃o,h.get? (He.cT K p).2=some o∧He.emptyTab o=true:=fun p hp=>by
  have z:=Js.mp e2.2 p hp;rw[Jh]at z;refine⟨z.1,?_⟩;have z2:=z.2;cases q:h.get? (He.cT K p).2 with
  |none=>rw[q]at z2;cases z2
  |some o=>rw[q]at z2;exact⟨o,rfl,z2⟩
 refine⟨⟨e1,e2.1,fun p hp=>(key p hp).1,fun p hp=>?_,fun p hp=>?_⟩,e4,e3⟩
 ·obtain⟨_,o,q,z⟩:=key p hp
  have:=He.frT_none (as:=as) q z
  rw[hK]at this;exact this
 ·obtain⟨_,o,q,z⟩:=key p hp;rw[q,He.emptyTab_eq z]
def refV:Value→List Addr
 | .ref a=>[a]
 |_=>[]
def refO(o:Obj):List Addr:=match o.data with
 | .func e=>refV e.code++(refV e.defaults++(refV e.kwdefaults++e.closure.map (·.2)))
 | .cls c=>[c.ns]
 | .dict es _=>es.toList.flatMap fun e=>refV e.val
 | .seq xs _=>xs.toList.flatMap refV
 | .fields vs=>(match o.cls with
  | .type "code" => []
  | .none=>[]
  |_=>vs.toList.flatMap refV)
 | .cell v=>(match v with
  |some v=>refV v
  |none=>[])
 | .prim v=>refV v
 |_=>[]
def lvlR(g:Addr→Option Obj) (l:List Addr):List Addr:=l.flatMap fun a=>match g a with
 |some o=>refO o
 |none=>[]
def upR(g:Addr→Option Obj):Nat→List Addr→List Addr
 |0,l=>l
 |n+1,l=>l++upR g n (lvlR g l)
def asR(g:Addr→Option Obj):List Addr:=cStatics::upR g 5 [mainGlobals]
def frR(g:Addr→Option Obj):PySem.W.Frag:=He.frT g (asR g)
def obsR(fa:List He.Fa) (fn:List He.DefD) (ts:List He.Tab) (tf:List He.Defn) (ex:PySem.W.Frag→Bool) (es:List DefE) (g:Addr→Option Obj):AlE :=
 (fun K:PySem.W.Frag=>(((He.obsT fa fn ts K,ex K&&He.tabsB g tf K),(es.all fun d=>d.okB K),es.map fun d=>fnE K (d.at_ K)):AlE)) (frR g)
def zHB(fa:List He.Fa) (fn:List He.DefD) (ts:List He.Tab) (tf:List He.Defn) (ex:PySem.W.Frag→Bool) (es:List DefE):PySem.W.Hook where
 α:=AlE
 obs:=fun s=>obsR fa fn ts tf ex es s.heap.get?
 val:=fun w=>zGa fn ts es w
 says:=fun w h=>∃K:PySem.W.Frag,K.In h∧SaysE fa fn ts tf ex es w h K
 of:=fun _ _ e=>⟨_,He.frT_in,zEv e⟩
 keeps:=fun _ _ _ ⟨K,hK,c⟩ k=>⟨K,PySem.W.Frag.In.keeps hK k,⟨⟨c.x.t,c.x.more,c.x.hd,c.x.out,fun p hp=>k _ _ (c.x.empty p hp)⟩,c.e,c.ok⟩⟩
def obR(fa:List He.Fa) (fn:List He.DefD) (ts:List He.Tab) (tf:List He.Defn) (ex:PySem.W.Frag→Bool) (es:List DefE) (s:PySem.W.SharedT):AlE:=obsR fa fn ts tf ex es (getT s)
theorem obR_eq(s:PySem.W.SharedT):obR fa fn ts tf ex es s=(zHB fa fn ts tf ex es).obs s.abs:=by
 have e:getT s=s.abs.heap.get?:=funext (getT_eq s);show obsR fa fn ts tf ex es (getT s)=obsR fa fn ts tf ex es s.abs.heap.get?;rw[e]
def hFaR(fa:List He.Fa) (s:PySem.W.SharedT):Bool:=(fun K:PySem.W.Frag=>fa.all fun f=>f.ok K) (frR (getT s))
def hFnR(fn:List He.DefD) (s:PySem.W.SharedT):He.AlD:=(fun K:PySem.W.Frag=>(fn.all fun d=>d.ok K,fn.map fun d=>He.fnW K d.at_)) (frR (getT s))
def zDj(ts:List He.Tab) (tf:List He.Defn) (ex:PySem.W.Frag→Bool) (es:List DefE) (s:PySem.W.SharedT):(List (Option (List (Option (PySem.Str×Int))))×Bool)×(Bool×List FnE) :=
 (fun K:PySem.W.Frag=>((ts.map fun t=>He.dicW K (t.1 K),ex K&&He.tabsB (getT s) tf K),(es.all fun d=>d.okB K),es.map fun d=>fnE K (d.at_ K))) (frR (getT s))
variable {r:OpenRow}{M:Nat}{w:World}
theorem zDN(a:RunH r M w (hFaR fa) true) (b:RunH r M w (hFnR fn) (He.valD fn)) (c:RunH r M w (zDj ts tf ex es) (zFE ts es w)):RunB r (zHB fa fn ts tf ex es) (obR fa fn ts tf ex es) M w:=fun os=>by
 obtain⟨s,e,h1,h2⟩:=two2 (a os) (b os);have h3:=c os;rw[e]at h3 ⊢;have h3:zDj ts tf ex es s=zFE ts es w:=Jb h3;show some (obR fa fn ts tf ex es s)=some (zGa fn ts es w)
 congr 1
 unfold hFaR at h1;dsimp only at h1;unfold hFnR He.valD at h2;unfold zDj zFE at h3;unfold obR obsR zGa He.valX He.valT He.valD He.obsT He.obsD;simp only[VN]at h2 h3 ⊢;obtain⟨⟨h4,h5⟩,h6,h7⟩:=h3;exact⟨⟨⟨⟨by rw[h1,h2.1];rfl,h2.2⟩,h4⟩,h5⟩,h6,h7⟩
end
end
theorem rm{j k:Nat}{A:Around} (r:Room k A) (h:j≤k:=by decide):Room j A:=r.mono h
section
variable {X:Cx}{CX:CXT}{k:Nat}{f:Addr}{fd:FuncData}{ps:List Str}{sp:Sp}{x:Str}{p pos:Pos}{e tg:Expr}{es:List Expr}{t:TA}{te:TE}{g:TG}{E:XK}{ds:List Value}{dvs:List V}
theorem PAT.of(h:PA X es t):PAT X es t:=fun pos pins s σ H Q _ I q=>h.run pos pins s σ H Q I q
end
section
open PySem.W (ksFn ksEnv)
def zH3:List Value→List Value
 | .ref _::r=>zH3 r
 |l=>l
def zHb(newId:String) (tl:List Value) (C:Addr):Value→Data→List (Option Value)→Bool
 | .type "type",.cls cd,sl=>(match cd.mro,sl with
  | .ref c::bm,[_,_,_,_,some (.builtin n),_]=>decide (c=C)&&decide (n=newId) && !cd.hasDel&&cd.hasDict&&(zH3 bm==tl)
  |_,_=>false)
 |_,_,_=>false
def zHV(newId:String) (tl:List Value) (K:PySem.W.Frag) (C:Addr):Bool:=((K.lookup C).any fun o=>zHb newId tl C o.cls o.data o.slots.toList)&&He.eqO (PySem.W.findIn K (.ref C) "__setattr__") (some (some (.builtin "object.__setattr__")))&&decide (PySem.W.subIn K (.ref C) (.type "BaseException")=some true)&&decide (PySem.W.typeIn K (.ref C)=some (.type "type"))&&PySem.W.keepIn K (.ref C)
def zA9(B newId initId:String) (tl:List Value) (K:PySem.W.Frag) (x z:Str) (g:Option Str):Bool:=zHV newId tl K (He.ga K x)&&xfB K (He.ga K x)&&He.eqO (PySem.W.findIn K (.ref (He.ga K x)) "tag") (some none)&&(g.all fun f=>He.eqO (PySem.W.findIn K (.ref (He.ga K x)) f) (some none) && !(f==("tag" : Str))) &&
 He.eqO (PySem.W.findIn K (.ref (He.ga K x)) "__init__") (some (some (.ref (He.ma K (He.ga K x) "__init__"))))&&decide (PySem.W.typeIn K (.ref (He.ma K (He.ga K x) "__init__"))=some (.type "function")) &&
 ((zGH K (He.ma K (He.ga K x) "__init__")).any fun q=>zEe K q.1 (He.ga K x)&&zEc K q.2 z)&&He.eqO (PySem.W.ks_superIn K (He.ga K x) (He.ga K x) "__init__") (some (some (.builtin initId))) &&
 decide (PySem.W.mroIn K (He.ga K x) (.ref (He.ga K x))=some true)&&decide (PySem.W.subIn K (.ref (He.ga K x)) (.type B)=some true)&&He.eqO (PySem.W.nsIn K cStatics "thirdparty.any") (some none)
end
def zHP(K:PySem.W.Frag) (D:Addr):Bool:=He.eqO (PySem.W.findIn K (.ref D) "__getattribute__") (some (some (.builtin "BaseException.__getattribute__")))&&He.eqO (PySem.W.findIn K (.ref D) "__getattr__") (some none)&&decide (PySem.W.subIn K (.ref D) (.type "BaseException")=some true)&&PySem.W.hasDictIn K D &&
 He.eqO (PySem.W.findIn K (.ref D) "__class__") (some (some (.builtin "object.__class__")))&&He.eqO (PySem.W.specialIn K (.builtin "object.__class__") "__get__") (some (some (.builtin "getset_descriptor.__get__")))&&decide (PySem.W.takesIn K (.builtin "object.__class__")=some true)&&decide (PySem.W.mroIn K D (.type "object")=some true)
def zHM(K:PySem.W.Frag) (l:List (Nat×Str)):Bool:=l.all fun q=>zHP K (He.ga K q.2)
def zAL(K:PySem.W.Frag) (l:List (Nat×Str)) (bs:List Bool) (cv:Value):Bool:=(l.zip bs).all fun q=>decide (PySem.W.kitOne K (.ref (He.ga K q.1.2)) cv=some q.2)
end Y
namespace YZ
end YZ
namespace YS
end YS
namespace K74
open Y YZ YS
def top(i:Nat):Stmt:=PySem.Challenge.pw_sharesay_k74_error_classes.main.body.getD i (.Pass ⟨0,0,0,0⟩)
def clsB:Stmt→List Stmt
 | .ClassDef (body:=b) .. => b
 |_=>[]
abbrev zBL:Stmt:=(top 32)
abbrev zA2:Stmt:=(top 33)
abbrev zBo:Stmt:=(top 34)
abbrev zAO:Stmt:=(top 36)
abbrev zA3:Stmt:=(top 35)
abbrev zAX:Stmt:=(top 37)
abbrev zD2:Stmt:=(top 38)
abbrev zAd:Stmt:=((clsB (top 3)).getD 0 (.Pass ⟨0,0,0,0⟩))
abbrev zA1:DefE:=⟨fun K=>He.ma K (He.ga K "InvalidLetters") "__init__", "__init__", "InvalidLetters.__init__",defArgs zAd,defBody zAd,defScope zAd,["__class__"]⟩
abbrev zA5:Stmt:=((clsB (top 4)).getD 0 (.Pass ⟨0,0,0,0⟩))
abbrev zBj:DefE:=⟨fun K=>He.ma K (He.ga K "InvalidArc") "__init__", "__init__", "InvalidArc.__init__",defArgs zA5,defBody zA5,defScope zA5,["__class__"]⟩
abbrev zAp:Stmt:=((clsB (top 5)).getD 0 (.Pass ⟨0,0,0,0⟩))
abbrev zBK:DefE:=⟨fun K=>He.ma K (He.ga K "NotConnected") "__init__", "__init__", "NotConnected.__init__",defArgs zAp,defBody zAp,defScope zAp,["__class__"]⟩
abbrev zAx:Stmt:=((clsB (top 6)).getD 0 (.Pass ⟨0,0,0,0⟩))
abbrev zBc:DefE:=⟨fun K=>He.ma K (He.ga K "InvalidNode") "__init__", "__init__", "InvalidNode.__init__",defArgs zAx,defBody zAx,defScope zAx,["__class__"]⟩
abbrev zAn:Stmt:=((clsB (top 7)).getD 0 (.Pass ⟨0,0,0,0⟩))
abbrev zBU:DefE:=⟨fun K=>He.ma K (He.ga K "InvalidOrder") "__init__", "__init__", "InvalidOrder.__init__",defArgs zAn,defBody zAn,defScope zAn,["__class__"]⟩
abbrev zA4:Stmt:=((clsB (top 8)).getD 0 (.Pass ⟨0,0,0,0⟩))
abbrev zBq:DefE:=⟨fun K=>He.ma K (He.ga K "InvalidWay") "__init__", "__init__", "InvalidWay.__init__",defArgs zA4,defBody zA4,defScope zA4,["__class__"]⟩
abbrev zBQ:Stmt:=((clsB (top 9)).getD 0 (.Pass ⟨0,0,0,0⟩))
abbrev zCH:DefE:=⟨fun K=>He.ma K (He.ga K "NotOfWay") "__init__", "__init__", "NotOfWay.__init__",defArgs zBQ,defBody zBQ,defScope zBQ,["__class__"]⟩
abbrev zAf:Stmt:=((clsB (top 10)).getD 0 (.Pass ⟨0,0,0,0⟩))
abbrev zBI:DefE:=⟨fun K=>He.ma K (He.ga K "InvalidRounds") "__init__", "__init__", "InvalidRounds.__init__",defArgs zAf,defBody zAf,defScope zAf,["__class__"]⟩
abbrev zBT:Stmt:=((clsB (top 11)).getD 0 (.Pass ⟨0,0,0,0⟩))
abbrev zCF:DefE:=⟨fun K=>He.ma K (He.ga K "NotKnown") "__init__", "__init__", "NotKnown.__init__",defArgs zBT,defBody zBT,defScope zBT,["__class__"]⟩
abbrev zAj:Stmt:=((clsB (top 12)).getD 0 (.Pass ⟨0,0,0,0⟩))
abbrev zBG:DefE:=⟨fun K=>He.ma K (He.ga K "InvalidShifts") "__init__", "__init__", "InvalidShifts.__init__",defArgs zAj,defBody zAj,defScope zAj,["__class__"]⟩
abbrev zAg:Stmt:=((clsB (top 13)).getD 0 (.Pass ⟨0,0,0,0⟩))
abbrev zBB:DefE:=⟨fun K=>He.ma K (He.ga K "InvalidSheets") "__init__", "__init__", "InvalidSheets.__init__",defArgs zAg,defBody zAg,defScope zAg,["__class__"]⟩
abbrev zAh:Stmt:=((clsB (top 14)).getD 0 (.Pass ⟨0,0,0,0⟩))
abbrev zBH:DefE:=⟨fun K=>He.ma K (He.ga K "InvalidCounts") "__init__", "__init__", "InvalidCounts.__init__",defArgs zAh,defBody zAh,defScope zAh,["__class__"]⟩
abbrev zAc:Stmt:=((clsB (top 15)).getD 0 (.Pass ⟨0,0,0,0⟩))
abbrev zAv:DefE:=⟨fun K=>He.ma K (He.ga K "InvalidQuestion") "__init__", "__init__", "InvalidQuestion.__init__",defArgs zAc,defBody zAc,defScope zAc,["__class__"]⟩
abbrev zBZ:Stmt:=((clsB (top 16)).getD 0 (.Pass ⟨0,0,0,0⟩))
abbrev zCZ:DefE:=⟨fun K=>He.ma K (He.ga K "TooMany") "__init__", "__init__", "TooMany.__init__",defArgs zBZ,defBody zBZ,defScope zBZ,["__class__"]⟩
abbrev zAw:Stmt:=((clsB (top 17)).getD 0 (.Pass ⟨0,0,0,0⟩))
abbrev zBa:DefE:=⟨fun K=>He.ma K (He.ga K "InvalidText") "__init__", "__init__", "InvalidText.__init__",defArgs zAw,defBody zAw,defScope zAw,["__class__"]⟩
abbrev zBe:Stmt:=((clsB (top 18)).getD 0 (.Pass ⟨0,0,0,0⟩))
abbrev zCc:DefE:=⟨fun K=>He.ma K (He.ga K "TooWide") "__init__", "__init__", "TooWide.__init__",defArgs zBe,defBody zBe,defScope zBe,["__class__"]⟩
abbrev zAs:Stmt:=((clsB (top 19)).getD 0 (.Pass ⟨0,0,0,0⟩))
abbrev zBb:DefE:=⟨fun K=>He.ma K (He.ga K "NotAnswered") "__init__", "__init__", "NotAnswered.__init__",defArgs zAs,defBody zAs,defScope zAs,["__class__"]⟩
abbrev zAr:Stmt:=((clsB (top 20)).getD 0 (.Pass ⟨0,0,0,0⟩))
abbrev zBM:DefE:=⟨fun K=>He.ma K (He.ga K "InvalidRules") "__init__", "__init__", "InvalidRules.__init__",defArgs zAr,defBody zAr,defScope zAr,["__class__"]⟩
abbrev zBf:Stmt:=((clsB (top 21)).getD 0 (.Pass ⟨0,0,0,0⟩))
abbrev zCT:DefE:=⟨fun K=>He.ma K (He.ga K "TooLong") "__init__", "__init__", "TooLong.__init__",defArgs zBf,defBody zBf,defScope zBf,["__class__"]⟩
abbrev zAt:Stmt:=((clsB (top 22)).getD 0 (.Pass ⟨0,0,0,0⟩))
abbrev zBd:DefE:=⟨fun K=>He.ma K (He.ga K "InvalidName") "__init__", "__init__", "InvalidName.__init__",defArgs zAt,defBody zAt,defScope zAt,["__class__"]⟩
abbrev zAi:Stmt:=((clsB (top 23)).getD 0 (.Pass ⟨0,0,0,0⟩))
abbrev zBE:DefE:=⟨fun K=>He.ma K (He.ga K "DuplicateName") "__init__", "__init__", "DuplicateName.__init__",defArgs zAi,defBody zAi,defScope zAi,["__class__"]⟩
abbrev zBF:Stmt:=((clsB (top 24)).getD 0 (.Pass ⟨0,0,0,0⟩))
abbrev zB4:DefE:=⟨fun K=>He.ma K (He.ga K "WrongKind") "__init__", "__init__", "WrongKind.__init__",defArgs zBF,defBody zBF,defScope zBF,["__class__"]⟩
abbrev zAa:Stmt:=((clsB (top 25)).getD 0 (.Pass ⟨0,0,0,0⟩))
abbrev zAo:DefE:=⟨fun K=>He.ma K (He.ga K "CapacityExceeded") "__init__", "__init__", "CapacityExceeded.__init__",defArgs zAa,defBody zAa,defScope zAa,["__class__"]⟩
abbrev zAm:Stmt:=((clsB (top 26)).getD 0 (.Pass ⟨0,0,0,0⟩))
abbrev zBW:DefE:=⟨fun K=>He.ma K (He.ga K "InvalidLimit") "__init__", "__init__", "InvalidLimit.__init__",defArgs zAm,defBody zAm,defScope zAm,["__class__"]⟩
abbrev zAe:Stmt:=((clsB (top 27)).getD 0 (.Pass ⟨0,0,0,0⟩))
abbrev zA6:DefE:=⟨fun K=>He.ma K (He.ga K "InvalidCommand") "__init__", "__init__", "InvalidCommand.__init__",defArgs zAe,defBody zAe,defScope zAe,["__class__"]⟩
abbrev zA0:Stmt:=((clsB (top 28)).getD 0 (.Pass ⟨0,0,0,0⟩))
abbrev zBr:DefE:=⟨fun K=>He.ma K (He.ga K "ParseError") "__init__", "__init__", "ParseError.__init__",defArgs zA0,defBody zA0,defScope zA0,["__class__"]⟩
abbrev zAy:Stmt:=((clsB (top 29)).getD 0 (.Pass ⟨0,0,0,0⟩))
abbrev zBg:DefE:=⟨fun K=>He.ma K (He.ga K "UnknownName") "__init__", "__init__", "UnknownName.__init__",defArgs zAy,defBody zAy,defScope zAy,["__class__"]⟩
abbrev zAu:Stmt:=((clsB (top 30)).getD 0 (.Pass ⟨0,0,0,0⟩))
abbrev zBh:DefE:=⟨fun K=>He.ma K (He.ga K "NothingLeft") "__init__", "__init__", "NothingLeft.__init__",defArgs zAu,defBody zAu,defScope zAu,["__class__"]⟩
def cl(K:PySem.W.Frag) (fr:List (Str×List (Str×Addr))):Cls := { l:=[(0,([]:List Str)),(0,([]:List Str)),(0,([]:List Str)),(0,([]:List Str)),(0,([]:List Str)),(0,([]:List Str)),(0,([]:List Str)),(0,([]:List Str)),(0,([]:List Str)),(0,([]:List Str)),(0,([]:List Str)),(0,([]:List Str)),(0,([]:List Str)),(0,([]:List Str)),(0,([]:List Str)),(0,([]:List Str)),(0,([]:List Str)),(He.ga K "InvalidLetters",(["tag"]:List Str)),(He.ga K "InvalidArc",(["index", "tag"]:List Str)),(He.ga K "NotConnected",(["tag"]:List Str)),(He.ga K "InvalidNode",(["given", "tag"]:List Str)),(He.ga K "InvalidOrder",(["tag"]:List Str)),(He.ga K "InvalidWay",(["given", "tag"]:List Str)),(He.ga K "NotOfWay",(["given", "tag"]:List Str)),(He.ga K "InvalidRounds",(["given", "tag"]:List Str)),(He.ga K "NotKnown",(["tag"]:List Str)),(He.ga K "InvalidShifts",(["tag"]:List Str)),(He.ga K "InvalidSheets",(["given", "tag"]:List Str)),(He.ga K "InvalidCounts",(["tag"]:List Str)),(He.ga K "InvalidQuestion",(["tag"]:List Str)),(He.ga K "TooMany",(["most", "tag"]:List Str)),(He.ga K "InvalidText",(["tag"]:List Str)),(He.ga K "TooWide",(["most", "tag"]:List Str)),(He.ga K "NotAnswered",(["given", "tag"]:List Str)),(He.ga K "InvalidRules",(["index", "tag"]:List Str)),(He.ga K "TooLong",(["most", "tag"]:List Str)),(He.ga K "InvalidName",(["name", "tag"]:List Str)),(He.ga K "DuplicateName",(["name", "tag"]:List Str)),(He.ga K "WrongKind",(["name", "tag"]:List Str)),(He.ga K "CapacityExceeded",(["limit", "tag"]:List Str)),(He.ga K "InvalidLimit",(["limit", "tag"]:List Str)),(He.ga K "InvalidCommand",(["word", "tag"]:List Str)),(He.ga K "ParseError",(["line", "tag"]:List Str)),(He.ga K "UnknownName",(["name", "tag"]:List Str)),(He.ga K "NothingLeft",(["tag"]:List Str))],tb:=[],lm:=[],fr:=fr }
theorem clsm{K:PySem.W.Frag}{fr:List (Str×List (Str×Addr))}:∀(c:Nat) (C:Addr) (ns:List Str),(cl K fr)[c]?=some (C,ns)→ns.length<1000:=by
 intro c C ns h;have hm:=Jj h;simp only[cl,Jl,Jq,J3]at hm;rcases hm with hm|hm|hm|hm|hm|hm|hm|hm|hm|hm|hm|hm|hm|hm|hm|hm|hm|hm|hm|hm|hm|hm|hm|hm|hm|hm|hm|hm|hm|hm|hm|hm|hm|hm|hm|hm|hm|hm|hm|hm|hm|hm|hm|hm|hm<;>(cases hm;decide)
theorem fld1{K:PySem.W.Frag}{cl:Cls}{fn:Str}{c i:Nat} (h:FldAt K cl fn c i):∀q∈[(c,i)],FldAt K cl fn q.1 q.2:=fun q m=>by
 have e:q=(c,i):=by simpa using m
 rw[e];exact h
def fa0:List He.Fa:=([.glo "_law_bag",.glo "_law_pull",.glo "_law_of",.glo "_law_made_errors",.glo "_law_same",.glo "_law_kinds_of",.glo "law",.glo "NotAnswered",.glo "InvalidSheets",.glo "InvalidRounds",.glo "NotOfWay",.glo "InvalidWay"]:List He.Fa)++([.glo "InvalidNode",.glo "UnknownName",.glo "WrongKind",.glo "DuplicateName",.glo "InvalidName",.glo "ParseError",.glo "InvalidCommand",.glo "InvalidLimit",.glo "CapacityExceeded",.glo "NothingLeft",.glo "InvalidText",.glo "InvalidQuestion"]:List He.Fa)++([.glo "InvalidCounts",.glo "InvalidShifts",.glo "NotKnown",.glo "InvalidOrder",.glo "NotConnected",.glo "InvalidLetters",.glo "TooLong",.glo "TooWide",.glo "TooMany",.glo "InvalidRules",.glo "InvalidArc",.glo "Missing"]:List He.Fa)++([.glo "SayError",.free "IndexError",.free "LookupError",.free "ValueError",.free "all",.free "bool",.free "int",.free "isinstance",.free "len",.free "list",.free "str",.free "sum"]:List He.Fa)++([.free "super",.free "tuple",.free "zip"]:List He.Fa)
def fa:List He.Fa:=fa0
def fn0:List He.DefD:=([⟨("_law_bag",none), "_law_bag", "_law_bag",defArgs zBL,defBody zBL,defScope zBL,[],[]⟩,⟨("_law_pull",none), "_law_pull", "_law_pull",defArgs zA2,defBody zA2,defScope zA2,[],[]⟩,⟨("_law_of",none), "_law_of", "_law_of",defArgs zBo,defBody zBo,defScope zBo,[],[]⟩,⟨("_law_made_errors",none), "_law_made_errors", "_law_made_errors",defArgs zAO,defBody zAO,defScope zAO,[],[]⟩,⟨("_law_same",none), "_law_same", "_law_same",defArgs zA3,defBody zA3,defScope zA3,[],[]⟩,⟨("_law_kinds_of",none), "_law_kinds_of", "_law_kinds_of",defArgs zAX,defBody zAX,defScope zAX,[],[]⟩,⟨("law",none), "law", "law",defArgs zD2,defBody zD2,defScope zD2,[],[]⟩]:List He.DefD)
def fn:List He.DefD:=fn0
def ts:List He.Tab:=[]
def es:List DefE:=[zA1,zBj,zBK,zBc,zBU,zBq,zCH,zBI,zCF,zBG,zBB,zBH,zAv,zCZ,zBa,zCc,zBb,zBM,zCT,zBd,zBE,zB4,zAo,zBW,zA6,zBr,zBg,zBh]
def tf:List He.Defn:=[]
def exl(K:PySem.W.Frag):List Bool:=[excB K "InvalidLetters" "/claim/cut.py" none,excB K "InvalidArc" "/claim/cut.py" (some "index"),excB K "NotConnected" "/claim/cut.py" none,excB K "InvalidNode" "/claim/cut.py" (some "given"),excB K "InvalidOrder" "/claim/cut.py" none,zA9 "ValueError" "ValueError.__new__" "ValueError.__init__" [.type "ValueError",.type "Exception",.type "BaseException",.type "object"] K "InvalidWay" "/claim/cut.py" (some "given"),excB K "NotOfWay" "/claim/cut.py" (some "given"),excB K "InvalidRounds" "/claim/cut.py" (some "given"),excB K "NotKnown" "/claim/cut.py" none,excB K "InvalidShifts" "/claim/cut.py" none,excB K "InvalidSheets" "/claim/cut.py" (some "given"),excB K "InvalidCounts" "/claim/cut.py" none,excB K "InvalidQuestion" "/claim/cut.py" none,excB K "TooMany" "/claim/cut.py" (some "most"),excB K "InvalidText" "/claim/cut.py" none,zA9 "ValueError" "ValueError.__new__" "ValueError.__init__" [.type "ValueError",.type "Exception",.type "BaseException",.type "object"] K "TooWide" "/claim/cut.py" (some "most"),excB K "NotAnswered" "/claim/cut.py" (some "given"),zA9 "ValueError" "ValueError.__new__" "ValueError.__init__" [.type "ValueError",.type "Exception",.type "BaseException",.type "object"] K "InvalidRules" "/claim/cut.py" (some "index"),excB K "TooLong" "/claim/cut.py" (some "most"),excB K "InvalidName" "/claim/cut.py" (some "name"),excB K "DuplicateName" "/claim/cut.py" (some "name"),zA9 "ValueError" "ValueError.__new__" "ValueError.__init__" [.type "ValueError",.type "Exception",.type "BaseException",.type "object"] K "WrongKind" "/claim/cut.py" (some "name"),excB K "CapacityExceeded" "/claim/cut.py" (some "limit"),zA9 "ValueError" "ValueError.__new__" "ValueError.__init__" [.type "ValueError",.type "Exception",.type "BaseException",.type "object"] K "InvalidLimit" "/claim/cut.py" (some "limit"),zA9 "ValueError" "ValueError.__new__" "ValueError.__init__" [.type "ValueError",.type "Exception",.type "BaseException",.type "object"] K "InvalidCommand" "/claim/cut.py" (some "word"),zA9 "ValueError" "ValueError.__new__" "ValueError.__init__" [.type "ValueError",.type "Exception",.type "BaseException",.type "object"] K "ParseError" "/claim/cut.py" (some "line"),zA9 "LookupError" "LookupError.__new__" "LookupError.__init__" [.type "LookupError",.type "Exception",.type "BaseException",.type "object"] K "UnknownName" "/claim/cut.py" (some "name"),zA9 "IndexError" "IndexError.__new__" "IndexError.__init__" [.type "IndexError",.type "LookupError",.type "Exception",.type "BaseException",.type "object"] K "NothingLeft" "/claim/cut.py" none,zHM K [(17, "InvalidLetters"),(18, "InvalidArc"),(19, "NotConnected"),(20, "InvalidNode"),(21, "InvalidOrder"),(22, "InvalidWay"),(23, "NotOfWay"),(24, "InvalidRounds"),(25, "NotKnown"),(26, "InvalidShifts"),(27, "InvalidSheets"),(28, "InvalidCounts"),(29, "InvalidQuestion"),(30, "TooMany"),(31, "InvalidText"),(32, "TooWide"),(33, "NotAnswered"),(34, "InvalidRules"),(35, "TooLong"),(36, "InvalidName"),(37, "DuplicateName"),(38, "WrongKind"),(39, "CapacityExceeded"),(40, "InvalidLimit"),(41, "InvalidCommand"),(42, "ParseError"),(43, "UnknownName"),(44, "NothingLeft")],zAL K [(17, "InvalidLetters"),(18, "InvalidArc"),(19, "NotConnected"),(20, "InvalidNode"),(21, "InvalidOrder"),(22, "InvalidWay"),(23, "NotOfWay"),(24, "InvalidRounds"),(25, "NotKnown"),(26, "InvalidShifts"),(27, "InvalidSheets"),(28, "InvalidCounts"),(29, "InvalidQuestion"),(30, "TooMany"),(31, "InvalidText"),(32, "TooWide"),(33, "NotAnswered"),(34, "InvalidRules"),(35, "TooLong"),(36, "InvalidName"),(37, "DuplicateName"),(38, "WrongKind"),(39, "CapacityExceeded"),(40, "InvalidLimit"),(41, "InvalidCommand"),(42, "ParseError"),(43, "UnknownName"),(44, "NothingLeft")] [false,false,false,false,false,false,false,false,false,false,false,false,false,false,false,false,true,false,false,false,false,false,false,false,false,false,false,false] (.ref (He.ga K "NotAnswered")),zAL K [(17, "InvalidLetters"),(18, "InvalidArc"),(19, "NotConnected"),(20, "InvalidNode"),(21, "InvalidOrder"),(22, "InvalidWay"),(23, "NotOfWay"),(24, "InvalidRounds"),(25, "NotKnown"),(26, "InvalidShifts"),(27, "InvalidSheets"),(28, "InvalidCounts"),(29, "InvalidQuestion"),(30, "TooMany"),(31, "InvalidText"),(32, "TooWide"),(33, "NotAnswered"),(34, "InvalidRules"),(35, "TooLong"),(36, "InvalidName"),(37, "DuplicateName"),(38, "WrongKind"),(39, "CapacityExceeded"),(40, "InvalidLimit"),(41, "InvalidCommand"),(42, "ParseError"),(43, "UnknownName"),(44, "NothingLeft")] [false,false,false,false,false,false,false,false,false,false,true,false,false,false,false,false,false,false,false,false,false,false,false,false,false,false,false,false] (.ref (He.ga K "InvalidSheets")),zAL K [(17, "InvalidLetters"),(18, "InvalidArc"),(19, "NotConnected"),(20, "InvalidNode"),(21, "InvalidOrder"),(22, "InvalidWay"),(23, "NotOfWay"),(24, "InvalidRounds"),(25, "NotKnown"),(26, "InvalidShifts"),(27, "InvalidSheets"),(28, "InvalidCounts"),(29, "InvalidQuestion"),(30, "TooMany"),(31, "InvalidText"),(32, "TooWide"),(33, "NotAnswered"),(34, "InvalidRules"),(35, "TooLong"),(36, "InvalidName"),(37, "DuplicateName"),(38, "WrongKind"),(39, "CapacityExceeded"),(40, "InvalidLimit"),(41, "InvalidCommand"),(42, "ParseError"),(43, "UnknownName"),(44, "NothingLeft")] [false,false,false,false,false,false,false,true,false,false,false,false,false,false,false,false,false,false,false,false,false,false,false,false,false,false,false,false] (.ref (He.ga K "InvalidRounds")),zAL K [(17, "InvalidLetters"),(18, "InvalidArc"),(19, "NotConnected"),(20, "InvalidNode"),(21, "InvalidOrder"),(22, "InvalidWay"),(23, "NotOfWay"),(24, "InvalidRounds"),(25, "NotKnown"),(26, "InvalidShifts"),(27, "InvalidSheets"),(28, "InvalidCounts"),(29, "InvalidQuestion"),(30, "TooMany"),(31, "InvalidText"),(32, "TooWide"),(33, "NotAnswered"),(34, "InvalidRules"),(35, "TooLong"),(36, "InvalidName"),(37, "DuplicateName"),(38, "WrongKind"),(39, "CapacityExceeded"),(40, "InvalidLimit"),(41, "InvalidCommand"),(42, "ParseError"),(43, "UnknownName"),(44, "NothingLeft")] [false,false,false,false,false,false,true,false,false,false,false,false,false,false,false,false,false,false,false,false,false,false,false,false,false,false,false,false] (.ref (He.ga K "NotOfWay")),zAL K [(17, "InvalidLetters"),(18, "InvalidArc"),(19, "NotConnected"),(20, "InvalidNode"),(21, "InvalidOrder"),(22, "InvalidWay"),(23, "NotOfWay"),(24, "InvalidRounds"),(25, "NotKnown"),(26, "InvalidShifts"),(27, "InvalidSheets"),(28, "InvalidCounts"),(29, "InvalidQuestion"),(30, "TooMany"),(31, "InvalidText"),(32, "TooWide"),(33, "NotAnswered"),(34, "InvalidRules"),(35, "TooLong"),(36, "InvalidName"),(37, "DuplicateName"),(38, "WrongKind"),(39, "CapacityExceeded"),(40, "InvalidLimit"),(41, "InvalidCommand"),(42, "ParseError"),(43, "UnknownName"),(44, "NothingLeft")] [false,false,false,false,false,true,false,false,false,false,false,false,false,false,false,false,false,false,false,false,false,false,false,false,false,false,false,false] (.ref (He.ga K "InvalidWay")),zAL K [(17, "InvalidLetters"),(18, "InvalidArc"),(19, "NotConnected"),(20, "InvalidNode"),(21, "InvalidOrder"),(22, "InvalidWay"),(23, "NotOfWay"),(24, "InvalidRounds"),(25, "NotKnown"),(26, "InvalidShifts"),(27, "InvalidSheets"),(28, "InvalidCounts"),(29, "InvalidQuestion"),(30, "TooMany"),(31, "InvalidText"),(32, "TooWide"),(33, "NotAnswered"),(34, "InvalidRules"),(35, "TooLong"),(36, "InvalidName"),(37, "DuplicateName"),(38, "WrongKind"),(39, "CapacityExceeded"),(40, "InvalidLimit"),(41, "InvalidCommand"),(42, "ParseError"),(43, "UnknownName"),(44, "NothingLeft")] [false,false,false,true,false,false,false,false,false,false,false,false,false,false,false,false,false,false,false,false,false,false,false,false,false,false,false,false] (.ref (He.ga K "InvalidNode")),zAL K [(17, "InvalidLetters"),(18, "InvalidArc"),(19, "NotConnected"),(20, "InvalidNode"),(21, "InvalidOrder"),(22, "InvalidWay"),(23, "NotOfWay"),(24, "InvalidRounds"),(25, "NotKnown"),(26, "InvalidShifts"),(27, "InvalidSheets"),(28, "InvalidCounts"),(29, "InvalidQuestion"),(30, "TooMany"),(31, "InvalidText"),(32, "TooWide"),(33, "NotAnswered"),(34, "InvalidRules"),(35, "TooLong"),(36, "InvalidName"),(37, "DuplicateName"),(38, "WrongKind"),(39, "CapacityExceeded"),(40, "InvalidLimit"),(41, "InvalidCommand"),(42, "ParseError"),(43, "UnknownName"),(44, "NothingLeft")] [false,false,false,false,false,false,false,false,false,false,false,false,false,false,false,false,false,false,false,false,false,false,false,false,false,false,true,false] (.ref (He.ga K "UnknownName")),zAL K [(17, "InvalidLetters"),(18, "InvalidArc"),(19, "NotConnected"),(20, "InvalidNode"),(21, "InvalidOrder"),(22, "InvalidWay"),(23, "NotOfWay"),(24, "InvalidRounds"),(25, "NotKnown"),(26, "InvalidShifts"),(27, "InvalidSheets"),(28, "InvalidCounts"),(29, "InvalidQuestion"),(30, "TooMany"),(31, "InvalidText"),(32, "TooWide"),(33, "NotAnswered"),(34, "InvalidRules"),(35, "TooLong"),(36, "InvalidName"),(37, "DuplicateName"),(38, "WrongKind"),(39, "CapacityExceeded"),(40, "InvalidLimit"),(41, "InvalidCommand"),(42, "ParseError"),(43, "UnknownName"),(44, "NothingLeft")] [false,false,false,false,false,false,false,false,false,false,false,false,false,false,false,false,false,false,false,false,false,true,false,false,false,false,false,false] (.ref (He.ga K "WrongKind")),zAL K [(17, "InvalidLetters"),(18, "InvalidArc"),(19, "NotConnected"),(20, "InvalidNode"),(21, "InvalidOrder"),(22, "InvalidWay"),(23, "NotOfWay"),(24, "InvalidRounds"),(25, "NotKnown"),(26, "InvalidShifts"),(27, "InvalidSheets"),(28, "InvalidCounts"),(29, "InvalidQuestion"),(30, "TooMany"),(31, "InvalidText"),(32, "TooWide"),(33, "NotAnswered"),(34, "InvalidRules"),(35, "TooLong"),(36, "InvalidName"),(37, "DuplicateName"),(38, "WrongKind"),(39, "CapacityExceeded"),(40, "InvalidLimit"),(41, "InvalidCommand"),(42, "ParseError"),(43, "UnknownName"),(44, "NothingLeft")] [false,false,false,false,false,false,false,false,false,false,false,false,false,false,false,false,false,false,false,false,true,false,false,false,false,false,false,false] (.ref (He.ga K "DuplicateName")),zAL K [(17, "InvalidLetters"),(18, "InvalidArc"),(19, "NotConnected"),(20, "InvalidNode"),(21, "InvalidOrder"),(22, "InvalidWay"),(23, "NotOfWay"),(24, "InvalidRounds"),(25, "NotKnown"),(26, "InvalidShifts"),(27, "InvalidSheets"),(28, "InvalidCounts"),(29, "InvalidQuestion"),(30, "TooMany"),(31, "InvalidText"),(32, "TooWide"),(33, "NotAnswered"),(34, "InvalidRules"),(35, "TooLong"),(36, "InvalidName"),(37, "DuplicateName"),(38, "WrongKind"),(39, "CapacityExceeded"),(40, "InvalidLimit"),(41, "InvalidCommand"),(42, "ParseError"),(43, "UnknownName"),(44, "NothingLeft")] [false,false,false,false,false,false,false,false,false,false,false,false,false,false,false,false,false,false,false,true,false,false,false,false,false,false,false,false] (.ref (He.ga K "InvalidName")),zAL K [(17, "InvalidLetters"),(18, "InvalidArc"),(19, "NotConnected"),(20, "InvalidNode"),(21, "InvalidOrder"),(22, "InvalidWay"),(23, "NotOfWay"),(24, "InvalidRounds"),(25, "NotKnown"),(26, "InvalidShifts"),(27, "InvalidSheets"),(28, "InvalidCounts"),(29, "InvalidQuestion"),(30, "TooMany"),(31, "InvalidText"),(32, "TooWide"),(33, "NotAnswered"),(34, "InvalidRules"),(35, "TooLong"),(36, "InvalidName"),(37, "DuplicateName"),(38, "WrongKind"),(39, "CapacityExceeded"),(40, "InvalidLimit"),(41, "InvalidCommand"),(42, "ParseError"),(43, "UnknownName"),(44, "NothingLeft")] [false,false,false,false,false,false,false,false,false,false,false,false,false,false,false,false,false,true,false,false,false,false,false,false,false,false,false,false] (.ref (He.ga K "InvalidRules")),zAL K [(17, "InvalidLetters"),(18, "InvalidArc"),(19, "NotConnected"),(20, "InvalidNode"),(21, "InvalidOrder"),(22, "InvalidWay"),(23, "NotOfWay"),(24, "InvalidRounds"),(25, "NotKnown"),(26, "InvalidShifts"),(27, "InvalidSheets"),(28, "InvalidCounts"),(29, "InvalidQuestion"),(30, "TooMany"),(31, "InvalidText"),(32, "TooWide"),(33, "NotAnswered"),(34, "InvalidRules"),(35, "TooLong"),(36, "InvalidName"),(37, "DuplicateName"),(38, "WrongKind"),(39, "CapacityExceeded"),(40, "InvalidLimit"),(41, "InvalidCommand"),(42, "ParseError"),(43, "UnknownName"),(44, "NothingLeft")] [false,true,false,false,false,false,false,false,false,false,false,false,false,false,false,false,false,false,false,false,false,false,false,false,false,false,false,false] (.ref (He.ga K "InvalidArc")),zAL K [(17, "InvalidLetters"),(18, "InvalidArc"),(19, "NotConnected"),(20, "InvalidNode"),(21, "InvalidOrder"),(22, "InvalidWay"),(23, "NotOfWay"),(24, "InvalidRounds"),(25, "NotKnown"),(26, "InvalidShifts"),(27, "InvalidSheets"),(28, "InvalidCounts"),(29, "InvalidQuestion"),(30, "TooMany"),(31, "InvalidText"),(32, "TooWide"),(33, "NotAnswered"),(34, "InvalidRules"),(35, "TooLong"),(36, "InvalidName"),(37, "DuplicateName"),(38, "WrongKind"),(39, "CapacityExceeded"),(40, "InvalidLimit"),(41, "InvalidCommand"),(42, "ParseError"),(43, "UnknownName"),(44, "NothingLeft")] [false,false,false,false,false,false,false,false,false,false,false,false,false,false,false,false,false,false,false,false,false,false,false,false,true,false,false,false] (.ref (He.ga K "InvalidCommand")),zAL K [(17, "InvalidLetters"),(18, "InvalidArc"),(19, "NotConnected"),(20, "InvalidNode"),(21, "InvalidOrder"),(22, "InvalidWay"),(23, "NotOfWay"),(24, "InvalidRounds"),(25, "NotKnown"),(26, "InvalidShifts"),(27, "InvalidSheets"),(28, "InvalidCounts"),(29, "InvalidQuestion"),(30, "TooMany"),(31, "InvalidText"),(32, "TooWide"),(33, "NotAnswered"),(34, "InvalidRules"),(35, "TooLong"),(36, "InvalidName"),(37, "DuplicateName"),(38, "WrongKind"),(39, "CapacityExceeded"),(40, "InvalidLimit"),(41, "InvalidCommand"),(42, "ParseError"),(43, "UnknownName"),(44, "NothingLeft")] [false,false,false,false,false,false,false,false,false,false,false,false,false,false,false,false,false,false,false,false,false,false,false,true,false,false,false,false] (.ref (He.ga K "InvalidLimit")),zAL K [(17, "InvalidLetters"),(18, "InvalidArc"),(19, "NotConnected"),(20, "InvalidNode"),(21, "InvalidOrder"),(22, "InvalidWay"),(23, "NotOfWay"),(24, "InvalidRounds"),(25, "NotKnown"),(26, "InvalidShifts"),(27, "InvalidSheets"),(28, "InvalidCounts"),(29, "InvalidQuestion"),(30, "TooMany"),(31, "InvalidText"),(32, "TooWide"),(33, "NotAnswered"),(34, "InvalidRules"),(35, "TooLong"),(36, "InvalidName"),(37, "DuplicateName"),(38, "WrongKind"),(39, "CapacityExceeded"),(40, "InvalidLimit"),(41, "InvalidCommand"),(42, "ParseError"),(43, "UnknownName"),(44, "NothingLeft")] [false,false,false,false,false,false,false,false,false,false,false,false,false,false,false,false,false,false,false,false,false,false,true,false,false,false,false,false] (.ref (He.ga K "CapacityExceeded")),zAL K [(17, "InvalidLetters"),(18, "InvalidArc"),(19, "NotConnected"),(20, "InvalidNode"),(21, "InvalidOrder"),(22, "InvalidWay"),(23, "NotOfWay"),(24, "InvalidRounds"),(25, "NotKnown"),(26, "InvalidShifts"),(27, "InvalidSheets"),(28, "InvalidCounts"),(29, "InvalidQuestion"),(30, "TooMany"),(31, "InvalidText"),(32, "TooWide"),(33, "NotAnswered"),(34, "InvalidRules"),(35, "TooLong"),(36, "InvalidName"),(37, "DuplicateName"),(38, "WrongKind"),(39, "CapacityExceeded"),(40, "InvalidLimit"),(41, "InvalidCommand"),(42, "ParseError"),(43, "UnknownName"),(44, "NothingLeft")] [false,false,false,false,false,false,false,false,false,false,false,false,false,false,false,false,false,false,true,false,false,false,false,false,false,false,false,false] (.ref (He.ga K "TooLong")),zAL K [(17, "InvalidLetters"),(18, "InvalidArc"),(19, "NotConnected"),(20, "InvalidNode"),(21, "InvalidOrder"),(22, "InvalidWay"),(23, "NotOfWay"),(24, "InvalidRounds"),(25, "NotKnown"),(26, "InvalidShifts"),(27, "InvalidSheets"),(28, "InvalidCounts"),(29, "InvalidQuestion"),(30, "TooMany"),(31, "InvalidText"),(32, "TooWide"),(33, "NotAnswered"),(34, "InvalidRules"),(35, "TooLong"),(36, "InvalidName"),(37, "DuplicateName"),(38, "WrongKind"),(39, "CapacityExceeded"),(40, "InvalidLimit"),(41, "InvalidCommand"),(42, "ParseError"),(43, "UnknownName"),(44, "NothingLeft")] [false,false,false,false,false,false,false,false,false,false,false,false,false,false,false,true,false,false,false,false,false,false,false,false,false,false,false,false] (.ref (He.ga K "TooWide")),zAL K [(17, "InvalidLetters"),(18, "InvalidArc"),(19, "NotConnected"),(20, "InvalidNode"),(21, "InvalidOrder"),(22, "InvalidWay"),(23, "NotOfWay"),(24, "InvalidRounds"),(25, "NotKnown"),(26, "InvalidShifts"),(27, "InvalidSheets"),(28, "InvalidCounts"),(29, "InvalidQuestion"),(30, "TooMany"),(31, "InvalidText"),(32, "TooWide"),(33, "NotAnswered"),(34, "InvalidRules"),(35, "TooLong"),(36, "InvalidName"),(37, "DuplicateName"),(38, "WrongKind"),(39, "CapacityExceeded"),(40, "InvalidLimit"),(41, "InvalidCommand"),(42, "ParseError"),(43, "UnknownName"),(44, "NothingLeft")] [false,false,false,false,false,false,false,false,false,false,false,false,false,true,false,false,false,false,false,false,false,false,false,false,false,false,false,false] (.ref (He.ga K "TooMany")),zAL K [(17, "InvalidLetters"),(18, "InvalidArc"),(19, "NotConnected"),(20, "InvalidNode"),(21, "InvalidOrder"),(22, "InvalidWay"),(23, "NotOfWay"),(24, "InvalidRounds"),(25, "NotKnown"),(26, "InvalidShifts"),(27, "InvalidSheets"),(28, "InvalidCounts"),(29, "InvalidQuestion"),(30, "TooMany"),(31, "InvalidText"),(32, "TooWide"),(33, "NotAnswered"),(34, "InvalidRules"),(35, "TooLong"),(36, "InvalidName"),(37, "DuplicateName"),(38, "WrongKind"),(39, "CapacityExceeded"),(40, "InvalidLimit"),(41, "InvalidCommand"),(42, "ParseError"),(43, "UnknownName"),(44, "NothingLeft")] [false,false,false,false,false,false,false,false,false,true,false,false,false,false,false,false,false,false,false,false,false,false,false,false,false,false,false,false] (.ref (He.ga K "InvalidShifts")),zAL K [(17, "InvalidLetters"),(18, "InvalidArc"),(19, "NotConnected"),(20, "InvalidNode"),(21, "InvalidOrder"),(22, "InvalidWay"),(23, "NotOfWay"),(24, "InvalidRounds"),(25, "NotKnown"),(26, "InvalidShifts"),(27, "InvalidSheets"),(28, "InvalidCounts"),(29, "InvalidQuestion"),(30, "TooMany"),(31, "InvalidText"),(32, "TooWide"),(33, "NotAnswered"),(34, "InvalidRules"),(35, "TooLong"),(36, "InvalidName"),(37, "DuplicateName"),(38, "WrongKind"),(39, "CapacityExceeded"),(40, "InvalidLimit"),(41, "InvalidCommand"),(42, "ParseError"),(43, "UnknownName"),(44, "NothingLeft")] [false,false,false,false,false,false,false,false,true,false,false,false,false,false,false,false,false,false,false,false,false,false,false,false,false,false,false,false] (.ref (He.ga K "NotKnown")),zAL K [(17, "InvalidLetters"),(18, "InvalidArc"),(19, "NotConnected"),(20, "InvalidNode"),(21, "InvalidOrder"),(22, "InvalidWay"),(23, "NotOfWay"),(24, "InvalidRounds"),(25, "NotKnown"),(26, "InvalidShifts"),(27, "InvalidSheets"),(28, "InvalidCounts"),(29, "InvalidQuestion"),(30, "TooMany"),(31, "InvalidText"),(32, "TooWide"),(33, "NotAnswered"),(34, "InvalidRules"),(35, "TooLong"),(36, "InvalidName"),(37, "DuplicateName"),(38, "WrongKind"),(39, "CapacityExceeded"),(40, "InvalidLimit"),(41, "InvalidCommand"),(42, "ParseError"),(43, "UnknownName"),(44, "NothingLeft")] [false,false,false,false,true,false,false,false,false,false,false,false,false,false,false,false,false,false,false,false,false,false,false,false,false,false,false,false] (.ref (He.ga K "InvalidOrder")),zAL K [(17, "InvalidLetters"),(18, "InvalidArc"),(19, "NotConnected"),(20, "InvalidNode"),(21, "InvalidOrder"),(22, "InvalidWay"),(23, "NotOfWay"),(24, "InvalidRounds"),(25, "NotKnown"),(26, "InvalidShifts"),(27, "InvalidSheets"),(28, "InvalidCounts"),(29, "InvalidQuestion"),(30, "TooMany"),(31, "InvalidText"),(32, "TooWide"),(33, "NotAnswered"),(34, "InvalidRules"),(35, "TooLong"),(36, "InvalidName"),(37, "DuplicateName"),(38, "WrongKind"),(39, "CapacityExceeded"),(40, "InvalidLimit"),(41, "InvalidCommand"),(42, "ParseError"),(43, "UnknownName"),(44, "NothingLeft")] [false,false,true,false,false,false,false,false,false,false,false,false,false,false,false,false,false,false,false,false,false,false,false,false,false,false,false,false] (.ref (He.ga K "NotConnected")),zAL K [(17, "InvalidLetters"),(18, "InvalidArc"),(19, "NotConnected"),(20, "InvalidNode"),(21, "InvalidOrder"),(22, "InvalidWay"),(23, "NotOfWay"),(24, "InvalidRounds"),(25, "NotKnown"),(26, "InvalidShifts"),(27, "InvalidSheets"),(28, "InvalidCounts"),(29, "InvalidQuestion"),(30, "TooMany"),(31, "InvalidText"),(32, "TooWide"),(33, "NotAnswered"),(34, "InvalidRules"),(35, "TooLong"),(36, "InvalidName"),(37, "DuplicateName"),(38, "WrongKind"),(39, "CapacityExceeded"),(40, "InvalidLimit"),(41, "InvalidCommand"),(42, "ParseError"),(43, "UnknownName"),(44, "NothingLeft")] [true,false,false,false,false,false,false,false,false,false,false,false,false,false,false,false,false,false,false,false,false,false,false,false,false,false,false,false] (.ref (He.ga K "InvalidLetters")),zAL K [(17, "InvalidLetters"),(18, "InvalidArc"),(19, "NotConnected"),(20, "InvalidNode"),(21, "InvalidOrder"),(22, "InvalidWay"),(23, "NotOfWay"),(24, "InvalidRounds"),(25, "NotKnown"),(26, "InvalidShifts"),(27, "InvalidSheets"),(28, "InvalidCounts"),(29, "InvalidQuestion"),(30, "TooMany"),(31, "InvalidText"),(32, "TooWide"),(33, "NotAnswered"),(34, "InvalidRules"),(35, "TooLong"),(36, "InvalidName"),(37, "DuplicateName"),(38, "WrongKind"),(39, "CapacityExceeded"),(40, "InvalidLimit"),(41, "InvalidCommand"),(42, "ParseError"),(43, "UnknownName"),(44, "NothingLeft")] [false,false,false,false,false,false,false,false,false,false,false,false,false,false,false,false,false,false,false,false,false,false,false,false,false,true,false,false] (.ref (He.ga K "ParseError")),zAL K [(17, "InvalidLetters"),(18, "InvalidArc"),(19, "NotConnected"),(20, "InvalidNode"),(21, "InvalidOrder"),(22, "InvalidWay"),(23, "NotOfWay"),(24, "InvalidRounds"),(25, "NotKnown"),(26, "InvalidShifts"),(27, "InvalidSheets"),(28, "InvalidCounts"),(29, "InvalidQuestion"),(30, "TooMany"),(31, "InvalidText"),(32, "TooWide"),(33, "NotAnswered"),(34, "InvalidRules"),(35, "TooLong"),(36, "InvalidName"),(37, "DuplicateName"),(38, "WrongKind"),(39, "CapacityExceeded"),(40, "InvalidLimit"),(41, "InvalidCommand"),(42, "ParseError"),(43, "UnknownName"),(44, "NothingLeft")] [false,false,false,false,false,false,false,false,false,false,false,false,false,false,false,false,false,false,false,false,false,false,false,false,false,false,false,true] (.ref (He.ga K "NothingLeft")),zAL K [(17, "InvalidLetters"),(18, "InvalidArc"),(19, "NotConnected"),(20, "InvalidNode"),(21, "InvalidOrder"),(22, "InvalidWay"),(23, "NotOfWay"),(24, "InvalidRounds"),(25, "NotKnown"),(26, "InvalidShifts"),(27, "InvalidSheets"),(28, "InvalidCounts"),(29, "InvalidQuestion"),(30, "TooMany"),(31, "InvalidText"),(32, "TooWide"),(33, "NotAnswered"),(34, "InvalidRules"),(35, "TooLong"),(36, "InvalidName"),(37, "DuplicateName"),(38, "WrongKind"),(39, "CapacityExceeded"),(40, "InvalidLimit"),(41, "InvalidCommand"),(42, "ParseError"),(43, "UnknownName"),(44, "NothingLeft")] [false,false,false,false,false,false,false,false,false,false,false,false,false,false,true,false,false,false,false,false,false,false,false,false,false,false,false,false] (.ref (He.ga K "InvalidText")),zAL K [(17, "InvalidLetters"),(18, "InvalidArc"),(19, "NotConnected"),(20, "InvalidNode"),(21, "InvalidOrder"),(22, "InvalidWay"),(23, "NotOfWay"),(24, "InvalidRounds"),(25, "NotKnown"),(26, "InvalidShifts"),(27, "InvalidSheets"),(28, "InvalidCounts"),(29, "InvalidQuestion"),(30, "TooMany"),(31, "InvalidText"),(32, "TooWide"),(33, "NotAnswered"),(34, "InvalidRules"),(35, "TooLong"),(36, "InvalidName"),(37, "DuplicateName"),(38, "WrongKind"),(39, "CapacityExceeded"),(40, "InvalidLimit"),(41, "InvalidCommand"),(42, "ParseError"),(43, "UnknownName"),(44, "NothingLeft")] [false,false,false,false,false,false,false,false,false,false,false,false,true,false,false,false,false,false,false,false,false,false,false,false,false,false,false,false] (.ref (He.ga K "InvalidQuestion")),zAL K [(17, "InvalidLetters"),(18, "InvalidArc"),(19, "NotConnected"),(20, "InvalidNode"),(21, "InvalidOrder"),(22, "InvalidWay"),(23, "NotOfWay"),(24, "InvalidRounds"),(25, "NotKnown"),(26, "InvalidShifts"),(27, "InvalidSheets"),(28, "InvalidCounts"),(29, "InvalidQuestion"),(30, "TooMany"),(31, "InvalidText"),(32, "TooWide"),(33, "NotAnswered"),(34, "InvalidRules"),(35, "TooLong"),(36, "InvalidName"),(37, "DuplicateName"),(38, "WrongKind"),(39, "CapacityExceeded"),(40, "InvalidLimit"),(41, "InvalidCommand"),(42, "ParseError"),(43, "UnknownName"),(44, "NothingLeft")] [false,false,false,false,false,false,false,false,false,false,false,true,false,false,false,false,false,false,false,false,false,false,false,false,false,false,false,false] (.ref (He.ga K "InvalidCounts")),zAL K [(17, "InvalidLetters"),(18, "InvalidArc"),(19, "NotConnected"),(20, "InvalidNode"),(21, "InvalidOrder"),(22, "InvalidWay"),(23, "NotOfWay"),(24, "InvalidRounds"),(25, "NotKnown"),(26, "InvalidShifts"),(27, "InvalidSheets"),(28, "InvalidCounts"),(29, "InvalidQuestion"),(30, "TooMany"),(31, "InvalidText"),(32, "TooWide"),(33, "NotAnswered"),(34, "InvalidRules"),(35, "TooLong"),(36, "InvalidName"),(37, "DuplicateName"),(38, "WrongKind"),(39, "CapacityExceeded"),(40, "InvalidLimit"),(41, "InvalidCommand"),(42, "ParseError"),(43, "UnknownName"),(44, "NothingLeft")] [true,true,true,true,true,true,true,true,true,true,true,true,true,true,true,true,true,true,true,true,true,true,true,true,true,true,false,false] (.ref (He.ga K "SayError")),zAL K [(17, "InvalidLetters"),(18, "InvalidArc"),(19, "NotConnected"),(20, "InvalidNode"),(21, "InvalidOrder"),(22, "InvalidWay"),(23, "NotOfWay"),(24, "InvalidRounds"),(25, "NotKnown"),(26, "InvalidShifts"),(27, "InvalidSheets"),(28, "InvalidCounts"),(29, "InvalidQuestion"),(30, "TooMany"),(31, "InvalidText"),(32, "TooWide"),(33, "NotAnswered"),(34, "InvalidRules"),(35, "TooLong"),(36, "InvalidName"),(37, "DuplicateName"),(38, "WrongKind"),(39, "CapacityExceeded"),(40, "InvalidLimit"),(41, "InvalidCommand"),(42, "ParseError"),(43, "UnknownName"),(44, "NothingLeft")] [true,true,true,true,true,true,true,true,true,true,true,true,true,true,true,true,true,true,true,true,true,true,true,true,true,true,false,false] (.type "ValueError"),zAL K [(17, "InvalidLetters"),(18, "InvalidArc"),(19, "NotConnected"),(20, "InvalidNode"),(21, "InvalidOrder"),(22, "InvalidWay"),(23, "NotOfWay"),(24, "InvalidRounds"),(25, "NotKnown"),(26, "InvalidShifts"),(27, "InvalidSheets"),(28, "InvalidCounts"),(29, "InvalidQuestion"),(30, "TooMany"),(31, "InvalidText"),(32, "TooWide"),(33, "NotAnswered"),(34, "InvalidRules"),(35, "TooLong"),(36, "InvalidName"),(37, "DuplicateName"),(38, "WrongKind"),(39, "CapacityExceeded"),(40, "InvalidLimit"),(41, "InvalidCommand"),(42, "ParseError"),(43, "UnknownName"),(44, "NothingLeft")] [false,false,false,false,false,false,false,false,false,false,false,false,false,false,false,false,false,false,false,false,false,false,false,false,false,false,true,true] (.type "LookupError"),zAL K [(17, "InvalidLetters"),(18, "InvalidArc"),(19, "NotConnected"),(20, "InvalidNode"),(21, "InvalidOrder"),(22, "InvalidWay"),(23, "NotOfWay"),(24, "InvalidRounds"),(25, "NotKnown"),(26, "InvalidShifts"),(27, "InvalidSheets"),(28, "InvalidCounts"),(29, "InvalidQuestion"),(30, "TooMany"),(31, "InvalidText"),(32, "TooWide"),(33, "NotAnswered"),(34, "InvalidRules"),(35, "TooLong"),(36, "InvalidName"),(37, "DuplicateName"),(38, "WrongKind"),(39, "CapacityExceeded"),(40, "InvalidLimit"),(41, "InvalidCommand"),(42, "ParseError"),(43, "UnknownName"),(44, "NothingLeft")] [false,false,false,false,false,false,false,false,false,false,false,false,false,false,false,false,false,false,false,false,false,false,false,false,false,false,true,false] (.ref (He.ga K "Missing")),zAL K [(17, "InvalidLetters"),(18, "InvalidArc"),(19, "NotConnected"),(20, "InvalidNode"),(21, "InvalidOrder"),(22, "InvalidWay"),(23, "NotOfWay"),(24, "InvalidRounds"),(25, "NotKnown"),(26, "InvalidShifts"),(27, "InvalidSheets"),(28, "InvalidCounts"),(29, "InvalidQuestion"),(30, "TooMany"),(31, "InvalidText"),(32, "TooWide"),(33, "NotAnswered"),(34, "InvalidRules"),(35, "TooLong"),(36, "InvalidName"),(37, "DuplicateName"),(38, "WrongKind"),(39, "CapacityExceeded"),(40, "InvalidLimit"),(41, "InvalidCommand"),(42, "ParseError"),(43, "UnknownName"),(44, "NothingLeft")] [false,false,false,false,false,false,false,false,false,false,false,false,false,false,false,false,false,false,false,false,false,false,false,false,false,false,false,true] (.type "IndexError")]
def ex(K:PySem.W.Frag):Bool:=(exl K).all id
def loose:List Str:=(["__name__", "SayError", "Missing", "InvalidLetters", "InvalidArc", "NotConnected", "InvalidNode", "InvalidOrder", "InvalidWay", "NotOfWay", "InvalidRounds", "NotKnown"]:List Str)++(["InvalidShifts", "InvalidSheets", "InvalidCounts", "InvalidQuestion", "TooMany", "InvalidText", "TooWide", "NotAnswered", "InvalidRules", "TooLong", "InvalidName", "DuplicateName"]:List Str)++(["WrongKind", "CapacityExceeded", "InvalidLimit", "InvalidCommand", "ParseError", "UnknownName", "NothingLeft", "_law_bag", "_law_pull", "_law_of", "_law_same", "_law_made_errors"]:List Str)++(["_law_kinds_of"]:List Str)
abbrev R:PySem.W.OpenRow:=PySem.W.OpenLaw.row PySem.Challenge.rw_sharesay_k74_error_classes
abbrev hk:PySem.W.Hook:=zHB fa fn ts tf ex es
def ob(s:PySem.W.SharedT):AlE:=obR fa fn ts tf ex es s
theorem ob_eq(s:PySem.W.SharedT):ob s=hk.obs s.abs:=obR_eq s
section
open PySem.W PySem.Calls HandSHeadRun
theorem fileOf:Y.FileOf (PySem.Challenge.rw_sharesay_k74_error_classes).prog "/claim/cut.py" := ⟨by kernel_rfl,by kernel_rfl⟩
theorem hj1:opening R.prog=plainProg R.prog.main.scope.names:=by kernel_rfl
theorem hj2:∀s,fenceModules? R.prog s=some s:=fun s=>by kernel_rfl
theorem hj3:defOf (view R.prog [38]) R.name=some (topDef R.prog 38,[]):=by kernel_rfl
theorem hj4:R.prog.theDef R.name=some ((topDef R.prog 38).params,(topDef R.prog 38).body,(topDef R.prog 38).scope):=by kernel_rfl
theorem hj5:kwWritten? (topDef R.prog 38).params.kwonlyargs (topDef R.prog 38).params.kw_defaults=some []:=by kernel_rfl
theorem hj6:(!R.writes||R.records.isEmpty)=true:=by rfl
theorem hj8:(chainsOk (view R.prog [38])&&opensWell R.prog&&(frees R.toRowW&&R.within.isEmpty))=true:=by decide +kernel
theorem hj9:R.prog.bare:=⟨rfl,rfl,rfl,rfl,rfl,⋯⟩
theorem hjw:R.toRowW.promised:=by w_witness2
end
theorem runFa(w:World):RunA R (PySem.W.view R.prog [38]) 60000 loose (w.withFollow "special-get-raises" false):=by
 intro os
 kernel_rfl
theorem zFk(w:World):RunH R 60000 (w.withFollow "special-get-raises" false) (hFaR fa0) true:=by
 intro os
 kernel_rfl
theorem zGj(w:World):RunH R 60000 (w.withFollow "special-get-raises" false) (hFnR fn0) (He.valD fn0):=by
 intro os
 kernel_rfl
theorem zHp(w:World):RunH R 60000 (w.withFollow "special-get-raises" false) (zDj ts tf ex es) (zFE ts es (w.withFollow "special-get-raises" false)):=by
 intro os
 kernel_rfl
theorem runFb(w:World):RunB R hk ob 60000 (w.withFollow "special-get-raises" false):=zDN (zFk w) (zGj w) (zHp w)
theorem runTa(w:World):RunA R (PySem.W.view R.prog [38]) 60000 loose (w.withFollow "special-get-raises" true):=by
 intro os
 kernel_rfl
theorem zFq(w:World):RunH R 60000 (w.withFollow "special-get-raises" true) (hFaR fa0) true:=by
 intro os
 kernel_rfl
theorem zF5(w:World):RunH R 60000 (w.withFollow "special-get-raises" true) (hFnR fn0) (He.valD fn0):=by
 intro os
 kernel_rfl
theorem zHj(w:World):RunH R 60000 (w.withFollow "special-get-raises" true) (zDj ts tf ex es) (zFE ts es (w.withFollow "special-get-raises" true)):=by
 intro os
 kernel_rfl
theorem runTb(w:World):RunB R hk ob 60000 (w.withFollow "special-get-raises" true):=zDN (zFq w) (zF5 w) (zHj w)
theorem run(w:World):HandSHeadRun.RunEq R (PySem.W.view R.prog [38]) hk ob 60000 loose w :=
 PySem.W.byRow2 "special-get-raises" (P:=fun w=>HandSHeadRun.RunEq R (PySem.W.view R.prog [38]) hk ob 60000 loose w) (fun w=>zFS (runFa w) (runFb w)) (fun w=>zFS (runTa w) (runTb w)) w
section
open PySem.W PySem.Calls HandSHeadRun
/-- the looks at the law,early (less memory stands) -/
theorem early(hc:PySem.W.WalkO (view R.prog [38]) loose (XL (view R.prog [38]) []) hk.says R.toRowW (topDef R.prog 38) [] fun f vs=>PySem.call f vs):PySem.Challenge.rw_sharesay_k74_error_classes.Holds:=by
 w_on;o_law
 refine HandSHeadRun.head_any (r:=R) (q:=view R.prog [38]) (H:=hk) (ob:=ob) (M:=60000) (loose:=loose) (d:=topDef R.prog 38) (kwd:=[]) ob_eq
  hj1 hj2 run hj3 hj4 hj5 hj6 (by first|assumption|decide +kernel) hj8 hj9 hjw hc
end
end K74
namespace Y
section
variable {K:PySem.W.Frag}{cl:Cls}{G G':Hp}
theorem RPs.append:∀ {l m:List P}{vs us:List V},RPs K cl G l vs→RPs K cl G m us→RPs K cl G (l++m) (vs++us)
 |_,_,_,_,.nil,s=>s
 |_,_,_,_,.cons h r,s=>.cons h (RPs.append r s)
theorem RPs.reverse{l:List P}{vs:List V} (r:RPs K cl G l vs):RPs K cl G l.reverse vs.reverse:=by
 induction l generalizing vs with
 |nil=>cases r;exact .nil
 |cons x l ih =>
  cases r with
  |cons h r =>
   rw[List.reverse_cons,List.reverse_cons];exact(ih r).append (.cons h .nil)
theorem RPs.ints:∀(l:List Int),RPs K cl G (l.map P.int) (l.map V.int)
 |[]=>.nil
 |i::l=>.cons (.int i) (RPs.ints l)
theorem RPs.of_ints:∀ {l:List Int}{vs:List V},RPs K cl G (l.map P.int) vs→vs=l.map V.int
 |[],_,.nil=>rfl
 |i::l,_,.cons h r=>by
  cases h;rw[RPs.of_ints r];rfl
end
section
variable {K:PySem.W.Frag}{cl:Cls}{ρ ρ':List Addr}{G G':Hp}
theorem RWs.append:∀ {l m:List W}{vs us:List V},RWs K cl ρ G l vs→RWs K cl ρ G m us→RWs K cl ρ G (l++m) (vs++us)
 |_,_,_,_,.nil,s=>s
 |_,_,_,_,.cons h r,s=>.cons h (RWs.append r s)
theorem zFH(l:List P):pures (l.map W.p)=some l:=by
 induction l with
 |nil=>rfl
 |cons x l ih =>
  show(pures (l.map W.p)).map (x :: ·)=_
  rw[ih];rfl
end
theorem zCA{H:Hp}{a:Addr}{u:HO} (h:strip H a=some u):H a=some u∧NT u:=by
 unfold strip at h;split at h
 ·cases h
 ·rename_i n
  exact⟨h,fun ps e=>n ps (by rw[h,e])⟩
theorem zHQ{G H:Hp}{P p:Addr}{q:Str}{o:HO} (t:TabG G H P q) (h:H p=some o) (nt:NT o):P≠p:=fun e=>by
 obtain⟨ps,z,_⟩:=t;rw[e,h]at z;exact nt ps (Jb z)
theorem zEJ{G H:Hp}{P p:Addr}{q:Str}{o u:HO} (t:TabG G H P q) (h:H p=some u) (hu:PlO u):TabG G (upd H p o) P q:=by
 have ne:=zHQ t h hu.1;obtain⟨ps,e1,e2,e3⟩:=t;exact⟨ps,by rw[Jg ne];exact e1,e2,e3⟩
section
variable {K:PySem.W.Frag}{cl:Cls}{E0:En}{ρ ρ':List Addr}{G G':Hp}{st:List Cell}{H H':Hp}
theorem Rel.cellN(R:Rel K cl E0 ρ G st H){p:Addr}{o:HO}{c:Cell} (h:H p=none) (hc:c≠.dead) (h0:E0.H0 p=none) (x:CA K cl (ρ++[p]) G (upd H p o) p c):Rel K cl E0 (ρ++[p]) G (st++[c]) (upd H p o):=by
 have gp:=R.gnone h
 have ne:∀(i:Nat) a,ρ[i]?=some a→a≠p:=fun i a e z=>by
  obtain⟨u,q⟩:=R.there e;rw[z,h]at q;cases q
 have pn:p∉ρ:=fun m=>by
  obtain⟨i,hi⟩:=JH m;exact ne i p hi rfl
 have cut:∀(i:Nat) (d:Cell) a,(st++[c])[i]?=some d→(ρ++[p])[i]?=some a→(st[i]?=some d∧ρ[i]?=some a)∨(d=c∧a=p):=fun i d a e1 e2=>by
  by_cases hi:i<st.length
  ·rw[Ja hi]at e1;rw[Ja (by rw[R.len];exact hi)]at e2
   exact .inl ⟨e1,e2⟩
  ·have z:i=st.length:=by
    have:=(Jd.mp e1).1
    rw[Jv]at this;simp at this;omega
   subst z;rw[Jo (Ju _)]at e1;rw[←R.len,Jo (Ju _)]at e2;simp at e1 e2;exact .inr ⟨e1.symm,e2.symm⟩
 refine⟨by simp[R.len],?_,fun i d a e1 e2=>?_,fun i d a e1 e2=>?_,fun a u e=>?_,fun a u e q=>?_,fun i a hi e=>?_,by rw[Jv];exact VH R.n0 (JP _ _),fun a u e=>?_,R.ent,R.gnt,fun q hq=>zDb (R.tabs q hq) h⟩
 ·exact Vw.mpr ⟨R.nd,by simp,fun a ha b hb=>by simp at hb;subst hb;exact fun z=>pn (z▸ha)⟩
 ·rcases cut i d a e1 e2 with⟨h1,h2⟩|⟨rfl,rfl⟩
  ·exact(R.cell i d a h1 h2).mono (JT _ _) (Sub.refl _) (Jg (ne i a h2))
  ·exact x
 ·rcases cut i d a e1 e2 with⟨h1,h2⟩|⟨rfl,rfl⟩
  ·exact R.sep i d a h1 h2
  ·exact .inr gp
 ·rw[Jg (fun z=>by rw[z,gp]at e;cases e)];exact R.sub a u e
 ·have q2:=R.old a u e fun i hi z=>q i hi (by
   have hl:i<ρ.length:=JA hi R.n0
   rw[Ja hl];exact z)
  rw[Jg (JM q2 h)];exact q2
 ·by_cases hl:i<ρ.length
  ·rw[Ja hl]at e;exact R.new i a hi e
  ·rw[Jo ∅]at e
   have:a=p:=by
    have hz:=(Jd.mp e).1;simp at hz;rw[hz]at e;simp at e;exact e.symm
   subst this;exact h0
 ·rcases R.grow a u e with q|q|⟨i,hi,q⟩
  ·exact .inl q
  ·exact .inr (.inl q)
  ·exact .inr (.inr ⟨i,hi,by rw[Ja (JA hi R.n0)];exact q⟩)
theorem Rel.offF(R:Rel K cl E0 ρ G st H){a:Addr} (h:strip H a=none):(∀i:Nat,ρ[i]?≠some a)∧E0.H0 a=none:=by
 rcases zCY h with h|⟨ps,h⟩
 ·refine⟨fun i z=>?_,R.fresh0 h⟩
  obtain⟨o,q⟩:=R.there z;rw[h]at q;cases q
 ·exact R.tblF h
theorem Rel.write(R:Rel K cl E0 ρ G st H){i:Nat}{c d:Cell}{a:Addr}{o:HO} (h:st[i]?=some c) (hc:c≠.dead) (hd:d≠.dead) (ha:ρ[i]?=some a) (x:CA K cl ρ G (upd H a o) a d) :
  Rel K cl E0 ρ G (st.set i d) (upd H a o):=by
 have hi:i<st.length:=(Jd.mp h).1;have ga:G a=none:=(R.sep i c a h ha).resolve_left hc
 have same:∀(j:Nat) b,ρ[j]?=some b→b=a→j=i:=fun j b e z=>by
  subst z;have h1:=Jd.mp e;have h2:=Jd.mp ha;exact(List.getElem_inj (h₀:=h1.1) (h₁:=h2.1) R.nd).mp (h1.2.trans h2.2.symm)
 obtain⟨u0,hu0,pu0⟩:=(R.cell i c a h ha).po hc;refine⟨by rw[Jz];exact R.len,R.nd,fun j e b e1 e2=>?_,fun j e b e1 e2=>?_,fun b u e=>?_,fun b u e q=>?_,R.new,R.n0,R.grow,R.ent,R.gnt,fun q hq=>zEJ (R.tabs q hq) hu0 pu0⟩
 ·by_cases hj:j=i
  ·subst hj;rw[JB hi]at e1;rw[ha]at e2;cases e1;cases e2;exact x
  ·rw[Jt (VQ hj)]at e1;exact(R.cell j e b e1 e2).mono (Je _) (Sub.refl _) (Jg fun z=>hj (same j b e2 z))
 ·by_cases hj:j=i
  ·subst hj;rw[ha]at e2;cases e2;exact .inr ga
  ·rw[Jt (VQ hj)]at e1;exact R.sep j e b e1 e2
 ·rw[Jg (fun z=>by rw[z,ga]at e;cases e)];exact R.sub b u e
 ·have ne:b≠a:=fun z=>by
   subst z
   by_cases hn:i<E0.n0
   ·exact q i hn ha
   ·rw[R.new i b ∅ ha]at e;cases e
  rw[Jg ne];exact R.old b u e q
end
abbrev Bs.RWs(B:Bs) (ρ:List Addr) (G:Hp):List W→List V→Prop:=Y.RWs B.K B.cl ρ G
abbrev Bs.RS(B:Bs) (ρ:List Addr) (G:Hp):Sg→L2.St→Prop:=Y.RS B.K B.cl ρ G
section
variable {K:PySem.W.Frag}{cl:Cls}{E0:En}{ρ ρ':List Addr}{G G':Hp}{st:List Cell}{H H':Hp}
def En.hold(E0:En) (G:Hp) (p:Addr) (o:HO):En:=⟨upd E0.H0 p o,E0.n0,G⟩
theorem Rel.apart(R:Rel K cl E0 ρ G st H){p:Addr} (h:H p=none):∀(i:Nat),ρ[i]?≠some p:=fun i e=>by
 obtain⟨u,q⟩:=R.there e;rw[h]at q;cases q
theorem Rel.hold(R:Rel K cl E0 ρ G st H){p:Addr}{o:HO} (h:H p=none) (nt:NT o:=by intro _ z;cases z):Rel K cl (E0.hold G p o) ρ G st (upd H p o):=by
 have gp:=R.gnone h;have ne:∀(i:Nat) a,ρ[i]?=some a→a≠p:=fun i a e z=>R.apart h i (by rw[e,z])
 refine⟨R.len,R.nd,fun i c a e1 e2=>(R.cell i c a e1 e2).mono (Je _) (Sub.refl _) (Jg (ne i a e2)),R.sep,fun a u e=>?_,fun a u e q=>?_,fun i a hi e=>?_,R.n0,fun a u e=>.inl e,fun a u e=>?_,R.gnt,fun q hq=>zDb (R.tabs q hq) h⟩
 ·rw[Jg (fun z=>by rw[z,gp]at e;cases e)];exact R.sub a u e
 ·have e:upd E0.H0 p o a=some u:=e
  by_cases z:a=p
  ·subst z;rw[Jf]at e ⊢;exact e
  ·rw[Jg z]at e ⊢;exact R.old a u e q
 ·show upd E0.H0 p o a=none;rw[Jg (ne i a e)];exact R.new i a hi e
 ·have e:upd E0.H0 p o a=some u:=e
  by_cases z:a=p
  ·subst z;rw[Jf]at e;cases e;exact nt
  ·rw[Jg z]at e;exact R.ent a u e
theorem Rel.held{p:Addr}{o:HO}{G1:Hp} (R:Rel K cl (E0.hold G1 p o) ρ G st H) (hn:∀i:Nat,i<E0.n0→ρ[i]?≠some p) (g1:G1 p=none):H p=some o∧G p=none∧∀i:Nat,ρ[i]?≠some p:=by
 have a1:∀i:Nat,ρ[i]?≠some p:=fun i e=>by
  by_cases hi:i<E0.n0
  ·exact hn i hi e
  ·have q:upd E0.H0 p o p=none:=R.new i p (by show E0.n0≤i;omega) e
   rw[Jf]at q;cases q
 refine⟨R.old p o (show upd E0.H0 p o p=some o from Jf) hn,?_,a1⟩
 cases e:G p with
 |none=>rfl
 |some u =>
  rcases R.grow p u e with q|q|⟨i,_,q⟩
  ·have q:G1 p=some u:=q;rw[g1]at q;cases q
  ·have q:upd E0.H0 p o p=none:=q;rw[Jf]at q;cases q
  ·exact absurd q (a1 i)
theorem Rel.rehold{p:Addr}{o o':HO}{G1:Hp} (R:Rel K cl (E0.hold G1 p o) ρ G st H) (po:PlO o) (hn:∀i:Nat,i<E0.n0→ρ[i]?≠some p) (g1:G1 p=none) (nt:NT o':=by intro _ z;cases z):Rel K cl (E0.hold G p o') ρ G st (upd H p o'):=by
 obtain⟨h1,h2,h3⟩:=R.held hn g1;have ne:∀(i:Nat) a,ρ[i]?=some a→a≠p:=fun i a e z=>h3 i (by rw[e,z])
 refine⟨R.len,R.nd,fun i c a e1 e2=>(R.cell i c a e1 e2).mono (Je _) (Sub.refl _) (Jg (ne i a e2)),R.sep,fun a u e=>?_,fun a u e q=>?_,fun i a hi e=>?_,R.n0,fun a u e=>.inl e,fun a u e=>?_,R.gnt,fun q hq=>zEJ (R.tabs q hq) h1 po⟩
 ·rw[Jg (fun z=>by rw[z,h2]at e;cases e)];exact R.sub a u e
 ·have e:upd E0.H0 p o' a=some u:=e
  by_cases z:a=p
  ·subst z;rw[Jf]at e ⊢;exact e
  ·rw[Jg z]at e ⊢;exact R.old a u (show upd E0.H0 p o a=some u by rw[Jg z];exact e) q
 ·show upd E0.H0 p o' a=none;rw[Jg (ne i a e)];have q:upd E0.H0 p o a=none:=R.new i a hi e;rw[Jg (ne i a e)]at q;exact q
 ·have e:upd E0.H0 p o' a=some u:=e
  by_cases z:a=p
  ·subst z;rw[Jf]at e;cases e;exact nt
  ·rw[Jg z]at e;exact R.ent a u (show upd E0.H0 p o a=some u by rw[Jg z];exact e)
theorem Rel.unhold{p:Addr}{o:HO}{G1:Hp}{ρ0:List Addr} (R:Rel K cl (E0.hold G1 p o) ρ G st H) (h0:E0.H0 p=none) (gr:∀a u,G1 a=some u→E0.G0 a=some u∨E0.H0 a=none∨∃i:Nat,i<E0.n0∧ρ0[i]?=some a) (pr:ρ0 <+: ρ) (l0:E0.n0≤ρ0.length):Rel K cl E0 ρ G st H:=by
 refine⟨R.len,R.nd,R.cell,R.sep,R.sub,fun a u e q=>R.old a u (show upd E0.H0 p o a=some u by rw[Jg (JM e h0)];exact e) q,fun i a hi e=>?_,R.n0,fun a u e=>?_,fun a u e=>R.ent a u (show upd E0.H0 p o a=some u by rw[Jg (JM e h0)];exact e),R.gnt,R.tabs⟩
 ·have q:upd E0.H0 p o a=none:=R.new i a hi e
  by_cases z:a=p
  ·subst z;exact h0
  ·rw[Jg z]at q;exact q
 ·rcases R.grow a u e with q|q|⟨i,hi,q⟩
  ·rcases gr a u q with q|q|⟨i,hi,q⟩
   ·exact .inl q
   ·exact .inr (.inl q)
   ·obtain⟨t,rfl⟩:=pr;exact .inr (.inr ⟨i,hi,by rw[Ja (JA hi l0)];exact q⟩)
  ·have q:upd E0.H0 p o a=none:=q
   by_cases z:a=p
   ·subst z;exact .inr (.inl h0)
   ·rw[Jg z]at q;exact .inr (.inl q)
  ·exact .inr (.inr ⟨i,hi,q⟩)
theorem Rel.adopt(R:Rel K cl E0 ρ G st H){p:Addr}{o:HO} (h:H p=some o) (gp:G p=none) (hp:∀i:Nat,ρ[i]?≠some p) (h0:E0.H0 p=none) (nt:NT o:=by intro _ z;cases z):Rel K cl E0 ρ (upd G p o) st H:=by
 refine⟨R.len,R.nd,fun i c a e1 e2=>(R.cell i c a e1 e2).mono (Je _) (Sub.new gp) rfl,fun i c a e1 e2=>?_,fun a u e=>?_,R.old,R.new,R.n0,fun a u e=>?_,R.ent,fun a u e=>?_,fun q hq=>(R.tabs q hq).sub (Sub.new gp)⟩
 ·rw[Jg (fun z=>hp i (by rw[e2,z]))];exact R.sep i c a e1 e2
 ·by_cases z:a=p
  ·subst z;rw[Jf]at e;cases e;exact h
  ·rw[Jg z]at e;exact R.sub a u e
 ·by_cases z:a=p
  ·subst z;exact .inr (.inl h0)
  ·rw[Jg z]at e;exact R.grow a u e
 ·by_cases z:a=p
  ·subst z;rw[Jf]at e;cases e;exact nt
  ·rw[Jg z]at e;exact R.gnt a u e
theorem Rel.adoptC(R:Rel K cl E0 ρ G st H){p:Addr}{c:Cell} (hc:c≠.dead) (gp:G p=none) (hp:∀i:Nat,ρ[i]?≠some p) (h0:E0.H0 p=none) (x:CA K cl (ρ++[p]) G H p c):Rel K cl E0 (ρ++[p]) G (st++[c]) H:=by
 have pn:p∉ρ:=fun m=>by
  obtain⟨i,hi⟩:=JH m;exact hp i hi
 have cut:∀(i:Nat) (d:Cell) a,(st++[c])[i]?=some d→(ρ++[p])[i]?=some a→(st[i]?=some d∧ρ[i]?=some a)∨(d=c∧a=p):=fun i d a e1 e2=>by
  by_cases hi:i<st.length
  ·rw[Ja hi]at e1;rw[Ja (by rw[R.len];exact hi)]at e2
   exact .inl ⟨e1,e2⟩
  ·have z:i=st.length:=by
    have:=(Jd.mp e1).1
    rw[Jv]at this;simp at this;omega
   subst z;rw[Jo (Ju _)]at e1;rw[←R.len,Jo (Ju _)]at e2;simp at e1 e2;exact .inr ⟨e1.symm,e2.symm⟩
 refine⟨by simp[R.len],?_,fun i d a e1 e2=>?_,fun i d a e1 e2=>?_,R.sub,fun a u e q=>?_,fun i a hi e=>?_,by rw[Jv];exact VH R.n0 (JP _ _),fun a u e=>?_,R.ent,R.gnt,R.tabs⟩
 ·exact Vw.mpr ⟨R.nd,by simp,fun a ha b hb=>by simp at hb;subst hb;exact fun z=>pn (z▸ha)⟩
 ·rcases cut i d a e1 e2 with⟨h1,h2⟩|⟨rfl,rfl⟩
  ·exact(R.cell i d a h1 h2).mono (JT _ _) (Sub.refl _) rfl
  ·exact x
 ·rcases cut i d a e1 e2 with⟨h1,h2⟩|⟨rfl,rfl⟩
  ·exact R.sep i d a h1 h2
  ·exact .inr gp
 ·exact R.old a u e fun i hi z=>q i hi (by
   have hl:i<ρ.length:=JA hi R.n0
   rw[Ja hl];exact z)
 ·by_cases hl:i<ρ.length
  ·rw[Ja hl]at e;exact R.new i a hi e
  ·rw[Jo ∅]at e
   have:a=p:=by
    have hz:=(Jd.mp e).1;simp at hz;rw[hz]at e;simp at e;exact e.symm
   subst this;exact h0
 ·rcases R.grow a u e with q|q|⟨i,hi,q⟩
  ·exact .inl q
  ·exact .inr (.inl q)
  ·exact .inr (.inr ⟨i,hi,by rw[Ja (JA hi R.n0)];exact q⟩)
end
section
variable {X:Cx}
def TT'(X:Cx) (e:Expr):TT:=fun σ H Q=>∀(pins:List (Addr×Obj)) (s:Shared),Inv X pins σ H s→wpAny (model X.prog X.w) X.A (isTrue e X.env (eval e X.env)) (TP X pins σ Q) X.xe s
def TW'(X:Cx) (e:Expr):TT:=fun σ H Q=>∀(whole:Sem Value) (pins:List (Addr×Obj)) (s:Shared),Inv X pins σ H s→wpAny (model X.prog X.w) X.A (isTrue e X.env whole) (TP X pins σ Q) X.xe s
def TA'(X:Cx) (es:List Expr):TA:=fun σ H Q=>∀(pos:Pos) (pins:List (Addr×Obj)) (s:Shared),Inv X pins σ H s→wpAny (model X.prog X.w) X.A (spliced (backTo pos (starEach es X.env))) (AP X pins σ Q) X.xe s
theorem T.pe{e:Expr}:PE X e (T X e):=⟨fun pins s σ H Q I h=>h pins s I⟩
theorem TT'.pt{e:Expr}:PT X e (TT' X e):=⟨fun pins s σ H Q I h=>h pins s I⟩
theorem TW'.pw{e:Expr}:PW X e (TW' X e):=⟨fun wh pins s σ H Q I h=>h wh pins s I⟩
theorem TA'.pa{es:List Expr}:PA X es (TA' X es):=⟨fun pos pins s σ H Q I h=>h pos pins s I⟩
theorem TT'.of{e:Expr}{t:TT}{σ:L2.St}{H:Hp}{Q:Bool→Hp→Prop} (h:PT X e t) (q:t σ H Q):TT' X e σ H Q:=fun pins s I=>h.run pins s σ H Q I q
theorem TW'.of{e:Expr}{t:TT}{σ:L2.St}{H:Hp}{Q:Bool→Hp→Prop} (h:PW X e t) (q:t σ H Q):TW' X e σ H Q:=fun wh pins s I=>h.run wh pins s σ H Q I q
theorem TA'.of{es:List Expr}{t:TA}{σ:L2.St}{H:Hp}{Q:List V→Hp→Prop} (h:PA X es t) (q:t σ H Q):TA' X es σ H Q:=fun pos pins s I=>h.run pos pins s σ H Q I q
end
abbrev eqB:List Addr→Hp→Bool→Bool→Prop:=fun _ _ a b=>a=b
structure ST (K:PySem.W.Frag) (cl:Cls) (X:Cx) (Wx:WX) (m:TM) (e:Expr):Prop where
 run:∀E0 ρ G σ st τ H Q,(bs K cl E0).Rel ρ G st H→RS K cl ρ G σ τ→Aft (bs K cl E0) eqB ρ G (m σ st) Q (fun c d H'=>Wx c d τ H')→TT' X e τ H Q
structure SW (K:PySem.W.Frag) (cl:Cls) (X:Cx) (Wx:WX) (m:TM) (e:Expr):Prop where
 run:∀E0 ρ G σ st τ H Q,(bs K cl E0).Rel ρ G st H→RS K cl ρ G σ τ→Aft (bs K cl E0) eqB ρ G (m σ st) Q (fun c d H'=>Wx c d τ H')→TW' X e τ H Q
structure SA (K:PySem.W.Frag) (cl:Cls) (X:Cx) (Wx:WX) (m:AM) (es:List Expr):Prop where
 run:∀E0 ρ G σ st τ H Q,(bs K cl E0).Rel ρ G st H→RS K cl ρ G σ τ→Aft (bs K cl E0) (bs K cl E0).RWs ρ G (m σ st) Q (fun c d H'=>Wx c d τ H')→TA' X es τ H Q
section
variable {K:PySem.W.Frag}{cl:Cls}{X:Cx}{Wx:WX}{E0:En}{ρ ρ':List Addr}{G G':Hp}{σ:Sg}{τ:L2.St}{st:List Cell}{H:Hp}
theorem Aft.newP{B:Bs}{x:P}{p:Addr}{o:HO}{Q:VK}{Z:ZX} (h:Aft B B.RW ρ G (.ok (.p x) st) Q Z) (R:B.Rel ρ G st H) (hp:H p=none) (u:RP B.K B.cl (upd G p o) x (.ref p)) (nt:NT o:=by intro _ z;cases z):Q (.ref p) (upd H p o) :=
 h ρ (upd G p o) (upd H p o) (.ref p) (Je _) (Sub.new (R.gnone hp)) (R.froze hp nt) u
theorem Aft.newC{B:Bs}{c:Cell}{p:Addr}{o:HO}{Q:VK}{Z:ZX} (h:Aft B B.RW ρ G (.ok (.r st.length) (st++[c])) Q Z) (R:B.Rel ρ G st H) (hp:H p=none) (hc:c≠.dead) (u:CA B.K B.cl (ρ++[p]) G (upd H p o) p c):Q (.ref p) (upd H p o) :=
 h (ρ++[p]) G (upd H p o) (.ref p) (JT _ _) (Sub.refl _) (R.cellN hp hc (R.fresh0 hp) u) ⟨p,by rw[←R.len];simp,rfl⟩
def mC(x:P):EM:=fun _ st=>.ok (.p x) st
theorem se_C{x:P}{v:V}{e:Expr} (h:PE X e (tC v)) (r:∀G,RP K cl G x v):SE K cl X Wx (mC x) e :=
 ⟨fun E0 ρ G σ st τ H Q R S q=>T.of h (Aft.here (b:=v) q R (r G))⟩
theorem zAF{i:Int}{j:Nat}{pos:Pos}:SE K cl X Wx (mC (.int i)) (.Constant (.int i) j pos):=se_C pe_int fun _=>.int i
theorem zCu{i:Bool}{j:Nat}{pos:Pos}:SE K cl X Wx (mC (.bl i)) (.Constant (.bool i) j pos):=se_C pe_bl fun _=>.bl i
theorem zDp{j:Nat}{pos:Pos}:SE K cl X Wx (mC .non) (.Constant .none j pos):=se_C pe_non fun _=>.non
theorem zAQ{i:Str}{j:Nat}{pos:Pos}:SE K cl X Wx (mC (.str i)) (.Constant (.str i) j pos):=se_C pe_str fun _=>.str i
def mBin(f:W→W→List Cell→Res W) (a b:EM):EM:=fun σ st=>(a σ st).bind fun x st1=>(b σ st1).bind fun y st2=>f x y st2
def VOp(K:PySem.W.Frag) (cl:Cls) (f:W→W→List Cell→Res W) (r:R2):Prop :=
 ∀E0 ρ G st H x y v u Q Z,(bs K cl E0).Rel ρ G st H→RW K cl ρ G x v→RW K cl ρ G y u→Aft (bs K cl E0) (bs K cl E0).RW ρ G (f x y st) Q Z→r v u H Q
theorem zHH{t:R2→TE→TE→TE}{r:R2}{f:W→W→List Cell→Res W}{a b:EM}{pa pb e:Expr} (ht:∀σ H Q,(T X pa σ H fun x H1=>T X pb σ H1 fun y H2=>r x y H2 Q)→T X e σ H Q) (hf:VOp K cl f r)
  (ha:SE K cl X Wx a pa) (hb:SE K cl X Wx b pb):SE K cl X Wx (mBin f a b) e:=by
 refine⟨fun E0 ρ G σ st τ H Q R S h=>ht τ H Q ?_⟩
 refine ha.run E0 ρ G σ st τ H _ R S (Aft.seq h fun x st1 ρ1 G1 H1 v e1 p1 s1 R1 u1 h1=>?_)
 refine hb.run E0 ρ1 G1 σ st1 τ H1 _ R1 (S.mono p1 s1) (Aft.seq h1 fun y st2 ρ2 G2 H2 u e2 p2 s2 R2 u2 h2=>?_)
 exact hf E0 ρ2 G2 st2 H2 x y v u Q _ R2 (RW.mono p2 s2 u1) u2 h2
theorem zDR{op:Operator}{r:R2}{f:W→W→List Cell→Res W}{a b:EM}{pa pb:Expr}{pos:Pos} (ho:OpR X (binaryOp op) r) (hf:VOp K cl f r) (ha:SE K cl X Wx a pa) (hb:SE K cl X Wx b pb) :
  SE K cl X Wx (mBin f a b) (.BinOp pa op pb pos):=zHH (t:=tOp) (fun σ H Q q=>T.of (pe_op ho T.pe T.pe) q) hf ha hb
theorem zE8{op:CmpOp}{r:R2}{f:W→W→List Cell→Res W}{a b:EM}{pa pb:Expr}{pos:Pos} (ho:OpR X (compareOp op) r) (hm:behindInMarks op pb=false) (hf:VOp K cl f r) (ha:SE K cl X Wx a pa) (hb:SE K cl X Wx b pb) :
  SE K cl X Wx (mBin f a b) (.Compare pa [op] [pb] pos):=zHH (t:=tOp) (fun σ H Q q=>T.of (pe_cmpR ho T.pe T.pe hm) q) hf ha hb
theorem VOp.or{f:W→W→List Cell→Res W}{r r':R2} (h:∀E0 ρ G st H x y v u Q Z,(bs K cl E0).Rel ρ G st H→RW K cl ρ G x v→RW K cl ρ G y u→Aft (bs K cl E0) (bs K cl E0).RW ρ G (f x y st) Q Z→r v u H Q∨r' v u H Q):VOp K cl f (fun x y H Q=>r x y H Q∨r' x y H Q):=h
def zDd(st:List Cell):W→Option (List W)
 | .p (.lst l)=>some (l.map .p)
 | .r i=>match st[i]? with
  |some (.lst l)=>some l
  |_=>none
 |_=>none
theorem zEG(R:(bs K cl E0).Rel ρ G st H){w:W}{v:V} (r:RW K cl ρ G w v){l:List W} (e:zDd st w=some l):∃a vs,v=.ref a∧H a=some (.lst vs)∧RWs K cl ρ G l vs:=by
 cases w with
 |p x =>
  cases x with
  |lst m =>
   obtain rfl:m.map W.p=l:=Jb e;cases r with
   |lst h q=>exact⟨_,_,rfl,R.sub _ _ h,.of_pures q⟩
  |_=>cases e
 |r i =>
  obtain⟨a,ha,rfl⟩:=r;have e:(match st[i]? with|some (.lst l)=>some l|_=>none)=some l:=e
  split at e
  ·rename_i m em
   cases e;obtain⟨b,hb,⟨vs,h1,h2⟩,_⟩:=R.at em;have hb:ρ[i]?=some b:=hb;rw[ha]at hb;cases hb;exact⟨a,vs,rfl,h1,h2⟩
  ·cases e
def LIM:Nat:=1000000
theorem zCD{n:Nat} (h:n≤LIM):n≤sizeLine:=by rw[Vh];unfold LIM at h;omega
def vI2(C:Int→Int→Bool) (g:Int→Int→P):W→W→List Cell→Res W
 | .p (.int i),.p (.int j),st=>if C i j then .ok (.p (g i j)) st else .no
 |_,_,_=>.no
theorem zEL{C:Int→Int→Bool}{g:Int→Int→P}{g':Int→Int→V} (hg:∀i j G,RP K cl G (g i j) (g' i j)){D:Int→Int→Prop} (hC:∀i j,C i j=true→D i j):VOp K cl (vI2 C g) (rI D g'):=by
 intro E0 ρ G st H x y v u Q Z R rx ry h;unfold vI2 at h;split at h
 ·rename_i i j
  cases rx;cases ry;split at h
  ·rename_i hc
   exact⟨i,j,rfl,rfl,hC i j hc,h.here R (hg i j G)⟩
  ·exact h.elim
 ·exact h.elim
theorem zDy{g:Int→Int→P}{g':Int→Int→V} (hg:∀i j G,RP K cl G (g i j) (g' i j)):VOp K cl (vI2 (fun _ _=>true) g) (rI0 g'):=by
 intro E0 ρ G st H x y v u Q Z R rx ry h;unfold vI2 at h;split at h
 ·rename_i i j
  cases rx;cases ry;exact⟨i,j,rfl,rfl,h.here R (hg i j G)⟩
 ·exact h.elim
end
section
variable {K:PySem.W.Frag}{cl:Cls}{X:Cx}{Wx:WX}{E0:En}{ρ ρ':List Addr}{G G':Hp}{σ:Sg}{τ:L2.St}{st:List Cell}{H:Hp}
def vTru(st:List Cell):W→Option Bool
 | .p .non=>some false
 | .p (.bl b)=>some b
 | .p (.int i)=>some (i != 0)
 | .p (.str s)=>if s.length≤LIM then some ((s.length:Int) != 0)else none
 | .p (.tup l)=>some (!l.isEmpty)
 | .p (.lst l)=>some (!l.isEmpty)
 | .p (.dk ks _)=>some (!ks.isEmpty)
 | .r i=>match st[i]? with
  |some (.lst l)=>some (!l.isEmpty)
  |some (.dk ks _)=>some (!ks.isEmpty)
  |_=>none
 |_=>none
theorem zDu{α β:Type}{l:List α}{m:List β} (h:l.length=m.length):(l.zip m).isEmpty=l.isEmpty:=by
 cases l with
 |nil=>rfl
 |cons a l =>
  cases m with
  |nil=>cases h
  |cons b m=>rfl
theorem zHt(R:(bs K cl E0).Rel ρ G st H){w:W}{v:V} (r:RW K cl ρ G w v){k:Bool} (e:vTru st w=some k):TruV K v H k:=by
 cases w with
 |p x =>
  cases r with
  |non=>exact(Jb e).symm
  |bl b=>exact(Jb e).symm
  |int i=>exact(Jb e).symm
  |str s =>
   have e:(if s.length≤LIM then some ((s.length:Int) != 0)else none)=some k:=e
   split at e
   ·rename_i h
    exact⟨zCD h,(Jb e).symm⟩
   ·cases e
  |tup h q=>exact .inr (.inl ⟨_,R.sub.sqT h,by rw[←q.empty];exact(Jb e).symm⟩)
  |lst h q=>exact .inl ⟨_,.inl (.inl (R.sub _ _ h)),by rw[←q.empty];exact(Jb e).symm⟩
  |dk h z q=>exact .inr (.inr ⟨_,R.sub _ _ h,by rw[zDu z];exact(Jb e).symm⟩)
  |scr h=>cases e
  |obj c h z q=>cases e
  |exn c x h d z q=>cases e
  |lam _ _ _ _ _=>cases e
  |cls _=>cases e
  |fd _ _ _=>cases e
  |fn _ _ _ _ _ _ _=>cases e
 |r i =>
  obtain⟨a,ha,rfl⟩:=r;have e:(match st[i]? with|some (.lst l)=>some (!l.isEmpty)|some (.dk ks _)=>some (!ks.isEmpty)|_=>none)=some k:=e
  split at e
  ·rename_i m em
   obtain⟨b,hb,⟨vs,h1,h2⟩,_⟩:=R.at em;have hb:ρ[i]?=some b:=hb;rw[ha]at hb;cases hb;exact .inl ⟨vs,.inl (.inl h1),by rw[←h2.empty];exact(Jb e).symm⟩
  ·rename_i ks l em
   obtain⟨b,hb,⟨vs,h1,z,h2⟩,_⟩:=R.at em;have hb:ρ[i]?=some b:=hb;rw[ha]at hb;cases hb;exact .inr (.inr ⟨_,h1,by rw[zDu z];exact(Jb e).symm⟩)
  ·cases e
def mTru(m:EM):TM:=fun σ st=>(m σ st).bind fun w st1=>match vTru st1 w with
 |some k=>.ok k st1
 |none=>.no
theorem zFL{a:EM}{pa:Expr} (g:GX K X) (ha:SE K cl X Wx a pa) (he:∀whole,isTrue pa X.env whole=(do let v ←whole;standAt pa.pos;holding [v] (truthy v))):ST K cl X Wx (mTru a) pa:=by
 obtain⟨hK,_⟩:=g;subst hK;refine⟨fun E0 ρ G σ st τ H Q R S h=>TT'.of (pt_truth T.pe he) ?_⟩
 refine ha.run E0 ρ G σ st τ H _ R S (Aft.seq h fun x st1 ρ1 G1 H1 v e1 p1 s1 R1 u1 h1=>?_)
 cases e:vTru st1 x with
 |some k =>
  rw[e]at h1;exact⟨k,zHt R1 u1 e,h1.here R1 rfl⟩
 |none=>rw[e]at h1;exact h1.elim
def mTst(m:EM):TM:=fun σ st=>(m σ st).bind fun w st1=>match w with
 | .p (.bl k)=>.ok k st1
 |_=>.no
theorem zDO{op:CmpOp}{r:R2}{f:W→W→List Cell→Res W}{a b:EM}{pa pb:Expr}{pos:Pos} (ho:OpR X (compareOp op) r) (hm:behindInMarks op pb=false) (hf:VOp K cl f r) (ha:SE K cl X Wx a pa) (hb:SE K cl X Wx b pb) :
  ST K cl X Wx (mTst (mBin f a b)) (.Compare pa [op] [pb] pos):=by
 refine⟨fun E0 ρ G σ st τ H Q R S h=>TT'.of (pt_cmpR ho T.pe T.pe hm) ?_⟩
 have h:Aft (bs K cl E0) eqB ρ G ((a σ st).bind fun x st1=>(b σ st1).bind fun y st2=>(f x y st2).bind fun w st3=>match w with | .p (.bl k)=>.ok k st3|_=>.no) Q (fun c d H'=>Wx c d τ H'):=by
  have e:mTst (mBin f a b) σ st=((a σ st).bind fun x st1=>(b σ st1).bind fun y st2=>(f x y st2).bind fun w st3=>match w with | .p (.bl k)=>.ok k st3|_=>.no):=by
   unfold mTst mBin Res.bind;cases a σ st with
   |ok x st1 =>
    dsimp only;cases b σ st1 with
    |ok y st2=>rfl
    |exc _ _=>rfl
    |no=>rfl
   |exc _ _=>rfl
   |no=>rfl
  rw[←e];exact h
 refine ha.run E0 ρ G σ st τ H _ R S (Aft.seq h fun x st1 ρ1 G1 H1 v e1 p1 s1 R1 u1 h1=>?_)
 refine hb.run E0 ρ1 G1 σ st1 τ H1 _ R1 (S.mono p1 s1) (Aft.seq h1 fun y st2 ρ2 G2 H2 u e2 p2 s2 R2 u2 h2=>?_)
 refine hf E0 ρ2 G2 st2 H2 x y v u _ _ R2 (RW.mono p2 s2 u1) u2 (Aft.seq h2 fun w st3 ρ3 G3 H3 z e3 p3 s3 R3 u3 h3=>?_)
 cases w with
 |p w =>
  cases u3 with
  |bl k=>exact⟨k,rfl,h3.here R3 rfl⟩
  |_=>exact h3.elim
 |r i=>exact h3.elim
def zHG(a b:TM):TM:=fun σ st=>(a σ st).bind fun c st1=>if c=true then b σ st1 else .ok false st1
def mOrT(a b:TM):TM:=fun σ st=>(a σ st).bind fun c st1=>if c=true then .ok true st1 else b σ st1
def zGs(a:TM):TM:=fun σ st=>(a σ st).bind fun c st1=>.ok (!c) st1
theorem zFY{a:TM}{pa:Expr} (h:SW K cl X Wx a pa):ST K cl X Wx a pa:=⟨fun E0 ρ G σ st τ H Q R S q=>TT'.of (TW'.pw.pt) (h.run E0 ρ G σ st τ H Q R S q)⟩
theorem zHA{a:TM}{pa:Expr}{pos:Pos} (h:ST K cl X Wx a pa):SW K cl X Wx a (.BoolOp .And [pa] pos):=⟨fun E0 ρ G σ st τ H Q R S q=>TW'.of (pw_and1 TT'.pt) (h.run E0 ρ G σ st τ H Q R S q)⟩
theorem zET{a:TM}{pa:Expr}{pos:Pos} (h:ST K cl X Wx a pa):SW K cl X Wx a (.BoolOp .Or [pa] pos):=⟨fun E0 ρ G σ st τ H Q R S q=>TW'.of (pw_or1 TT'.pt) (h.run E0 ρ G σ st τ H Q R S q)⟩
theorem sw_and{a b:TM}{pa pb:Expr}{rest:List Expr}{pos:Pos} (ha:ST K cl X Wx a pa) (hb:SW K cl X Wx b (.BoolOp .And (pb::rest) pos)):SW K cl X Wx (zHG a b) (.BoolOp .And (pa::pb::rest) pos):=by
 refine⟨fun E0 ρ G σ st τ H Q R S h=>TW'.of (pw_and TT'.pt TW'.pw) ?_⟩
 refine ha.run E0 ρ G σ st τ H _ R S (Aft.seq h fun c st1 ρ1 G1 H1 d e1 p1 s1 R1 u1 h1=>?_)
 obtain rfl:c=d:=u1;cases c with
 |true=>exact hb.run E0 ρ1 G1 σ st1 τ H1 Q R1 (S.mono p1 s1) h1
 |false=>exact h1.here R1 rfl
theorem zGm{a b:TM}{pa pb:Expr}{rest:List Expr}{pos:Pos} (ha:ST K cl X Wx a pa) (hb:SW K cl X Wx b (.BoolOp .Or (pb::rest) pos)):SW K cl X Wx (mOrT a b) (.BoolOp .Or (pa::pb::rest) pos):=by
 refine⟨fun E0 ρ G σ st τ H Q R S h=>TW'.of (pw_or TT'.pt TW'.pw) ?_⟩
 refine ha.run E0 ρ G σ st τ H _ R S (Aft.seq h fun c st1 ρ1 G1 H1 d e1 p1 s1 R1 u1 h1=>?_)
 obtain rfl:c=d:=u1;cases c with
 |true=>exact h1.here R1 rfl
 |false=>exact hb.run E0 ρ1 G1 σ st1 τ H1 Q R1 (S.mono p1 s1) h1
theorem st_not{a:TM}{pa:Expr}{pos:Pos} (ha:ST K cl X Wx a pa):ST K cl X Wx (zGs a) (.UnaryOp .Not pa pos):=by
 refine⟨fun E0 ρ G σ st τ H Q R S h=>TT'.of (pt_not TT'.pt) ?_⟩
 refine ha.run E0 ρ G σ st τ H _ R S (Aft.seq h fun c st1 ρ1 G1 H1 d e1 p1 s1 R1 u1 h1=>?_)
 obtain rfl:c=d:=u1;exact h1.here R1 rfl
def zEW(a b:EM):EM:=fun σ st=>(a σ st).bind fun w st1=>match w with
 | .p (.bl c)=>if c=true then b σ st1 else .ok (.p (.bl false)) st1
 |_=>.no
theorem zEy{op:BoolOp}{a:EM}{pa:Expr}{pos:Pos} (h:SE K cl X Wx a pa):SE K cl X Wx a (.BoolOp op [pa] pos):=⟨fun E0 ρ G σ st τ H Q R S q=>T.of (pe_one T.pe) (h.run E0 ρ G σ st τ H Q R S q)⟩
theorem zFQ{a b:EM}{pa pb:Expr}{rest:List Expr}{pos:Pos} (ha:SE K cl X Wx a pa) (hb:SE K cl X Wx b (.BoolOp .And (pb::rest) pos)):SE K cl X Wx (zEW a b) (.BoolOp .And (pa::pb::rest) pos):=by
 refine⟨fun E0 ρ G σ st τ H Q R S h=>T.of (pe_and T.pe T.pe) ?_⟩
 refine ha.run E0 ρ G σ st τ H _ R S (Aft.seq h fun w st1 ρ1 G1 H1 v e1 p1 s1 R1 u1 h1=>?_)
 cases w with
 |p w =>
  cases u1 with
  |bl c =>
   refine⟨c,rfl,?_⟩;cases c with
   |true=>exact hb.run E0 ρ1 G1 σ st1 τ H1 Q R1 (S.mono p1 s1) h1
   |false=>exact Aft.here (b:=V.bl false) h1 R1 (RP.bl false)
  |_=>exact h1.elim
 |r i=>exact h1.elim
def mNil:AM:=fun _ st=>.ok [] st
def zAC(a:EM) (r:AM):AM:=fun σ st=>(a σ st).bind fun w st1=>(r σ st1).bind fun ws st2=>.ok (w::ws) st2
theorem zAH:SA K cl X Wx mNil []:=⟨fun E0 ρ G σ st τ H Q R S h=>TA'.of pa_nil (Aft.here (b:=([]:List V)) h R .nil)⟩
theorem zAB{a:EM}{r:AM}{e:Expr}{es:List Expr} (ha:SE K cl X Wx a e) (hr:SA K cl X Wx r es) (hs:starEach (e::es) X.env=(false,eval e X.env)::starEach es X.env):SA K cl X Wx (zAC a r) (e::es):=by
 refine⟨fun E0 ρ G σ st τ H Q R S h=>TA'.of (Vr T.pe TA'.pa hs) ?_⟩
 refine ha.run E0 ρ G σ st τ H _ R S (Aft.seq h fun w st1 ρ1 G1 H1 v e1 p1 s1 R1 u1 h1=>?_)
 refine hr.run E0 ρ1 G1 σ st1 τ H1 _ R1 (S.mono p1 s1) (Aft.seq h1 fun ws st2 ρ2 G2 H2 vs e2 p2 s2 R2 u2 h2=>?_)
 exact Aft.here (b:=v::vs) h2 R2 (.cons (RW.mono p2 s2 u1) u2)
def mTup(a:AM):EM:=fun σ st=>(a σ st).bind fun ws st1=>match pures ws with
 |some l=>if l.length≤LIM then .ok (.p (.tup l)) st1 else .no
 |none=>.no
def mLst(a:AM):EM:=fun σ st=>(a σ st).bind fun ws st1=>match pures ws with
 |some l=>if l.length≤LIM then .ok (.p (.lst l)) st1 else .no
 |none=>.no
def zHl(a:AM):EM:=fun σ st=>(a σ st).bind fun ws st1=>if ws.length≤LIM then .ok (.r st1.length) (st1++[.lst ws])else .no
theorem se_tup{a:AM}{es:List Expr}{k:Nat}{pos:Pos} (ha:SA K cl X Wx a es):SE K cl X Wx (mTup a) (.Tuple es k pos):=by
 refine⟨fun E0 ρ G σ st τ H Q R S h=>T.of (pe_tup TA'.pa) ?_⟩
 refine ha.run E0 ρ G σ st τ H _ R S (Aft.seq h fun ws st1 ρ1 G1 H1 vs e1 p1 s1 R1 u1 h1=>?_)
 cases e:pures ws with
 |none=>rw[e]at h1;exact h1.elim
 |some l =>
  rw[e]at h1;have q:=u1.pures e;dsimp only at h1;split at h1
  ·rename_i hl
   refine⟨by rw[←q.length];exact zCD hl,fun p hp=>?_⟩
   exact h1.newP R1 hp (.tup (.inl (.inl Jf)) (q.mono (Sub.new (R1.gnone hp))))
  ·exact h1.elim
theorem zAZ{a:AM}{es:List Expr}{pos:Pos} (ha:SA K cl X Wx a es):SE K cl X Wx (mLst a) (.List es pos):=by
 refine⟨fun E0 ρ G σ st τ H Q R S h=>T.of (pe_lst TA'.pa) ?_⟩
 refine ha.run E0 ρ G σ st τ H _ R S (Aft.seq h fun ws st1 ρ1 G1 H1 vs e1 p1 s1 R1 u1 h1=>?_)
 cases e:pures ws with
 |none=>rw[e]at h1;exact h1.elim
 |some l =>
  rw[e]at h1;have q:=u1.pures e;dsimp only at h1;split at h1
  ·rename_i hl
   refine⟨by rw[←q.length];exact zCD hl,fun p hp=>?_⟩
   exact h1.newP R1 hp (.lst Jf (q.mono (Sub.new (R1.gnone hp))))
  ·exact h1.elim
theorem zHv{a:AM}{es:List Expr}{pos:Pos} (ha:SA K cl X Wx a es):SE K cl X Wx (zHl a) (.List es pos):=by
 refine⟨fun E0 ρ G σ st τ H Q R S h=>T.of (pe_lst TA'.pa) ?_⟩
 refine ha.run E0 ρ G σ st τ H _ R S (Aft.seq h fun ws st1 ρ1 G1 H1 vs e1 p1 s1 R1 u1 h1=>?_)
 split at h1
 ·rename_i hl
  refine⟨by rw[←u1.length];exact zCD hl,fun p hp=>?_⟩
  exact h1.newC R1 hp (fun z=>by cases z) ⟨vs,Jf,RWs.mono (JT _ _) (Sub.refl _) u1⟩
 ·exact h1.elim
def zD3(K:PySem.W.Frag) (cl:Cls) (f:List W→List Cell→Res W) (r:List V→Hp→VK→Prop):Prop :=
 ∀E0 ρ G st H ws vs Q Z,(bs K cl E0).Rel ρ G st H→RWs K cl ρ G ws vs→Aft (bs K cl E0) (bs K cl E0).RW ρ G (f ws st) Q Z→r vs H Q
def zAk(f:List W→List Cell→Res W) (a:AM):EM:=fun σ st=>(a σ st).bind f
theorem zBp{id:String}{r:List V→Hp→VK→Prop}{f:List W→List Cell→Res W}{a:AM}{x:Str}{p pos:Pos}{e:Expr}{es:List Expr} (hc:CallR X (.builtin id) r) (hf:zD3 K cl f r) (hg:Gl X x) (hm:X.mg x=none) (hv:bootBuiltins x=some (.builtin id))
  (ha:SA K cl X Wx a (e::es)) (hn:x ≠ "__name__") (hdb:(x==("__debug__" : Str))=false)
  (he:starEach (e::es) X.env=(false,eval e X.env)::starEach es X.env) (hpl:(backTo pos (starEach es X.env)).any (·.1)=false):SE K cl X Wx (zAk f a) (.Call (.Name x p) (e::es) [] pos):=by
 refine⟨fun E0 ρ G σ st τ H Q R S h=>T.of (pe_callB hc hg hm hv TA'.pa hn hdb he hpl) ?_⟩
 exact ha.run E0 ρ G σ st τ H _ R S (Aft.seq h fun ws st1 ρ1 G1 H1 vs e1 p1 s1 R1 u1 h1=>hf E0 ρ1 G1 st1 H1 ws vs Q _ R1 u1 h1)
theorem zA7{id:String}{r:List V→Hp→VK→Prop}{f:List W→List Cell→Res W}{a:AM}{x:Str}{p pos:Pos}{e:Expr}{es:List Expr} (hc:CallR X (.type id) r) (hf:zD3 K cl f r) (hg:Gl X x) (hm:X.mg x=none) (hv:bootBuiltins x=some (.type id))
  (ha:SA K cl X Wx a (e::es)) (hn:x ≠ "__name__") (hdb:(x==("__debug__" : Str))=false)
  (he:starEach (e::es) X.env=(false,eval e X.env)::starEach es X.env) (hpl:(backTo pos (starEach es X.env)).any (·.1)=false):SE K cl X Wx (zAk f a) (.Call (.Name x p) (e::es) [] pos):=by
 refine⟨fun E0 ρ G σ st τ H Q R S h=>T.of (pe_callTy hc hg hm hv TA'.pa hn hdb he hpl) ?_⟩
 exact ha.run E0 ρ G σ st τ H _ R S (Aft.seq h fun ws st1 ρ1 G1 H1 vs e1 p1 s1 R1 u1 h1=>hf E0 ρ1 G1 st1 H1 ws vs Q _ R1 u1 h1)
theorem se_ix{r:R2}{f:W→W→List Cell→Res W}{a b:EM}{pa pb:Expr}{pos:Pos} (hr:IxR X r) (hf:VOp K cl f r) (hs:PlainIx pb) (ha:SE K cl X Wx a pa) (hb:SE K cl X Wx b pb) :
  SE K cl X Wx (mBin f a b) (.Subscript pa pb pos):=zHH (t:=tOp) (fun σ H Q q=>T.of (pe_ix hr T.pe T.pe hs) q) hf ha hb
theorem RWs.atI{l:List W}{vs:List V} (r:RWs K cl ρ G l vs){i:Int}{w:W} (h:L2.atI l i=some w):∃v,L2.atI vs i=some v∧RW K cl ρ G w v:=by
 unfold L2.atI at h ⊢;rw[←r.length];cases e:ixN l.length i with
 |none=>rw[e]at h;cases h
 |some j =>
  rw[e]at h;exact r.get h
theorem RPs.atI{l:List P}{vs:List V} (r:RPs K cl G l vs){i:Int}{w:P} (h:L2.atI l i=some w):∃v,L2.atI vs i=some v∧RP K cl G w v:=by
 unfold L2.atI at h ⊢;rw[←r.length];cases e:ixN l.length i with
 |none=>rw[e]at h;cases h
 |some j =>
  rw[e]at h;exact r.get h
def vIx(x y:W) (st:List Cell):Res W:=match y with
 | .p (.int i)=>match x with
  | .p (.tup l)=>match L2.atI l i with
   |some z=>.ok (.p z) st
   |none=>.no
  | .p (.str s)=>if s.length≤LIM then match L2.atI s.cps.toList i with
   |some c=>.ok (.p (.str ⟨#[c]⟩)) st
   |none=>.no else .no
  |_=>match zDd st x with
   |some l=>match L2.atI l i with
    |some z=>.ok z st
    |none=>.no
   |none=>.no
 |_=>.no
theorem vIx_ok:VOp K cl vIx (rIx K):=by
 intro E0 ρ G st H x y v u Q Z R rx ry h;unfold vIx at h;split at h
 ·rename_i i
  cases ry;split at h
  ·rename_i l
   cases rx with
   |tup hs q =>
    split at h
    ·rename_i z e
     obtain⟨v,e2,r2⟩:=q.atI e;exact .inr (.inl ⟨_,_,i,v,rfl,rfl,R.sub.sqT hs,e2,h.here R r2⟩)
    ·exact h.elim
  ·rename_i s
   cases rx;split at h
   ·rename_i hl
    split at h
    ·rename_i c e
     exact .inr (.inr ⟨s,i,c,rfl,rfl,zCD hl,e,h.here R (RP.str _)⟩)
    ·exact h.elim
   ·exact h.elim
  ·split at h
   ·rename_i l e
    obtain⟨a,vs,rfl,h1,h2⟩:=zEG R rx e;split at h
    ·rename_i z e2
     obtain⟨v,e3,r3⟩:=h2.atI e2;exact .inl ⟨a,vs,i,v,rfl,rfl,.inl (.inl h1),e3,h.here R r3⟩
    ·exact h.elim
   ·exact h.elim
 ·exact h.elim
def vLen(ws:List W) (st:List Cell):Res W:=match ws with
 |[.p (.tup l)]=>.ok (.p (.int l.length)) st
 |[.p (.str s)]=>if s.length≤LIM then .ok (.p (.int s.length)) st else .no
 |[.p (.dk ks _)]=>.ok (.p (.int ks.length)) st
 |[w]=>match zDd st w with
  |some l=>.ok (.p (.int l.length)) st
  |none=>match w with
   | .r i=>match st[i]? with
    |some (.dk ks _)=>.ok (.p (.int ks.length)) st
    |_=>.no
   |_=>.no
 |_=>.no
def rLen(K:PySem.W.Frag):List V→Hp→VK→Prop:=fun xs H Q=>(∃x n,xs=[x]∧LenV K x H n∧Q (.int n) H)∨∃a kvs,xs=[V.ref a]∧H a=some (.dK kvs)∧Q (.int kvs.length) H
theorem zB7:CallR X (.builtin "len") (rLen X.K):=call_len.or call_lenD
theorem zFB{α β:Type}{l:List α}{m:List β} (h:l.length=m.length):(l.zip m).length=l.length:=by
 rw[List.length_zip,h,Nat.min_self]
theorem zCy:zD3 K cl vLen (rLen K):=by
 intro E0 ρ G st H ws vs Q Z R rw' h;unfold vLen at h;split at h
 ·rename_i l
  cases rw' with
  |cons r rn =>
   cases rn;cases r with
   |tup hs q=>exact .inl ⟨_,_,rfl,.inr ⟨_,R.sub.sqT hs,rfl⟩,by rw[←q.length];exact h.here R (RP.int _)⟩
 ·rename_i s
  cases rw' with
  |cons r rn =>
   cases rn;cases r;split at h
   ·rename_i hl
    exact .inl ⟨_,_,rfl,⟨zCD hl,rfl⟩,h.here R (RP.int _)⟩
   ·exact h.elim
 ·rename_i ks l
  cases rw' with
  |cons r rn =>
   cases rn;cases r with
   |dk hs z q=>exact .inr ⟨_,_,rfl,R.sub _ _ hs,by rw[zFB z];exact h.here R (RP.int _)⟩
 ·rename_i w _ _ _
  cases rw' with
  |cons r rn =>
   cases rn;split at h
   ·rename_i l e
    obtain⟨a,vs,rfl,h1,h2⟩:=zEG R r e;exact .inl ⟨_,_,rfl,.inl ⟨vs,.inl (.inl h1),rfl⟩,by rw[←h2.length];exact h.here R (RP.int _)⟩
   ·split at h
    ·rename_i i _
     obtain⟨a,ha,rfl⟩:=r;split at h
     ·rename_i ks l em
      obtain⟨b,hb,⟨vs,h1,z,h2⟩,_⟩:=R.at em;cases Jb (ha.symm.trans hb);exact .inr ⟨_,_,rfl,h1,by rw[zFB z];exact h.here R (RP.int _)⟩
     ·exact h.elim
    ·exact h.elim
 ·exact h.elim
end
def SR.then(r:SR) (k:Sg→List Cell→SR):SR:=match r with
 | .ok .nx σ st=>k σ st
 |r=>r
def Res.to{α:Type} (r:Res α) (σ:Sg) (k:α→List Cell→SR):SR:=match r with
 | .ok a st=>k a st
 | .exc x st=>.exc x σ st
 | .no=>.no
def AftS(B:Bs) (ρ:List Addr) (G:Hp) (R:SR) (D:Ends) (Wx:WX):Prop:=match R with
 | .ok f σ st=>∀ρ' G' H' τ',ρ <+: ρ'→Sub G G'→B.Rel ρ' G' st H'→B.RS ρ' G' σ τ'→(match f with
  | .nx=>D.nx τ' H'
  | .bk=>D.bk τ' H'
  | .ct=>D.ct τ' H'
  | .rt w=>∀v,B.RW ρ' G' w v→D.rt v H')
 | .exc x σ st=>∀ρ' G' H' τ' cls d,ρ <+: ρ'→Sub G G'→B.Rel ρ' G' st H'→B.RS ρ' G' σ τ'→RX B.K B.cl G' H' x cls d→Wx cls d τ' H'
 | .no=>False
def TS'(X:Cx) (e:Stmt):TS:=fun D σ H=>∀(pins:List (Addr×Obj)) (s:Shared),Inv X pins σ H s→wpAny (model X.prog X.w) X.A (exec e X.env) (SP X pins D) X.xe s
def TSs'(X:Cx) (e:List Stmt):TS:=fun D σ H=>∀(pins:List (Addr×Obj)) (s:Shared),Inv X pins σ H s→wpAny (model X.prog X.w) X.A (execs e X.env) (SP X pins D) X.xe s
theorem TS'.ps{X:Cx}{e:Stmt}:PS X e (TS' X e):=⟨fun pins s σ H Q I h=>h pins s I⟩
theorem TSs'.pss{X:Cx}{e:List Stmt}:PSs X e (TSs' X e):=⟨fun pins s σ H Q I h=>h pins s I⟩
theorem TS'.of{X:Cx}{e:Stmt}{t:TS}{σ:L2.St}{H:Hp}{D:Ends} (h:PS X e t) (q:t D σ H):TS' X e D σ H:=fun pins s I=>h.run pins s σ H D I q
theorem TSs'.of{X:Cx}{e:List Stmt}{t:TS}{σ:L2.St}{H:Hp}{D:Ends} (h:PSs X e t) (q:t D σ H):TSs' X e D σ H:=fun pins s I=>h.run pins s σ H D I q
structure SS (K:PySem.W.Frag) (cl:Cls) (X:Cx) (Wx:WX) (m:SMm) (e:Stmt):Prop where
 run:∀E0 ρ G σ st τ H D,(bs K cl E0).Rel ρ G st H→RS K cl ρ G σ τ→AftS (bs K cl E0) ρ G (m σ st) D Wx→TS' X e D τ H
structure SSs (K:PySem.W.Frag) (cl:Cls) (X:Cx) (Wx:WX) (m:SMm) (e:List Stmt):Prop where
 run:∀E0 ρ G σ st τ H D,(bs K cl E0).Rel ρ G st H→RS K cl ρ G σ τ→AftS (bs K cl E0) ρ G (m σ st) D Wx→TSs' X e D τ H
section
variable {K:PySem.W.Frag}{cl:Cls}{X:Cx}{Wx:WX}{E0:En}{ρ ρ':List Addr}{G G':Hp}{σ:Sg}{τ:L2.St}{st:List Cell}{H:Hp}{D:Ends}
theorem AftS.mono{B:Bs}{R:SR} (p:ρ <+: ρ') (s:Sub G G') (h:AftS B ρ G R D Wx):AftS B ρ' G' R D Wx:=by
 cases R with
 |ok f σ st=>exact fun ρ2 G2 H2 b p2 s2 r u=>h ρ2 G2 H2 b (p.trans p2) (s.trans s2) r u
 |exc x σ st=>exact fun ρ2 G2 H2 τ c d p2 s2 r u=>h ρ2 G2 H2 τ c d (p.trans p2) (s.trans s2) r u
 |no=>exact h
theorem AftS.nx{B:Bs} (h:AftS B ρ G (.ok .nx σ st) D Wx) (R:B.Rel ρ G st H) (S:B.RS ρ G σ τ):D.nx τ H:=h ρ G H τ (Je _) (Sub.refl _) R S
theorem AftS.rt{B:Bs}{w:W}{v:V} (h:AftS B ρ G (.ok (.rt w) σ st) D Wx) (R:B.Rel ρ G st H) (S:B.RS ρ G σ τ) (u:B.RW ρ G w v):D.rt v H:=h ρ G H τ (Je _) (Sub.refl _) R S v u
theorem AftS.seq{B:Bs}{α β:Type}{U:List Addr→Hp→α→β→Prop}{R:Res α}{k:α→List Cell→SR}{Q':β→Hp→Prop} (S:B.RS ρ G σ τ) (h:AftS B ρ G (R.to σ k) D Wx)
  (g:∀a st ρ' G' H' b,R=.ok a st→ρ <+: ρ'→Sub G G'→B.Rel ρ' G' st H'→U ρ' G' a b→AftS B ρ' G' (k a st) D Wx→Q' b H'):Aft B U ρ G R Q' (fun c d H'=>Wx c d τ H'):=by
 cases R with
 |ok a st=>exact fun ρ2 G2 H2 b p s r u=>g a st ρ2 G2 H2 b rfl p s r u (AftS.mono p s h)
 |exc x st=>exact fun ρ2 G2 H2 c d p s r u=>h ρ2 G2 H2 τ c d p s r (S.mono p s) u
 |no=>exact h
theorem AftS.thn{B:Bs}{R:SR}{k:Sg→List Cell→SR}{D':Ends} (h:AftS B ρ G (R.then k) D Wx)
  (g:∀σ st ρ' G' H' τ',R=.ok .nx σ st→ρ <+: ρ'→Sub G G'→B.Rel ρ' G' st H'→B.RS ρ' G' σ τ'→AftS B ρ' G' (k σ st) D Wx→D'.nx τ' H') (hr:D'.rt=D.rt) (hb:D'.bk=D.bk) (hc:D'.ct=D.ct):AftS B ρ G R D' Wx:=by
 cases R with
 |ok f σ st =>
  cases f with
  |nx=>exact fun ρ2 G2 H2 τ2 p s r u=>g σ st ρ2 G2 H2 τ2 rfl p s r u (AftS.mono p s h)
  |rt w=>intro ρ2 G2 H2 τ2 p s r u v q;rw[hr];exact h ρ2 G2 H2 τ2 p s r u v q
  |bk=>intro ρ2 G2 H2 τ2 p s r u;show D'.bk τ2 H2;rw[hb];exact h ρ2 G2 H2 τ2 p s r u
  |ct=>intro ρ2 G2 H2 τ2 p s r u;show D'.ct τ2 H2;rw[hc];exact h ρ2 G2 H2 τ2 p s r u
 |exc x σ st=>exact h
 |no=>exact h.elim
def sNx:SMm:=fun σ st=>.ok .nx σ st
def sSeq(a b:SMm):SMm:=fun σ st=>(a σ st).then b
theorem zBw:SSs K cl X Wx sNx []:=⟨fun E0 ρ G σ st τ H D R S h=>TSs'.of pss_nil (AftS.nx h R S)⟩
theorem zAl{a:SMm}{s:Stmt} (h:SS K cl X Wx a s):SSs K cl X Wx a [s]:=⟨fun E0 ρ G σ st τ H D R S q=>TSs'.of (VS TS'.ps) (h.run E0 ρ G σ st τ H D R S q)⟩
theorem zAE{a b:SMm}{s:Stmt}{ss:List Stmt} (h1:SS K cl X Wx a s) (h2:SSs K cl X Wx b ss):SSs K cl X Wx (sSeq a b) (s::ss):=by
 refine⟨fun E0 ρ G σ st τ H D R S h=>TSs'.of (pss_cons TS'.ps TSs'.pss) ?_⟩
 refine h1.run E0 ρ G σ st τ H _ R S (AftS.thn (D' := { D with nx:=TSs' X ss D }) h (fun σ1 st1 ρ1 G1 H1 τ1 e p s R1 S1 h1=>?_) rfl rfl rfl)
 exact h2.run E0 ρ1 G1 σ1 st1 τ1 H1 D R1 S1 h1
def sRet(m:EM):SMm:=fun σ st=>(m σ st).to σ fun w st1=>.ok (.rt w) σ st1
theorem zA8{m:EM}{e:Expr}{pos:Pos} (h:SE K cl X Wx m e):SS K cl X Wx (sRet m) (.Return (some e) pos):=by
 refine⟨fun E0 ρ G σ st τ H D R S q=>TS'.of (ps_ret T.pe) ?_⟩
 exact h.run E0 ρ G σ st τ H _ R S (AftS.seq S q fun w st1 ρ1 G1 H1 v e1 p1 s1 R1 u1 h1=>AftS.rt h1 R1 (RS.mono p1 s1 S) u1)
def sSet(i:Nat) (m:EM):SMm:=fun σ st=>(m σ st).to σ fun w st1=>.ok .nx (σ.set i (some w)) st1
theorem zAV{i:Nat}{m:EM}{x:Str}{e:Expr}{pos pos':Pos} (g:GX K X) (hi:X.N[i]?=some x) (hx:Loc X.env.scope x) (h:SE K cl X Wx m e) (hs:swapsWith e (some (.Name x pos')) pos.line X.env=pure false)
  (hf:X.fn x=true∨X.env.scope.names.lookup x=some .local):SS K cl X Wx (sSet i m) (.Assign [.Name x pos'] e pos):=by
 refine⟨fun E0 ρ G σ st τ H D R S q=>TS'.of (ps_set g.hN hi hx T.pe hs hf) ?_⟩
 exact h.run E0 ρ G σ st τ H _ R S (AftS.seq S q fun w st1 ρ1 G1 H1 v e1 p1 s1 R1 u1 h1=>AftS.nx h1 R1 ((RS.mono p1 s1 S).set u1 i))
def sIf(c:TM) (a b:SMm):SMm:=fun σ st=>(c σ st).to σ fun k st1=>if k=true then a σ st1 else b σ st1
theorem zCj{c:TM}{a b:SMm}{e:Expr}{sa sb:List Stmt}{pos:Pos} (hc:ST K cl X Wx c e) (ha:SSs K cl X Wx a sa) (hb:SSs K cl X Wx b sb):SS K cl X Wx (sIf c a b) (.If e sa sb pos):=by
 refine⟨fun E0 ρ G σ st τ H D R S q=>TS'.of (ps_if TT'.pt TSs'.pss TSs'.pss) ?_⟩
 refine hc.run E0 ρ G σ st τ H _ R S (AftS.seq S q fun k st1 ρ1 G1 H1 k' e1 p1 s1 R1 u1 h1=>?_)
 obtain rfl:k=k':=u1;cases k with
 |true=>exact ha.run E0 ρ1 G1 σ st1 τ H1 D R1 (S.mono p1 s1) h1
 |false=>exact hb.run E0 ρ1 G1 σ st1 τ H1 D R1 (S.mono p1 s1) h1
mutual
def Tg.put:Tg→W→Sg→Option Sg
 | .nm i,w,σ=>some (σ.set i (some w))
 | .tp ts,.p (.tup l),σ=>Tg.puts ts l σ
 | .tp _,_,_=>none
def Tg.puts:List Tg→List P→Sg→Option Sg
 |[],[],σ=>some σ
 |t::ts,x::l,σ=>match Tg.put t (.p x) σ with
  |some σ'=>Tg.puts ts l σ'
  |none=>none
 |_,_,_=>none
end
def TGc(X:Cx) (e:Expr):TG:=fun v σ H Q=>∀(pins:List (Addr×Obj)) (s:Shared) (u:Value),Inv X pins σ H s→RelV v u →
 wpAny (model X.prog X.w) X.A (PySem.assign e X.env u) (fun _ s'=>∃σ' H',Inv X pins σ' H' s'∧Q σ' H') X.xe s
def TGsc(X:Cx) (es:List Expr):TGs:=fun vs σ H Q=>∀(pins:List (Addr×Obj)) (s:Shared) (us:List Value),Inv X pins σ H s→Vals vs us →
 wpAny (model X.prog X.w) X.A (assignInOrder ((assignEach es X.env).map (·.2)) us) (fun _ s'=>∃σ' H',Inv X pins σ' H' s'∧Q σ' H') X.xe s
theorem TGc.pg{e:Expr}:PG X e (TGc X e):=⟨fun pins s σ H v u Q I r h=>h pins s u I r⟩
theorem TGsc.pgs{es:List Expr}:PGs X es (TGsc X es):=⟨fun pins s σ H vs us Q I r h=>h pins s us I r⟩
theorem TGc.of{e:Expr}{t:TG}{v:V}{H:Hp}{Q:L2.St→Hp→Prop} (h:PG X e t) (q:t v τ H Q):TGc X e v τ H Q:=fun pins s u I r=>h.run pins s τ H v u Q I r q
theorem TGsc.of{es:List Expr}{t:TGs}{vs:List V}{H:Hp}{Q:L2.St→Hp→Prop} (h:PGs X es t) (q:t vs τ H Q):TGsc X es vs τ H Q:=fun pins s us I r=>h.run pins s τ H vs us Q I r q
theorem zCq{σ:L2.St}{j:Nat}:∀ {vs:List Nat},(wipe σ vs)[j]?=if j∈vs∧j<σ.length then some none else σ[j]?
 |[]=>by simp[wipe]
 |v::vs=>by
  have ih:=zCq (σ:=σ) (j:=j) (vs:=vs);unfold wipe
  by_cases h:v=j
  ·subst h
   by_cases hl:v<σ.length
   ·rw[JB (by rw[wipe_length];exact hl),JN ⟨Ji,hl⟩]
   ·rw[J9 (fun z=>hl z.2),Jw (by rw[Jz,wipe_length];omega),Jw ∅]
  ·rw[Jt h,ih]
   have:j∈v::vs↔j∈vs:=by
    rw[Jl];exact⟨fun z=>z.resolve_left (fun q=>h q.symm),.inr⟩
   simp only[this]
theorem zE4{σ σ':L2.St}{vs:List Nat} (hl:σ.length=σ'.length) (h:∀j,j∉vs→σ[j]?=σ'[j]?):wipe σ vs=wipe σ' vs:=by
 refine List.ext_getElem? fun j=>?_
 rw[zCq,zCq,hl]
 by_cases hj:j∈vs
 ·by_cases hk:j<σ'.length
  ·rw[JN ⟨hj,hk⟩,JN ⟨hj,hk⟩]
  ·rw[J9 (fun z=>hk z.2),J9 (fun z=>hk z.2),Jw ∅,Jw ∅]
 ·rw[J9 (fun z=>hj z.1),J9 (fun z=>hj z.1)];exact h j hj
theorem zGT{σ:L2.St}{i:Nat}{x:Option V}{vs:List Nat} (h:i∈vs):wipe (σ.set i x) vs=wipe σ vs :=
 zE4 (Jz ..) fun j hj=>Jt (fun z=>hj (by rw[←z];exact h))
theorem zFX{σ:L2.St}{vs:List Nat}:wipe (wipe σ vs) vs=wipe σ vs :=
 zE4 (wipe_length ..) fun j hj=>by rw[zCq,J9 (fun z=>hj z.1)]
structure SG (K:PySem.W.Frag) (cl:Cls) (X:Cx) (t:Tg) (e:Expr):Prop where
 run:∀ρ G H w v σ σ' τ (Q:L2.St→Hp→Prop),Sub G H→RS K cl ρ G σ τ→RW K cl ρ G w v→t.put w σ=some σ'→(∀τ',RS K cl ρ G σ' τ'→(∀vs,(∀i∈t.slots,i∈vs)→wipe τ' vs=wipe τ vs)→Q τ' H)→TGc X e v τ H Q
structure SGs (K:PySem.W.Frag) (cl:Cls) (X:Cx) (t:List Tg) (es:List Expr):Prop where
 run:∀ρ G H l vs σ σ' τ (Q:L2.St→Hp→Prop),Sub G H→RS K cl ρ G σ τ→RPs K cl G l vs→Tg.puts t l σ=some σ'→(∀τ',RS K cl ρ G σ' τ'→(∀vs,(∀i∈Tg.slotss t,i∈vs)→wipe τ' vs=wipe τ vs)→Q τ' H)→TGsc X es vs τ H Q
theorem zHz{i:Nat}{x:Str}{pos:Pos} (g:GX K X) (hi:X.N[i]?=some x) (hx:Loc X.env.scope x) (hf:X.fn x=true∨X.env.scope.names.lookup x=some .local):SG K cl X (.nm i) (.Name x pos):=by
 refine⟨fun ρ G H w v σ σ' τ Q sub S r e k=>TGc.of (pg_name g.hN hi hx hf) ?_⟩
 have e:some (σ.set i (some w))=some σ':=by simpa[Tg.put]using e
 cases e;exact k _ (S.set r i) fun vs h=>zGT (h i (by simp[Tg.slots]))
theorem zEs:SGs K cl X [] []:=by
 refine⟨fun ρ G H l vs σ σ' τ Q sub S r e k=>TGsc.of pgs_nil ?_⟩
 cases r with
 |nil =>
  have e:some σ=some σ':=by simpa[Tg.puts]using e
  cases e;exact⟨rfl,k _ S fun _ _=>rfl⟩
 |cons _ _=>simp[Tg.puts]at e
theorem zBY{t:Tg}{ts:List Tg}{e:Expr}{es:List Expr} (h1:SG K cl X t e) (h2:SGs K cl X ts es) (hs:(assignEach (e::es) X.env).map (·.2)=PySem.assign e X.env::(assignEach es X.env).map (·.2)):SGs K cl X (t::ts) (e::es):=by
 refine⟨fun ρ G H l vs σ σ' τ Q sub S r e k=>TGsc.of (pgs_cons TGc.pg TGsc.pgs hs) ?_⟩
 cases r with
 |nil=>simp[Tg.puts]at e
 |cons r rs =>
  simp only[Tg.puts]at e;split at e
  ·rename_i σ1 e1
   refine⟨_,_,rfl,?_⟩
   exact h1.run ρ G H (.p _) _ σ σ1 τ _ sub S r e1 fun τ1 S1 w1=>h2.run ρ G H _ _ σ1 σ' τ1 Q sub S1 rs e fun τ2 S2 w2=>k τ2 S2 fun vs h =>
    (w2 vs fun i hi=>h i (by simp[Tg.slotss,hi])).trans (w1 vs fun i hi=>h i (by simp[Tg.slotss,hi]))
  ·cases e
theorem zDc:∀ {ts:List Tg}{l:List P}{σ σ':Sg},Tg.puts ts l σ=some σ'→l.length=ts.length
 |[],[],_,_,_=>rfl
 |t::ts,x::l,σ,σ',e=>by
  simp only[Tg.puts]at e;split at e
  ·exact congrArg Nat.succ (zDc e)
  ·cases e
 |[],_::_,_,_,e=>by simp[Tg.puts]at e
 |_::_,[],_,_,e=>by simp[Tg.puts]at e
theorem sg_tup{ts:List Tg}{es:List Expr}{k:Nat}{pos:Pos} (g:GX K X) (h:SGs K cl X ts es) (hl:es.length=ts.length) (hn:(assignEach es X.env).length=es.length) (hst:(assignEach es X.env).findIdx? (·.1)=none):SG K cl X (.tp ts) (.Tuple es k pos):=by
 refine⟨fun ρ G H w v σ σ' τ Q sub S r e k=>TGc.of (pg_tup (n:=es.length) g.hc TGsc.pgs hn hst) ?_⟩
 cases w with
 |r i=>simp[Tg.put]at e
 |p x =>
  cases r with
  |tup hs q =>
   simp only[Tg.put]at e;refine⟨_,_,rfl,?_,?_,h.run ρ G H _ _ σ σ' τ Q sub S q e k⟩
   ·rw[g.hK];exact sub.sqT hs
   ·rw[←q.length,hl];exact zDc e
  |_=>simp[Tg.put]at e
end
def WOk(K:PySem.W.Frag) (cl:Cls) (ρ:List Addr) (G:Hp) (J:It) (src:Src):Prop :=
 ∀E0 ρ' G' st H i,ρ <+: ρ'→Sub G G'→(bs K cl E0).Rel ρ' G' st H→match src.get st i with
  |none=>True
  |some none=>J.stop i H
  |some (some w)=>J.go i H∧∀x H',J.yld i H x H'→∃G'',Sub G' G''∧(bs K cl E0).Rel ρ' G'' st H'∧RW K cl ρ' G'' w x
def TIc(X:Cx) (tg e:Expr):TI:=fun σ H R=>∀(pins:List (Addr×Obj)) (s:Shared),Inv X pins σ H s →
 wpAny (model X.prog X.w) X.A (eval e X.env) (fun v s1=>wpAny (model X.prog X.w) X.A (pyIter v) (PIE X pins σ tg R) X.xe s1) X.xe s
theorem TIc.pi{X:Cx}{tg e:Expr}:PI X tg e (TIc X tg e):=⟨fun pins s σ H R I h=>h pins s I⟩
theorem TIc.of{X:Cx}{tg e:Expr}{wi:TI}{σ:L2.St}{H:Hp}{R:It→Hp→Prop} (h:PI X tg e wi) (q:wi σ H R):TIc X tg e σ H R:=fun pins s I=>h.run pins s σ H R I q
structure SI (K:PySem.W.Frag) (cl:Cls) (X:Cx) (Wx:WX) (tg:Expr) (m:IM) (e:Expr):Prop where
 run:∀E0 ρ G σ st τ H R,(bs K cl E0).Rel ρ G st H→RS K cl ρ G σ τ→Aft (bs K cl E0) (fun ρ G (a:Src) (J:It)=>WOk K cl ρ G J a) ρ G (m σ st) R (fun c d H'=>Wx c d τ H')→TIc X tg e τ H R
section
variable {K:PySem.W.Frag}{cl:Cls}{X:Cx}{Wx:WX}{E0:En}{ρ ρ':List Addr}{G G':Hp}{σ:Sg}{τ:L2.St}{st:List Cell}{H:Hp}{D:Ends}
def forF(src:Src) (t:Tg) (b:SMm):Nat→Nat→Sg→List Cell→SR
 |0,_,_,_=>.no
 |n+1,i,σ,st=>match src.get st i with
  |none=>.no
  |some none=>.ok .nx σ st
  |some (some w)=>match t.put w σ with
   |none=>.no
   |some σ1=>match b σ1 st with
    | .ok .nx σ2 st2=>forF src t b n (i+1) σ2 st2
    | .ok .ct σ2 st2=>forF src t b n (i+1) σ2 st2
    | .ok .bk σ2 st2=>.ok .nx σ2 st2
    |r=>r
def sFor(m:IM) (t:Tg) (b:SMm):SMm:=fun σ st=>(m σ st).to σ fun src st1=>forF src t b (src.n+1) 0 σ st1
theorem ss_for{m:IM}{t:Tg}{b:SMm}{tg iter:Expr}{body:List Stmt}{pos:Pos} (hp:PassesOwn (model X.prog X.w) X.A X.env X.xe) (g:GX K X) (hi:SI K cl X Wx tg m iter) (ht:SG K cl X t tg) (hb:SSs K cl X Wx b body)
  (hs:∀x,foldedSetIterable iter X.env x=pure x:=by intro _;rfl):SS K cl X Wx (sFor m t b) (.For tg iter body [] pos):=by
 refine⟨fun E0 ρ G σ st τ H D R S q=>TS'.of (ps_for hp g.hc TIc.pi TGc.pg TSs'.pss hs) ?_⟩
 refine hi.run E0 ρ G σ st τ H _ R S (AftS.seq S q fun src st1 ρ1 G1 H1 J e1 p1 s1 R1 wok h1=>?_)
 refine⟨fun i k τ' H'=>∃ρ' G' σ' st',ρ1 <+: ρ'∧Sub G1 G'∧(bs K cl E0).Rel ρ' G' st' H'∧RS K cl ρ' G' σ' τ'∧AftS (bs K cl E0) ρ' G' (forF src t b k i σ' st') D Wx,⟨src.n+1,ρ1,G1,σ,st1,Je _,Sub.refl _,R1,S.mono p1 s1,h1⟩,?_⟩
 rintro i k τ2 H2 ⟨ρ2,G2,σ2,st2,p2,s2,R2,S2,q2⟩;cases k with
 |zero=>exact q2.elim
 |succ k =>
  have w2:=wok E0 ρ2 G2 st2 H2 i p2 s2 R2;unfold forF at q2;cases eg:src.get st2 i with
  |none=>rw[eg]at q2;exact q2.elim
  |some ow =>
   rw[eg]at q2 w2;cases ow with
   |none=>exact .inl ⟨w2,AftS.nx q2 R2 S2⟩
   |some w =>
    dsimp only at q2 w2;refine .inr ⟨w2.1,fun τ' H'=>∃ρ' G' σ' st',ρ1 <+: ρ'∧Sub G1 G'∧(bs K cl E0).Rel ρ' G' st' H'∧RS K cl ρ' G' σ' τ'∧AftS (bs K cl E0) ρ' G' (forF src t b k (i+1) σ' st') D Wx,fun τ' H' z=>⟨k,VG k,z⟩,fun x H3 y=>?_⟩
    obtain⟨G3,s3,R3,r3⟩:=w2.2 x H3 y;cases ep:t.put w σ2 with
    |none=>rw[ep]at q2;exact q2.elim
    |some σ3 =>
     rw[ep]at q2;dsimp only at q2;refine ht.run ρ2 G3 H3 w x σ2 σ3 τ2 _ R3.sub (S2.mono (Je _) s3) r3 ep fun τ3 S3 _=>?_
     refine hb.run E0 ρ2 G3 σ3 st2 τ3 H3 _ R3 S3 ?_
     cases er:b σ3 st2 with
     |no=>rw[er]at q2;exact q2.elim
     |exc x σ4 st4=>rw[er]at q2;exact AftS.mono (Je _) s3 q2
     |ok f σ4 st4 =>
      rw[er]at q2;cases f with
      |nx=>exact fun ρ4 G4 H4 τ4 p4 s4 R4 S4=>⟨ρ4,G4,σ4,st4,p2.trans p4,s2.trans (s3.trans s4),R4,S4,AftS.mono p4 (s3.trans s4) q2⟩
      |ct=>exact fun ρ4 G4 H4 τ4 p4 s4 R4 S4=>⟨ρ4,G4,σ4,st4,p2.trans p4,s2.trans (s3.trans s4),R4,S4,AftS.mono p4 (s3.trans s4) q2⟩
      |bk=>exact fun ρ4 G4 H4 τ4 p4 s4 R4 S4=>q2 ρ4 G4 H4 τ4 p4 (s3.trans s4) R4 S4
      |rt w=>exact AftS.mono (Je _) s3 q2
structure Hd (K:PySem.W.Frag) (cl:Cls) (E0:En) (D:Addr) (ρ:List Addr) (G:Hp) (st:List Cell) (H:Hp) (acc:List W) (Gh:Hp) (vs:List V):Prop where
 gD:Gh D=none
 gr:∀a u,Gh a=some u→E0.G0 a=some u∨E0.H0 a=none∨∃i:Nat,i<E0.n0∧ρ[i]?=some a
 hn:∀i:Nat,i<E0.n0→ρ[i]?≠some D
 l0:E0.n0≤ρ.length
 h0:E0.H0 D=none
 rw:RWs K cl ρ G acc vs
 R:(bs K cl (E0.hold Gh D (.lst vs))).Rel ρ G st H
theorem Hd.start{Dd:Addr} (R:(bs K cl E0).Rel ρ G st H) (h:H Dd=none):Hd K cl E0 Dd ρ G st (upd H Dd (.lst [])) [] G [] :=
 ⟨R.gnone h,R.grow,fun i _=>R.apart h i,R.n0,R.fresh0 h,.nil,R.hold h⟩
section
variable {Dd:Addr}{acc:List W}{Gh:Hp}{vs:List V}{st':List Cell}{H':Hp}
theorem Hd.held(h:Hd K cl E0 Dd ρ G st H acc Gh vs):H Dd=some (.lst vs)∧G Dd=none∧∀i:Nat,ρ[i]?≠some Dd:=Rel.held h.R h.hn h.gD
theorem Hd.next(h:Hd K cl E0 Dd ρ G st H acc Gh vs) (p:ρ <+: ρ') (s:Sub G G') (R:(bs K cl (E0.hold Gh Dd (.lst vs))).Rel ρ' G' st' H'):Hd K cl E0 Dd ρ' G' st' H' acc Gh vs:=by
 have keep:∀i:Nat,i<E0.n0→ρ'[i]?=ρ[i]?:=fun i hi=>by
  obtain⟨t,rfl⟩:=p;exact Ja (JA hi h.l0)
 refine⟨h.gD,fun a u e=>?_,fun i hi=>by rw[keep i hi];exact h.hn i hi,VH h.l0 p.length_le,h.h0,h.rw.mono p s,R⟩
 rcases h.gr a u e with q|q|⟨i,hi,q⟩
 ·exact .inl q
 ·exact .inr (.inl q)
 ·exact .inr (.inr ⟨i,hi,by rw[keep i hi];exact q⟩)
theorem Hd.back(h:Hd K cl E0 Dd ρ G st H acc Gh vs):(bs K cl E0).Rel ρ G st H:=Rel.unhold h.R h.h0 h.gr (Je _) h.l0
theorem Hd.push(h:Hd K cl E0 Dd ρ G st H acc Gh vs){w:W}{y:V} (r:RW K cl ρ G w y):Hd K cl E0 Dd ρ G st (upd H Dd (.lst (vs++[y]))) (acc++[w]) G (vs++[y]) :=
 ⟨h.held.2.1,h.back.grow,h.hn,h.l0,h.h0,h.rw.append (.cons r .nil),Rel.rehold h.R (zGf trivial) h.hn h.gD⟩
end
def Res.nox{α:Type}:Res α→Res α
 | .exc _ _=>.no
 |r=>r
def zB5(σ:Sg):List Nat→Sg
 |[]=>σ
 |v::vs=>(zB5 σ vs).set v none
def lcF(src:Src) (t:Tg) (c:TM) (e:EM) (σ0:Sg):Nat→Nat→List Cell→Res (List W)
 |0,_,_=>.no
 |n+1,i,st=>match src.get st i with
  |none=>.no
  |some none=>.ok [] st
  |some (some w)=>match t.put w σ0 with
   |none=>.no
   |some σ1=>(c σ1 st).nox.bind fun k st1=>if k=true then(e σ1 st1).nox.bind fun w st2=>(lcF src t c e σ0 n (i+1) st2).bind fun ws st3=>.ok (w::ws) st3 else lcF src t c e σ0 n (i+1) st1
def mYes:TM:=fun _ st=>.ok true st
def finP(ws:List W) (st:List Cell):Res W:=match pures ws with
 |some l=>.ok (.p (.lst l)) st
 |none=>.no
def mLc(m:IM) (t:Tg) (vs:List Nat) (c:TM) (e:EM) (fin:List W→List Cell→Res W):EM:=fun σ st=>(m σ st).bind fun src st1 =>
 if src.n≤LIM then(lcF src t c e (zB5 σ vs) (src.n+1) 0 st1).bind fin else .no
theorem RS.wipe(S:RS K cl ρ G σ τ):∀vs:List Nat,RS K cl ρ G (zB5 σ vs) (L2.wipe τ vs)
 |[]=>S
 |v::vs=>by
  have ih:=RS.wipe S vs;unfold zB5 L2.wipe;refine⟨by rw[Jz,Jz];exact ih.1,fun j w e=>?_⟩
  by_cases hj:v=j
  ·subst hj
   by_cases hl:v<(zB5 σ vs).length
   ·rw[JB hl]at e;cases e
   ·rw[Jw (by rw[Jz];omega)]at e;cases e
  ·rw[Jt hj]at e ⊢;exact ih.2 j w e
def TTs'(X:Cx) (ifs:List Expr):TT:=fun σ H Q=>∀(pins:List (Addr×Obj)) (s:Shared),Inv X pins σ H s →
 wpAny (model X.prog X.w) X.A (forIn ifs true fun c r=>if r=true then do let ok ←isTrue c X.env (eval c X.env);pure (ForInStep.yield ok)else pure (ForInStep.yield r)) (TP X pins σ Q) X.xe s
theorem TTs'.of{ifs:List Expr}{t:TT}{Q:Bool→Hp→Prop} (h:PTs X ifs t) (q:t τ H Q):TTs' X ifs τ H Q:=fun pins s I=>h.run pins s τ H Q I q
structure STs (K:PySem.W.Frag) (cl:Cls) (X:Cx) (Wx:WX) (m:TM) (e:List Expr):Prop where
 run:∀E0 ρ G σ st τ H Q,(bs K cl E0).Rel ρ G st H→RS K cl ρ G σ τ→Aft (bs K cl E0) eqB ρ G (m σ st) Q (fun c d H'=>Wx c d τ H')→TTs' X e τ H Q
theorem zBD:STs K cl X Wx mYes []:=⟨fun E0 ρ G σ st τ H Q R S h=>TTs'.of pts_nil (h.here (b:=true) R rfl)⟩
abbrev WF:WX:=fun _ _ _ _=>False
theorem Aft.seqH{E1:En}{α β γ δ:Type}{U:List Addr→Hp→α→β→Prop}{U2:List Addr→Hp→γ→δ→Prop}{Z Z':ZX}{R:Res α}{k:α→List Cell→Res γ}{Q:δ→Hp→Prop}{Q':β→Hp→Prop} (h:Aft (bs K cl E0) U2 ρ G (R.nox.bind k) Q Z)
  (g:∀a st ρ' G' H' b,R=.ok a st→ρ <+: ρ'→Sub G G'→(bs K cl E1).Rel ρ' G' st H'→U ρ' G' a b→Aft (bs K cl E0) U2 ρ' G' (k a st) Q Z→Q' b H'):Aft (bs K cl E1) U ρ G R Q' Z':=by
 cases R with
 |ok a st=>exact fun ρ2 G2 H2 b p s r u=>g a st ρ2 G2 H2 b rfl p s r u (Aft.mono p s h)
 |exc x st=>exact h.elim
 |no=>exact h.elim
theorem Res.bind_bind{α β γ:Type} (r:Res α) (f:α→List Cell→Res β) (g:β→List Cell→Res γ):(r.bind f).bind g=r.bind fun a st=>(f a st).bind g:=by cases r<;>rfl
theorem Res.bind_ok{α β:Type} (a:α) (st:List Cell) (f:α→List Cell→Res β):(Res.ok a st).bind f=f a st:=rfl
theorem zHw{Dd:Addr}{acc:List W}{Gh:Hp}{vl:List V}{c:TM}{e:EM}{σ1:Sg}{k:List W→List Cell→Res W}{Q:VK}{Z:ZX}{rest:List Cell→Res (List W)}{ifs:List Expr}{elt:Expr}{Nx:Hp→Prop}{J:Type}{Y1:J→Cx}
  (hd:Hd K cl E0 Dd ρ G st H acc Gh vl) (S:RS K cl ρ G σ1 τ) (hc:∀j,STs K cl (Y1 j) WF c ifs) (he:∀j,SE K cl (Y1 j) WF e elt) (hacc:acc.length<sizeLine)
  (q:Aft (bs K cl E0) (bs K cl E0).RW ρ G (((c σ1 st).nox.bind fun b st1=>if b=true then(e σ1 st1).nox.bind fun w st2=>(rest st2).bind fun ws st3=>.ok (w::ws) st3 else rest st1).bind k) Q Z)
  (nx1:∀ρ' G' st' H' Gh' vl' w,ρ <+: ρ'→Sub G G'→Hd K cl E0 Dd ρ' G' st' H' (acc++[w]) Gh' vl'→Aft (bs K cl E0) (bs K cl E0).RW ρ' G' ((rest st').bind fun ws st3=>k (w::ws) st3) Q Z→Nx H')
  (nx0:∀ρ' G' st' H' Gh' vl',ρ <+: ρ'→Sub G G'→Hd K cl E0 Dd ρ' G' st' H' acc Gh' vl'→Aft (bs K cl E0) (bs K cl E0).RW ρ' G' ((rest st').bind k) Q Z→Nx H') :
  (fun σ H Q=>∀j,TTs' (Y1 j) ifs σ H Q:TT) τ H fun b H3=>if b=true then(fun σ H Q=>∀j,T (Y1 j) elt σ H Q:TE) τ H3 fun y H4=>∃acc,H4 Dd=some (.lst acc)∧acc.length<sizeLine∧Nx (upd H4 Dd (.lst (acc++[y])))else Nx H3:=by
 intro j;rw[Res.bind_bind]at q;refine(hc j).run _ ρ G σ1 st τ H _ hd.R S (Aft.seqH q fun b st1 ρ1 G1 H1 b' e1 p1 s1 R1 u1 q1=>?_)
 obtain rfl:b=b':=u1;have hd1:=hd.next p1 s1 R1;cases b with
 |false=>exact nx0 ρ1 G1 st1 H1 _ _ p1 s1 hd1 q1
 |true =>
  intro j;simp only[if_true]at q1;rw[Res.bind_bind]at q1;refine(he j).run _ ρ1 G1 σ1 st1 τ H1 _ hd1.R (S.mono p1 s1) (Aft.seqH q1 fun w st2 ρ2 G2 H2 y e2 p2 s2 R2 u2 q2=>?_)
  have hd2:=hd1.next p2 s2 R2;refine⟨vl,hd2.held.1,by rw[←hd2.rw.length];exact hacc,?_⟩
  refine nx1 ρ2 G2 st2 _ _ _ w (p1.trans p2) (s1.trans s2) (hd2.push u2) ?_
  rw[Res.bind_bind]at q2;exact q2
def zHF(K:PySem.W.Frag) (cl:Cls) (fin:List W→List Cell→Res W):Prop :=
 ∀E0 Dd ρ G st H acc Gh vl Q Z,Hd K cl E0 Dd ρ G st H acc Gh vl→Aft (bs K cl E0) (bs K cl E0).RW ρ G (fin acc st) Q Z→Q (.ref Dd) H
theorem zBC:zHF K cl finP:=by
 intro E0 Dd ρ G st H acc Gh vl Q Z hd q;unfold finP at q;split at q
 ·rename_i l e
  obtain⟨h1,h2,h3⟩:=hd.held;exact q ρ (upd G Dd (.lst vl)) H (.ref Dd) (Je _) (Sub.new h2) (Rel.adopt hd.back h1 h2 h3 hd.h0) (.lst Jf ((hd.rw.pures e).mono (Sub.new h2)))
 ·exact q.elim
theorem lim_sz{n:Nat} (h:n≤LIM):n<sizeLine:=by rw[Vh];unfold LIM at h;omega
abbrev BJ:=Shared×Hp×Addr×List (Str×Addr)×List Addr
abbrev Xb(X:Cx) (scope:Scope) (j:BJ):Cx:=X.blk j.1 j.2.1 scope (compEnvC scope j.2.2.2.1 j.2.2.1 X.env) j.2.2.2.2
theorem GX.blk(g:GX K X){scope:Scope}{j:BJ}:GX K (Xb X scope j):=⟨g.hK,g.hc,g.hN,g.hu,g.hh⟩
theorem zGX{m:IM}{t:Tg}{vs:List Nat}{c:TM}{e:EM}{fin:List W→List Cell→Res W}{tg iter elt:Expr}{ifs:List Expr}{Y1:BJ→Cx}{Q:VK} (hf:zHF K cl fin)
  (hi:SI K cl X Wx tg m iter) (ht:∀j,SG K cl (Y1 j) t tg) (hv:∀i∈t.slots,i∈vs) (hc:∀j,STs K cl (Y1 j) WF c ifs) (he:∀j,SE K cl (Y1 j) WF e elt)
  (R:(bs K cl E0).Rel ρ G st H) (S:RS K cl ρ G σ τ) (h:Aft (bs K cl E0) (bs K cl E0).RW ρ G (mLc m t vs c e fin σ st) Q (fun c d H'=>Wx c d τ H')) :
  tLc (TIc X tg iter) (fun v σ H Q=>∀j,TGc (Y1 j) tg v σ H Q) (fun σ H Q=>∀j,TTs' (Y1 j) ifs σ H Q) (fun σ H Q=>∀j,T (Y1 j) elt σ H Q) vs τ H Q:=by
 refine hi.run E0 ρ G σ st τ H _ R S (Aft.seq h fun src st1 ρ1 G1 H1 J e1 p1 s1 R1 wok h1=>?_)
 intro Dd hD;split at h1
 case isFalse=>exact h1.elim
 rename_i hn
 refine⟨fun i k H'=>∃ρ' G' st' acc Gh vl,ρ1 <+: ρ'∧Sub G1 G'∧Hd K cl E0 Dd ρ' G' st' H' acc Gh vl∧acc.length≤i∧i+k≤src.n+1 ∧
  Aft (bs K cl E0) (bs K cl E0).RW ρ' G' ((lcF src t c e (zB5 σ vs) k i st').bind fun ws st3=>fin (acc++ws) st3) Q (fun c d H'=>Wx c d τ H'),⟨src.n+1,ρ1,G1,st1,[],G1,[],Je _,Sub.refl _,Hd.start R1 hD,Ju _,∅,h1⟩,?_⟩
 rintro i k H2 ⟨ρ2,G2,st2,acc,Gh,vl,p2,s2,hd,ha,hk,q2⟩;cases k with
 |zero=>exact q2.elim
 |succ k =>
  have w2:=wok _ ρ2 G2 st2 H2 i p2 s2 hd.R;unfold lcF at q2;cases eg:src.get st2 i with
  |none=>rw[eg]at q2;exact q2.elim
  |some ow =>
   rw[eg]at q2 w2;cases ow with
   |none =>
    refine .inl ⟨w2,?_⟩;have q2:Aft (bs K cl E0) (bs K cl E0).RW ρ2 G2 (fin (acc++[]) st2) Q (fun c d H'=>Wx c d τ H'):=q2
    rw[JW]at q2;exact hf _ _ _ _ _ _ _ _ _ _ _ hd q2
   |some w =>
    dsimp only at q2 w2
    refine .inr ⟨w2.1,fun H'=>∃ρ' G' st' acc Gh vl,ρ1 <+: ρ'∧Sub G1 G'∧Hd K cl E0 Dd ρ' G' st' H' acc Gh vl∧acc.length≤i+1∧i+1+k≤src.n+1 ∧
     Aft (bs K cl E0) (bs K cl E0).RW ρ' G' ((lcF src t c e (zB5 σ vs) k (i+1) st').bind fun ws st3=>fin (acc++ws) st3) Q (fun c d H'=>Wx c d τ H'),fun H' z=>⟨k,VG k,z⟩,fun x H3 y=>?_⟩
    obtain⟨G3,s3,R3,r3⟩:=w2.2 x H3 y;have hd3:=hd.next (Je _) s3 R3;cases ep:t.put w (zB5 σ vs)with
    |none=>rw[ep]at q2;exact q2.elim
    |some σ3 =>
     rw[ep]at q2;dsimp only at q2;intro j;refine(ht j).run ρ2 G3 H3 w x (zB5 σ vs) σ3 _ _ R3.sub ((S.mono (p1.trans p2) (s1.trans (s2.trans s3))).wipe vs) r3 ep fun τ3 S3 w3=>⟨(w3 vs hv).trans zFX,?_⟩
     refine zHw (rest:=fun st1=>lcF src t c e (zB5 σ vs) k (i+1) st1) (Q:=Q) hd3 S3 hc he (lim_sz ∅) (Aft.mono (Je _) s3 q2) (fun ρ4 G4 st4 H4 Gh4 vl4 w4 p4 s4 hd4 q4=>?_) (fun ρ4 G4 st4 H4 Gh4 vl4 p4 s4 hd4 q4=>?_)
     ·refine⟨ρ4,G4,st4,acc++[w4],Gh4,vl4,p2.trans p4,s2.trans (s3.trans s4),hd4,by rw[Jv];simp;exact ha,∅,?_⟩
      simp only[List.append_assoc,List.singleton_append];exact q4
     ·exact⟨ρ4,G4,st4,acc,Gh4,vl4,p2.trans p4,s2.trans (s3.trans s4),hd4,∅,∅,q4⟩
theorem zCn{m:IM}{t:Tg}{vs:List Nat}{c:TM}{e:EM}{fin:List W→List Cell→Res W}{tg iter elt:Expr}{ifs:List Expr}{scope:Scope}{own:List (Str×Nat)}{pos:Pos} (g:GX K X) (hf:zHF K cl fin)
  (ok:blkC X.N X.env.scope scope own=true) (hvs:own.map (·.2)=vs) (hi:SI K cl X Wx tg m iter) (hv:t.slots.all (fun i=>decide (i∈vs))=true) (ht:∀j,SG K cl (Xb X scope j) t tg) (hc:∀j,STs K cl (Xb X scope j) WF c ifs) (he:∀j,SE K cl (Xb X scope j) WF e elt)
  (hs:∀x,foldedSetIterable iter X.env x=pure x:=by intro _;rfl):SE K cl X Wx (mLc m t vs c e fin) (.ListComp elt [⟨tg,iter,ifs,0⟩] scope pos):=by
 subst hvs
 refine⟨fun E0 ρ G σ st τ H Q R S h=>T.of (pe_lc (g:=fun v σ H Q=>∀j,TGc (Xb X scope j) tg v σ H Q) (tt:=fun σ H Q=>∀j,TTs' (Xb X scope j) ifs σ H Q) (te:=fun σ H Q=>∀j,T (Xb X scope j) elt σ H Q) g.hc g.hN TIc.pi (blkOk_by ok)
  (fun s H C cl fp=>⟨fun pins s' σ H' v u Q I r h=>h (s,H,C,cl,fp) pins s' u I r⟩) (fun s H C cl fp=>⟨fun pins s' σ H' Q I h=>h (s,H,C,cl,fp) pins s' I⟩) (fun s H C cl fp=>⟨fun pins s' σ H' Q I h=>h (s,H,C,cl,fp) pins s' I⟩) hs) ?_⟩
 exact zGX hf hi ht (fun i hm=>by simpa using Js.mp hv i hm) hc he R S h
end
section
variable {K:PySem.W.Frag}{cl:Cls}{X:Cx}{Wx:WX}{E0:En}{ρ ρ':List Addr}{G G':Hp}{σ:Sg}{τ:L2.St}{st:List Cell}{H:Hp}{D:Ends}
def srcL(l:List W):Src:=⟨fun _ i=>some l[i]?,l.length⟩
def zDf(s:Str):List W:=s.cps.toList.map fun c=>.p (.str ⟨#[c]⟩)
def srcC(j n:Nat):Src:=⟨fun st i=>match st[j]? with
 |some (.lst l)=>some l[i]?
 |_=>none,n⟩
def vSrc(st:List Cell):W→Option Src
 | .p (.lst l)=>some (srcL (l.map .p))
 | .p (.tup l)=>some (srcL (l.map .p))
 | .p (.str s)=>some (srcL (zDf s))
 | .r j=>match st[j]? with
  |some (.lst l)=>some (srcC j l.length)
  |_=>none
 |_=>none
def mSrc(m:EM):IM:=fun σ st=>(m σ st).bind fun w st1=>match vSrc st1 w with
 |some s=>.ok s st1
 |none=>.no
theorem zFD{l:List P}{i:Nat}:(l.map W.p)[i]?=l[i]?.map W.p:=Jn ..
theorem zHK{a:Addr}{l:List P} (r:RP K cl G (.lst l) (.ref a)):WOk K cl ρ G (Itl K a) (srcL (l.map .p)):=by
 intro E0 ρ' G' st H i p s R;cases r with
 |lst h q =>
  rename_i vs
  have hq:SqL K H a vs:=.inl (.inl (R.sub _ _ (s _ _ h)));have hl:=q.length;show match some (l.map W.p)[i]? with|none=>True|some none=>_|some (some w)=>_
  rw[zFD];cases e:l[i]? with
  |none=>exact⟨vs,hq,by rw[←hl];exact JG.mp e⟩
  |some x =>
   obtain⟨v,ev,rv⟩:=q.get e;refine⟨⟨vs,v,hq,ev⟩,fun y H' yl=>?_⟩
   obtain⟨rfl,yl⟩:=yl
   have:y=v:=Jb ((yl vs hq).symm.trans ev)
   subst this;exact⟨G',Sub.refl _,R,rv.mono s⟩
theorem zHL{a:Addr}{l:List P} (r:RP K cl G (.tup l) (.ref a)):WOk K cl ρ G (Itt K a) (srcL (l.map .p)):=by
 intro E0 ρ' G' st H i p s R;cases r with
 |tup h q =>
  rename_i vs
  have hq:SqT K H a vs:=R.sub.sqT (s.sqT h);have hl:=q.length;show match some (l.map W.p)[i]? with|none=>True|some none=>_|some (some w)=>_
  rw[zFD];cases e:l[i]? with
  |none=>exact⟨vs,hq,by rw[←hl];exact JG.mp e⟩
  |some x =>
   obtain⟨v,ev,rv⟩:=q.get e;refine⟨⟨vs,v,hq,ev⟩,fun y H' yl=>?_⟩
   obtain⟨rfl,yl⟩:=yl
   have:y=v:=Jb ((yl vs hq).symm.trans ev)
   subst this;exact⟨G',Sub.refl _,R,rv.mono s⟩
theorem zEm{z:Str}{i:Nat}:(zDf z)[i]?=z.cps[i]?.map fun c=>W.p (.str ⟨#[c]⟩):=by
 unfold zDf;rw[Jn,Array.getElem?_toList]
theorem zHn{z:Str}:WOk K cl ρ G (Its z) (srcL (zDf z)):=by
 intro E0 ρ' G' st H i p s R;show match some (zDf z)[i]? with|none=>True|some none=>_|some (some w)=>_
 rw[zEm];cases e:z.cps[i]? with
 |none=>exact Array.getElem?_eq_none_iff.mp e
 |some c =>
  refine⟨(Array.getElem?_eq_some_iff.mp e).1,fun y H' yl=>?_⟩
  obtain⟨rfl,c',e',rfl⟩:=yl;rw[e]at e';cases e';exact⟨G',Sub.refl _,R,RP.str _⟩
theorem zF0{a:Addr}{j n:Nat} (h:ρ[j]?=some a):WOk K cl ρ G (Itl K a) (srcC j n):=by
 intro E0 ρ' G' st H i p s R;show match(match st[j]? with|some (.lst l)=>some l[i]?|_=>none)with|none=>True|some none=>_|some (some w)=>_
 split
 ·trivial
 ·rename_i e
  split at e
  ·rename_i l el
   obtain⟨b,hb,⟨vs,h1,h2⟩,_⟩:=R.at el;have hb:ρ'[j]?=some b:=hb;obtain⟨t,rfl⟩:=p;rw[Ja (Jd.mp h).1,h]at hb;cases hb;exact⟨vs,.inl (.inl h1),by rw[←h2.length];exact JG.mp (Jb e)⟩
  ·cases e
 ·rename_i w e
  split at e
  ·rename_i l el
   obtain⟨b,hb,⟨vs,h1,h2⟩,_⟩:=R.at el;have hb:ρ'[j]?=some b:=hb;obtain⟨t,rfl⟩:=p;rw[Ja (Jd.mp h).1,h]at hb;cases hb;obtain⟨v,ev,rv⟩:=h2.get (Jb e);refine⟨⟨vs,v,.inl (.inl h1),ev⟩,fun y H' yl=>?_⟩
   obtain⟨rfl,yl⟩:=yl
   have:y=v:=Jb ((yl vs (.inl (.inl h1))).symm.trans ev)
   subst this;exact⟨G',Sub.refl _,R,rv⟩
  ·cases e
theorem zHf{pins:List (Addr×Obj)}{s:Shared}{tg:Expr}{a:Addr}{xs:List V}{R:It→Hp→Prop} (I:Inv X pins τ H s) (h:SqL X.K H a xs) (q:R (Itl X.K a) H):wpAny (model X.prog X.w) X.A (pyIter (.ref a)) (PIE X pins τ tg R) X.xe s:=by
 obtain⟨its,rv,p,hz⟩:=I.list h;exact wpAny_pyIter_list p.isList (pi_one (tk:=s.toks) I _ (turn_list a _) ⟨_,JC _ rfl,rfl,rfl⟩ q)
theorem it_tup{pins:List (Addr×Obj)}{s:Shared}{tg:Expr}{a:Addr}{xs:List V}{R:It→Hp→Prop} (I:Inv X pins τ H s) (h:SqT X.K H a xs) (q:R (Itt X.K a) H):wpAny (model X.prog X.w) X.A (pyIter (.ref a)) (PIE X pins τ tg R) X.xe s:=by
 obtain⟨its,rv,p,hz⟩:=I.tuple h;exact Vo (show s.heap.IsTuple a its.toArray from p) (pi_one (tk:=s.toks) I _ (turn_tuple a _) ⟨_,JC _ rfl,rfl,rfl⟩ q)
theorem it_str{pins:List (Addr×Obj)}{s:Shared}{tg:Expr}{x:Str}{t:Tok}{R:It→Hp→Prop} (I:Inv X pins τ H s) (q:R (Its x) H):wpAny (model X.prog X.w) X.A (pyIter (.str x t)) (PIE X pins τ tg R) X.xe s:=by
 cases ha:x.cps.all (· < 128)
 ·exact wpAny_pyIter_wide ha (pi_one (tk:=s.toks) I _ (turn_str _ x t "str_iterator" (.inr rfl)) ⟨_,JC _ rfl,rfl,rfl⟩ q)
 ·exact wpAny_pyIter_ascii ha (pi_one (tk:=s.toks) I _ (turn_str _ x t "str_ascii_iterator" (.inl rfl)) ⟨_,JC _ rfl,rfl,rfl⟩ q)
theorem zCp{m:EM}{tg e:Expr} (g:GX K X) (h:SE K cl X Wx m e):SI K cl X Wx tg (mSrc m) e:=by
 obtain⟨hK,_⟩:=g;subst hK;refine⟨fun E0 ρ G σ st τ H R Rl S q=>?_⟩
 have t:=h.run E0 ρ G σ st τ H (fun x H1=>(∃a xs,x=.ref a∧SqL X.K H1 a xs∧R (Itl X.K a) H1)∨(∃a xs,x=.ref a∧SqT X.K H1 a xs∧R (Itt X.K a) H1)∨∃z,x=.str z∧R (Its z) H1) Rl S
  (Aft.seq q fun w st1 ρ1 G1 H1 v e1 p1 s1 R1 u1 h1=>?_)
 ·intro pins s I;refine thn (t pins s I) fun v s1 ⟨x,H1,I1,r1,q1⟩=>?_
  rcases q1 with⟨a,xs,rfl,hs,q1⟩|⟨a,xs,rfl,hs,q1⟩|⟨z,rfl,q1⟩
  ·cases r1;exact zHf I1 hs q1
  ·cases r1;exact it_tup I1 hs q1
  ·obtain⟨t,rfl⟩:=r1;exact it_str I1 q1
 ·cases w with
  |p x =>
   cases x with
   |lst l =>
    cases u1 with
    |lst hh qq=>exact .inl ⟨_,_,rfl,.inl (.inl (R1.sub _ _ hh)),h1 ρ1 G1 H1 _ (Je _) (Sub.refl _) R1 (zHK (.lst hh qq))⟩
   |tup l =>
    cases u1 with
    |tup hh qq=>exact .inr (.inl ⟨_,_,rfl,R1.sub.sqT hh,h1 ρ1 G1 H1 _ (Je _) (Sub.refl _) R1 (zHL (.tup hh qq))⟩)
   |str z =>
    cases u1;exact .inr (.inr ⟨_,rfl,h1 ρ1 G1 H1 _ (Je _) (Sub.refl _) R1 zHn⟩)
   |_=>exact h1.elim
  |r j =>
   obtain⟨a,ha,rfl⟩:=u1;simp only[vSrc]at h1;split at h1
   ·rename_i sr er
    split at er
    ·rename_i l el
     cases er;obtain⟨b,hb,⟨vs,h2,h3⟩,_⟩:=R1.at el;cases Jb (ha.symm.trans hb);exact .inl ⟨a,vs,rfl,.inl (.inl h2),h1 ρ1 G1 H1 _ (Je _) (Sub.refl _) R1 (zF0 ha)⟩
    ·cases er
   ·exact h1.elim
theorem T.pa1{e:Expr} (hs:starEach [e] X.env=(false,eval e X.env)::starEach [] X.env):PA X [e] (tCons (T X e) tNil):=Vr T.pe pa_nil hs
def zipL:List P→List P→List W
 |x::l,y::m=>.p (.tup [x,y])::zipL l m
 |_,_=>[]
theorem zEF:∀ {l m:List P}{i:Nat},(zipL l m)[i]?=match l[i]?,m[i]? with
  |some x,some y=>some (.p (.tup [x,y]))
  |_,_=>none
 |[],m,i=>by simp[zipL]
 |x::l,[],i=>by
  simp only[zipL,List.getElem?_nil];split
  ·rename_i h;cases h
  ·rfl
 |x::l,y::m,0=>by simp[zipL]
 |x::l,y::m,i+1=>by
  show(zipL l m)[i]?=_;rw[zEF];simp
end
mutual
def toD:P→Option PyData
 | .non=>some .none
 | .bl b=>some (.bool b)
 | .int i=>some (.int i)
 | .str s=>some (.str s)
 | .tup l=>match toDs l with
  |some ds=>some (.tuple ds)
  |none=>none
 | .lst l=>match toDs l with
  |some ds=>some (.list ds)
  |none=>none
 | .scr _=>none
 | .dk _ _=>none
 | .obj _ _=>none
 | .exn _ _=>none
 | .lam _ _=>none
 | .cls _=>none
 | .fd _ _=>none
 | .fn _ _=>none
def toDs:List P→Option (List PyData)
 |[]=>some []
 |x::l=>match toD x,toDs l with
  |some d,some ds=>some (d::ds)
  |_,_=>none
end
def unC(st:List Cell):W→Option P
 | .p x=>some x
 | .r i=>match st[i]? with
  |some (.lst l)=>match pures l with
   |some m=>some (.lst m)
   |none=>none
  |_=>none
section
variable {K:PySem.W.Frag}{cl:Cls}{X:Cx}{Wx:WX}{E0:En}{ρ ρ':List Addr}{G G':Hp}{σ:Sg}{τ:L2.St}{st:List Cell}{H:Hp}{D:Ends}
mutual
theorem RP.dp(s:Sub G H):∀ {x:P}{v:V}{d:PyData},RP K cl G x v→toD x=some d→Dp K H v d
 |_,_,_,.non,e=>by rw[toD]at e;cases e;exact .non
 |_,_,_,.bl b,e=>by rw[toD]at e;cases e;exact .bl b
 |_,_,_,.int i,e=>by rw[toD]at e;cases e;exact .int i
 |_,_,_,.str z,e=>by rw[toD]at e;cases e;exact .str z
 |_,_,_,.tup h r,e=>by
  rw[toD]at e;split at e
  ·rename_i ds e2;cases e;exact .tup (s.sqT h) (RPs.dp s r e2)
  ·cases e
 |_,_,_,.lst h r,e=>by
  rw[toD]at e;split at e
  ·rename_i ds e2;cases e;exact .lst (.inl (.inl (s _ _ h))) (RPs.dp s r e2)
  ·cases e
 |_,_,_,.scr h,e=>by rw[toD]at e;cases e
 |_,_,_,.dk h z r,e=>by rw[toD]at e;cases e
 |_,_,_,.obj c h z r,e=>by rw[toD]at e;cases e
 |_,_,_,.exn c x h d z r,e=>by rw[toD]at e;cases e
 |_,_,_,.lam _ _ _ _ _,e=>by rw[toD]at e;cases e
 |_,_,_,.cls _,e=>by rw[toD]at e;cases e
 |_,_,_,.fd _ _ _,e=>by rw[toD]at e;cases e
 |_,_,_,.fn _ _ _ _ _ _ _,e=>by rw[toD]at e;cases e
theorem RPs.dp(s:Sub G H):∀ {l:List P}{vs:List V}{ds:List PyData},RPs K cl G l vs→toDs l=some ds→DpAll K H vs ds
 |_,_,_,.nil,e=>by rw[toDs]at e;cases e;exact .nil
 |_,_,_,.cons h r,e=>by
  rw[toDs]at e;split at e
  ·rename_i d ds e1 e2;cases e;exact .cons (RP.dp s h e1) (RPs.dp s r e2)
  ·cases e
end
def unD(st:List Cell) (w:W):Option PyData:=(unC st w).bind toD
theorem zDM(R:(bs K cl E0).Rel ρ G st H){w:W}{v:V}{d:PyData} (r:RW K cl ρ G w v) (e:unD st w=some d):Dp K H v d:=by
 cases w with
 |p x=>exact RP.dp R.sub r e
 |r i =>
  obtain⟨a,ha,rfl⟩:=r;unfold unD unC at e;dsimp only at e;split at e
  ·rename_i l el
   split at e
   ·rename_i m em
    obtain⟨b,hb,⟨vs,h2,h3⟩,_⟩:=R.at el;cases Jb (ha.symm.trans hb);have e:toD (.lst m)=some d:=e;rw[toD]at e;split at e
    ·rename_i ds e2
     cases e;exact .lst (.inl (.inl h2)) ((h3.pures em).dp R.sub e2)
    ·cases e
   ·cases e
  ·cases e
def eqS:P→P→Option Bool
 | .non,.non=>some true
 | .int a,.int b=>some (a==b)
 | .bl a,.bl b=>some (a==b)
 | .str a,.str b=>some (a==b)
 | .non,.int _=>some false
 | .int _,.non=>some false
 | .non,.bl _=>some false
 | .bl _,.non=>some false
 | .non,.str _=>some false
 | .str _,.non=>some false
 | .int _,.str _=>some false
 | .str _,.int _=>some false
 | .bl _,.str _=>some false
 | .str _,.bl _=>some false
 |_,_=>none
theorem eqS_ok{x y:P}{v u:V}{k:Bool} (r:RP K cl G x v) (r2:RP K cl G y u) (e:eqS x y=some k):scal v u=true∧decide (v=u)=k:=by
 cases r<;>cases r2<;>first
  |(unfold eqS at e;cases e;done)
  |(cases e;exact⟨rfl,dec_int⟩)
  |(cases e;exact⟨rfl,dec_bl⟩)
  |(cases e;exact⟨rfl,dec_str⟩)
  |(cases e;exact⟨rfl,by simp⟩)
def eqW:W→W→Option Bool
 | .p x,.p y=>eqS x y
 |_,_=>none
def vEqB(neg:Bool) (x y:W) (st:List Cell):Res W:=match eqW x y with
 |some k=>.ok (.p (.bl (if neg=true then !k else k))) st
 |none=>match unD st x,unD st y with
  |some d,some e=>if SeqAt.shaped d=true∧SeqAt.shaped e=true then .ok (.p (.bl (if neg=true then !PyData.eqv d e else PyData.eqv d e))) st else .no
  |_,_=>.no
theorem zG1{x y:W}{v u:V}{k:Bool} (r:RW K cl ρ G x v) (r2:RW K cl ρ G y u) (e:eqW x y=some k):scal v u=true∧decide (v=u)=k:=by
 cases x with
 |p x =>
  cases y with
  |p y=>exact eqS_ok r r2 e
  |r j=>cases e
 |r i=>cases e
def rEqA(K:PySem.W.Frag):R2:=fun x y H Q=>rEq x y H Q∨rEqD K x y H Q
def rNeA(K:PySem.W.Frag):R2:=fun x y H Q=>rNe x y H Q∨rNeD K x y H Q
theorem zG8:VOp K cl (vEqB false) (rEqA K):=by
 intro E0 ρ G st H x y v u Q Z R rx ry h;unfold vEqB at h;split at h
 ·rename_i k ek
  obtain⟨h1,h2⟩:=zG1 rx ry ek;exact .inl ⟨h1,by rw[h2];exact h.here R (RP.bl _)⟩
 ·split at h
  ·rename_i d e hd he
   split at h
   ·rename_i hs
    exact .inr ⟨d,e,zDM R rx hd,zDM R ry he,hs.1,hs.2,h.here R (RP.bl _)⟩
   ·exact h.elim
  ·exact h.elim
theorem vNe_ok:VOp K cl (vEqB true) (rNeA K):=by
 intro E0 ρ G st H x y v u Q Z R rx ry h;unfold vEqB at h;split at h
 ·rename_i k ek
  obtain⟨h1,h2⟩:=zG1 rx ry ek;exact .inl ⟨h1,by rw[h2];exact h.here R (RP.bl _)⟩
 ·split at h
  ·rename_i d e hd he
   split at h
   ·rename_i hs
    exact .inr ⟨d,e,zDM R rx hd,zDM R ry he,hs.1,hs.2,h.here R (RP.bl _)⟩
   ·exact h.elim
  ·exact h.elim
theorem zGy(hu:X.A.units+64<cLine):OpR X (compareOp .Eq) (rEqA X.K):=op_eq.or (op_eqD hu)
theorem op_neA(hu:X.A.units+64<cLine):OpR X (compareOp .NotEq) (rNeA X.K):=op_ne.or (op_neD hu)
theorem zFg{a b:EM}{pa pb:Expr}{pos:Pos} (g:GX K X) (ha:SE K cl X Wx a pa) (hb:SE K cl X Wx b pb) (hm:behindInMarks .Eq pb=false:=by rfl):SE K cl X Wx (mBin (vEqB false) a b) (.Compare pa [.Eq] [pb] pos):=by
 obtain⟨hK,hc,hN,hu,hh⟩:=g;subst hK;exact zE8 (zGy ∅) hm zG8 ha hb
def zCO:P→Bool
 | .non=>true
 | .bl _=>true
 | .int _=>true
 | .str _=>true
 |_=>false
def eqF:P→P→Bool
 | .non,.non=>true
 | .bl a,.bl b=>a==b
 | .bl a,.int b=>(if a then 1 else 0)==b
 | .int a,.bl b=>a==(if b then 1 else 0)
 | .int a,.int b=>a==b
 | .str a,.str b=>a==b
 |_,_=>false
def inP(x:P) (l:List P):Bool:=l.any fun y=>eqF y x
theorem RP.flat{x:P}{v:V} (r:RP K cl G x v) (h:zCO x=true):flatV v=true:=by cases r<;>first|rfl|cases h
theorem RP.eqF{x y:P}{v u:V} (r:RP K cl G x v) (r2:RP K cl G y u) (h:zCO x=true) (h2:zCO y=true):eqV v u=Y.eqF x y:=by
 cases r<;>first|(cases h;done)|(cases r2<;>first|(cases h2;done)|rfl)
theorem RPs.flat:∀ {l:List P}{vs:List V},RPs K cl G l vs→l.all zCO=true→vs.all flatV=true
 |_,_,.nil,_=>rfl
 |_,_,.cons h r,e=>by
  rw[VO,Jh]at e ⊢;exact⟨h.flat e.1,RPs.flat r e.2⟩
theorem RPs.inV{x:P}{v:V} (h:RP K cl G x v) (hx:zCO x=true):∀ {l:List P}{vs:List V},RPs K cl G l vs→l.all zCO=true→L2.inV v vs=inP x l
 |_,_,.nil,_=>rfl
 |y::l,u::vs,.cons q r,e=>by
  rw[VO,Jh]at e;have ih:=RPs.inV h hx r e.2;unfold L2.inV inP at ih ⊢;rw[List.any_cons,List.any_cons,q.eqF h e.1 hx,ih]
def seqP(st:List Cell) (w:W):Option (List P):=match unC st w with
 |some (.lst l)=>some l
 |some (.tup l)=>some l
 |_=>none
theorem zDU(R:(bs K cl E0).Rel ρ G st H){w:W}{v:V}{l:List P} (r:RW K cl ρ G w v) (e:seqP st w=some l):∃a vs,v=.ref a∧(SqL K H a vs∨SqT K H a vs)∧RPs K cl G l vs:=by
 unfold seqP unC at e;cases w with
 |p x =>
  cases x with
  |lst m =>
   cases e;cases r with
   |lst h q=>exact⟨_,_,rfl,.inl (.inl (.inl (R.sub _ _ h))),q⟩
  |tup m =>
   cases e;cases r with
   |tup h q=>exact⟨_,_,rfl,.inr (R.sub.sqT h),q⟩
  |_=>cases e
 |r i =>
  obtain⟨a,ha,rfl⟩:=r;dsimp only at e;split at e
  ·rename_i m em
   split at em
   ·rename_i l' el
    split at em
    ·rename_i m' em'
     cases em;cases e;obtain⟨b,hb,⟨vs,h2,h3⟩,_⟩:=R.at el;cases Jb (ha.symm.trans hb);exact⟨a,vs,rfl,.inl (.inl (.inl h2)),h3.pures em'⟩
    ·cases em
   ·cases em
  ·rename_i m em
   split at em
   ·split at em
    ·cases em
    ·cases em
   ·cases em
  ·cases e
def occ(i j:Str):Bool := !(Builtin.Str.occurrences j i 0 j.length 1).isEmpty
def vInB(neg:Bool) (x y:W) (st:List Cell):Res W:=match x,y with
 | .p (.str i),.p (.str j)=>.ok (.p (.bl (if neg=true then !occ i j else occ i j))) st
 | .p x',y=>match seqP st y with
  |some l=>if zCO x'=true∧l.all zCO=true then .ok (.p (.bl (if neg=true then !inP x' l else inP x' l))) st else
   match toD x',unD st y with
   |some d,some (.list ds)=>if SeqAt.shaped d=true∧SeqAt.shaped (.list ds)=true then .ok (.p (.bl (if neg=true then !ds.any fun z=>PyData.eqv z d else ds.any fun z=>PyData.eqv z d))) st else .no
   |_,_=>.no
  |none=>.no
 |_,_=>.no
def rInA(K:PySem.W.Frag) (neg:Bool):R2:=fun x y H Q=>(rIn K neg x y H Q∨(if neg=true then rNotInD K x y H Q else rInD K x y H Q))∨∃i j,x=.str i∧y=.str j∧Q (.bl (if neg=true then !occ i j else occ i j)) H
theorem zFZ(hu:X.A.units+65<cLine):OpR X (compareOp .NotIn) (rInA X.K true):=by
 intro pins s σ H x y v u Q I rx ry h;rcases h with(h|h)|h
 ·exact op_notIn_seq pins s σ H x y v u Q I rx ry h
 ·exact op_notInD hu pins s σ H x y v u Q I rx ry h
 ·exact op_notIn_str pins s σ H x y v u Q I rx ry h
theorem vIn_ok{neg:Bool}:VOp K cl (vInB neg) (rInA K neg):=by
 intro E0 ρ G st H x y v u Q Z R rx ry h;unfold vInB at h;split at h
 ·rename_i i j
  cases rx;cases ry;exact .inr ⟨i,j,rfl,rfl,h.here R (RP.bl _)⟩
 ·rename_i x' _ _
  split at h
  ·rename_i l el
   split at h
   ·rename_i hf
    obtain⟨a,vs,rfl,h1,h2⟩:=zDU R ry el;refine .inl (.inl ⟨a,vs,rfl,h1,RP.flat rx hf.1,h2.flat hf.2,?_⟩);rw[RPs.inV rx hf.1 h2 hf.2];exact h.here R (RP.bl _)
   ·split at h
    ·rename_i d ds hd hds
     split at h
     ·rename_i hs
      refine .inl (.inr ?_);cases neg with
      |true=>exact⟨d,ds,RP.dp R.sub rx hd,zDM R ry hds,hs.1,hs.2,h.here R (RP.bl _)⟩
      |false=>exact⟨d,ds,RP.dp R.sub rx hd,zDM R ry hds,hs.1,hs.2,h.here R (RP.bl _)⟩
     ·exact h.elim
    ·exact h.elim
  ·exact h.elim
 ·exact h.elim
theorem zGG{a b:EM}{pa pb:Expr}{pos:Pos} (g:GX K X) (ha:SE K cl X Wx a pa) (hb:SE K cl X Wx b pb) (hm:behindInMarks .NotIn pb=false:=by rfl):SE K cl X Wx (mBin (vInB true) a b) (.Compare pa [.NotIn] [pb] pos):=by
 obtain⟨hK,_,_,hu,_⟩:=g;subst hK;exact zE8 (zFZ hu) hm vIn_ok ha hb
def vIsN(neg:Bool) (x y:W) (st:List Cell):Res W:=match y with
 | .p .non=>match x with
  | .p .non=>.ok (.p (.bl (!neg))) st
  |_=>.ok (.p (.bl neg)) st
 |_=>.no
theorem RW.nonOnly{x:W}{v:V} (r:RW K cl ρ G x v) (h:x≠.p .non):v≠.non:=fun e=>by
 subst e;cases x with
 |p x=>cases r;exact h rfl
 |r i=>obtain⟨a,_,e⟩:=r;cases e
theorem zGv:VOp K cl (vIsN false) (fun x y H Q=>y=.non∧Q (.bl (decide (x=.non))) H):=by
 intro E0 ρ G st H x y v u Q Z R rx ry h;unfold vIsN at h;split at h
 ·cases ry;refine⟨rfl,?_⟩;split at h
  ·cases rx;exact h.here R (RP.bl _)
  ·rename_i hn
   rw[VI (rx.nonOnly hn)];exact h.here R (RP.bl _)
 ·exact h.elim
def zCl(i j:Int):Bool:=decide (i.natAbs.log2+j.natAbs.log2<1000000)
def vAdd(x y:W) (st:List Cell):Res W:=match x,y with
 | .p (.int i),.p (.int j)=>.ok (.p (.int (i+j))) st
 | .p (.str i),.p (.str j)=>if i.length+j.length≤LIM then .ok (.p (.str (i++j))) st else .no
 | .p (.tup l),.p (.tup m)=>if l.length+m.length≤LIM then .ok (.p (.tup (l++m))) st else .no
 |x,y=>match unC st x,unC st y with
  |some (.lst l),some (.lst m)=>if l.length+m.length≤LIM then .ok (.p (.lst (l++m))) st else .no
  |_,_=>.no
def rAddA(K:PySem.W.Frag):R2:=fun x y H Q=>((rI0 (fun i j=>.int (i+j)) x y H Q∨∃i j,x=.str i∧y=.str j∧i.length+j.length≤sizeLine∧Q (.str (i++j)) H)∨rCatA K x y H Q)∨rCat x y H Q
theorem zHy:OpR X (binaryOp .Add) (rAddA X.K):=((op_add.or op_add_str).or op_catA).or op_cat
theorem zEB(R:(bs K cl E0).Rel ρ G st H){w:W}{v:V}{l:List P} (r:RW K cl ρ G w v) (e:unC st w=some (.lst l)):∃a vs,v=.ref a∧H a=some (.lst vs)∧RPs K cl G l vs:=by
 unfold unC at e;cases w with
 |p x =>
  cases e;cases r with
  |lst h q=>exact⟨_,_,rfl,R.sub _ _ h,q⟩
 |r i =>
  obtain⟨a,ha,rfl⟩:=r;dsimp only at e;split at e
  ·rename_i l' el
   split at e
   ·rename_i m' em'
    cases e;obtain⟨b,hb,⟨vs,h2,h3⟩,_⟩:=R.at el;cases Jb (ha.symm.trans hb);exact⟨a,vs,rfl,h2,h3.pures em'⟩
   ·cases e
  ·cases e
theorem zHa:VOp K cl vAdd (rAddA K):=by
 intro E0 ρ G st H x y v u Q Z R rx ry h;unfold vAdd at h;split at h
 ·cases rx;cases ry;exact .inl (.inl (.inl ⟨_,_,rfl,rfl,h.here R (RP.int _)⟩))
 ·cases rx;cases ry;split at h
  ·rename_i hl
   exact .inl (.inl (.inr ⟨_,_,rfl,rfl,zCD hl,h.here R (RP.str _)⟩))
  ·exact h.elim
 ·rename_i l m
  cases rx with
  |tup h1 q1 =>
   cases ry with
   |tup h2 q2 =>
    split at h
    ·rename_i hl
     refine .inl (.inr ⟨_,_,_,_,rfl,rfl,R.sub.sqT h1,R.sub.sqT h2,by rw[←q1.length,←q2.length];exact zCD hl,fun e=>?_,fun _ e=>?_,fun _ _ p hp=>?_⟩)
     ·subst e;cases q1;exact h.here R (RP.tup h2 q2)
     ·subst e;cases q2;rw[JW]at h;exact h.here R (RP.tup h1 q1)
     ·exact h.newP R hp (.tup (.inl (.inl Jf)) ((q1.append q2).mono (Sub.new (R.gnone hp))))
    ·exact h.elim
 ·split at h
  ·rename_i l m el em
   obtain⟨a,vs,rfl,h1,q1⟩:=zEB R rx el;obtain⟨b,us,rfl,h2,q2⟩:=zEB R ry em;split at h
   ·rename_i hl
    exact .inr ⟨_,_,_,_,rfl,rfl,h1,h2,by rw[←q1.length,←q2.length];exact zCD hl,fun p hp=>h.newP R hp (.lst Jf ((q1.append q2).mono (Sub.new (R.gnone hp))))⟩
   ·exact h.elim
  ·exact h.elim
theorem zAT{a b:EM}{pa pb:Expr}{pos:Pos} (g:GX K X) (ha:SE K cl X Wx a pa) (hb:SE K cl X Wx b pb):SE K cl X Wx (mBin vAdd a b) (.BinOp pa .Add pb pos):=by
 obtain⟨hK,_⟩:=g;subst hK;exact zDR zHy zHa ha hb
def vFdv:=vI2 (fun _ j=>decide (0<j∧j.natAbs.log2<9000)) fun i j=>.int (i/j)
theorem zG6{a b:EM}{pa pb:Expr}{pos:Pos} (ha:SE K cl X Wx a pa) (hb:SE K cl X Wx b pb):SE K cl X Wx (mBin vFdv a b) (.BinOp pa .FloorDiv pb pos):=zDR op_fdivW (zEL (fun i j G=>RP.int _) fun i j h=>by have h:=JD h;exact h) ha hb
def vMod:=vI2 (fun _ j=>decide (0<j)) fun i j=>.int (i%j)
theorem zCe{a b:EM}{pa pb:Expr}{pos:Pos} (ha:SE K cl X Wx a pa) (hb:SE K cl X Wx b pb):SE K cl X Wx (mBin vMod a b) (.BinOp pa .Mod pb pos):=zDR op_mod (zEL (fun i j G=>RP.int _) fun i j h=>by have h:=JD h;exact h) ha hb
def vPow:=vI2 (fun i j=>decide (0≤j∧j≤1000∧i.natAbs<1000)) fun i j=>.int (i^j.toNat)
theorem zGw{a b:EM}{pa pb:Expr}{pos:Pos} (ha:SE K cl X Wx a pa) (hb:SE K cl X Wx b pb):SE K cl X Wx (mBin vPow a b) (.BinOp pa .Pow pb pos):=zDR op_pow (zEL (fun i j G=>RP.int _) fun i j h=>by
 have h:=JD h
 exact⟨h.1,∅,∅⟩) ha hb
def zDi:=vI2 zCl fun i j=>.int (i*j)
theorem zCb{a b:EM}{pa pb:Expr}{pos:Pos} (ha:SE K cl X Wx a pa) (hb:SE K cl X Wx b pb):SE K cl X Wx (mBin zDi a b) (.BinOp pa .Mult pb pos):=zDR op_mulW (zEL (fun i j G=>RP.int _) fun i j h=>by have h:=JD h;exact h) ha hb
def vLt:=vI2 (fun _ _=>true) fun i j=>.bl (decide (i<j))
def vGt:=vI2 (fun _ _=>true) fun i j=>.bl (decide (j<i))
def vGe:=vI2 (fun _ _=>true) fun i j=>.bl (decide (j≤i))
theorem vLt_ok:VOp K cl vLt (rI0 fun i j=>.bl (decide (i<j))):=zDy fun i j G=>RP.bl _
theorem vGt_ok:VOp K cl vGt (rI0 fun i j=>.bl (decide (j<i))):=zDy fun i j G=>RP.bl _
theorem vGe_ok:VOp K cl vGe (rI0 fun i j=>.bl (decide (j≤i))):=zDy fun i j G=>RP.bl _
theorem se_is{a b:EM}{pa pb:Expr}{pos:Pos} (ha:SE K cl X Wx a pa) (hb:SE K cl X Wx b pb) (hm:behindInMarks .Is pb=false:=by rfl):SE K cl X Wx (mBin (vIsN false) a b) (.Compare pa [.Is] [pb] pos):=zE8 op_isN hm zGv ha hb
abbrev OM:=Sg→List Cell→Res (Option Int)
def TO'(X:Cx) (e:Option Expr):TO:=fun σ H Q=>∀(pins:List (Addr×Obj)) (s:Shared),Inv X pins σ H s →
 wpAny (model X.prog X.w) X.A (evalPart e X.env) (fun u s'=>∃o H',Inv X pins σ H' s'∧IsPart u o∧Q o H') X.xe s
theorem TO'.po{e:Option Expr}:PO X e (TO' X e):=⟨fun pins s σ H Q I h=>h pins s I⟩
theorem TO'.of{e:Option Expr}{t:TO}{Q:Option Int→Hp→Prop} (h:PO X e t) (q:t τ H Q):TO' X e τ H Q:=fun pins s I=>h.run pins s τ H Q I q
structure SO (K:PySem.W.Frag) (cl:Cls) (X:Cx) (Wx:WX) (m:OM) (e:Option Expr):Prop where
 run:∀E0 ρ G σ st τ H Q,(bs K cl E0).Rel ρ G st H→RS K cl ρ G σ τ→Aft (bs K cl E0) (fun _ _ (a b:Option Int)=>a=b) ρ G (m σ st) Q (fun c d H'=>Wx c d τ H')→TO' X e τ H Q
def zGQ:OM:=fun _ st=>.ok none st
def zGp(a:EM):OM:=fun σ st=>(a σ st).bind fun w st1=>match w with
 | .p (.int i)=>.ok (some i) st1
 |_=>.no
theorem zEz:SO K cl X Wx zGQ none:=⟨fun E0 ρ G σ st τ H Q R S h=>TO'.of po_none (h.here (b:=none) R rfl)⟩
theorem zFM{a:EM}{e:Expr} (ha:SE K cl X Wx a e):SO K cl X Wx (zGp a) (some e):=by
 refine⟨fun E0 ρ G σ st τ H Q R S h=>TO'.of (po_some T.pe) ?_⟩
 refine ha.run E0 ρ G σ st τ H _ R S (Aft.seq h fun w st1 ρ1 G1 H1 v e1 p1 s1 R1 u1 h1=>?_)
 split at h1
 ·rename_i i
  cases u1;exact⟨i,rfl,h1.here (b:=some i) R1 rfl⟩
 ·exact h1.elim
def cutL{α:Type} (xs:List α) (lo hi:Option Int):List α:=(xs.drop (HT.sIx xs.length 0 lo)).take (HT.sIx xs.length xs.length hi-HT.sIx xs.length 0 lo)
theorem RPs.cut{l:List P}{vs:List V} (q:RPs K cl G l vs) (lo hi:Option Int):RPs K cl G (cutL l lo hi) (cutV vs lo hi):=by
 unfold cutL cutV;rw[q.length];exact(q.drop _).take _
theorem zGd{α:Type}{xs:List α}{lo hi:Option Int} (h:HT.sIx xs.length 0 lo=0∧HT.sIx xs.length xs.length hi=xs.length):cutL xs lo hi=xs:=by
 unfold cutL;rw[h.1,h.2];simp
def vSl(x:W) (lo hi:Option Int) (st:List Cell):Res W:=match x with
 | .p (.str z)=>if z.length≤LIM then .ok (.p (.str (cutS z lo hi))) st else .no
 | .p (.tup l)=>.ok (.p (.tup (cutL l lo hi))) st
 | .p (.scr l)=>.ok (.p (.lst ((cutL l lo hi).map .int))) st
 |x=>match unC st x with
  |some (.lst l)=>.ok (.p (.lst (cutL l lo hi))) st
  |_=>.no
def mSl(a:EM) (lo hi:OM):EM:=fun σ st=>(a σ st).bind fun x st1=>(lo σ st1).bind fun l st2=>(hi σ st2).bind fun u st3=>vSl x l u st3
theorem zHW{l:List Int}{lo hi:Option Int}:cutV (l.map V.int) lo hi=(cutL l lo hi).map V.int:=by
 unfold cutV cutL;rw[Jr,List.map_take,List.map_drop]
theorem se_sl{a:EM}{lo hi:OM}{e:Expr}{el eh:Option Expr}{pos p2:Pos} (g:GX K X) (ha:SE K cl X Wx a e) (hl:SO K cl X Wx lo el) (hh:SO K cl X Wx hi eh):SE K cl X Wx (mSl a lo hi) (.Subscript e (.Slice el eh none p2) pos):=by
 obtain⟨hK,_⟩:=g;subst hK;refine⟨fun E0 ρ G σ st τ H Q R S h=>T.of (pe_slice ((sl_list.or sl_tupA).or sl_str) T.pe TO'.po TO'.po) ?_⟩
 refine ha.run E0 ρ G σ st τ H _ R S (Aft.seq h fun x st1 ρ1 G1 H1 v e1 p1 s1 R1 u1 h1=>?_)
 refine hl.run E0 ρ1 G1 σ st1 τ H1 _ R1 (S.mono p1 s1) (Aft.seq h1 fun l st2 ρ2 G2 H2 l' e2 p2 s2 R2 u2 h2=>?_)
 obtain rfl:l=l':=u2;refine hh.run E0 ρ2 G2 σ st2 τ H2 _ R2 (S.mono (p1.trans p2) (s1.trans s2)) (Aft.seq h2 fun u st3 ρ3 G3 H3 u' e3 p3 s3 R3 u3 h3=>?_)
 obtain rfl:u=u':=u3
 replace u1:=RW.mono (p2.trans p3) (s2.trans s3) u1
 unfold vSl at h3;split at h3
 ·cases u1;split at h3
  ·rename_i hz
   exact .inr ⟨_,rfl,zCD hz,h3.here R3 (RP.str _)⟩
  ·exact h3.elim
 ·cases u1 with
  |tup hh q =>
   refine .inl (.inr ⟨_,_,rfl,R3.sub.sqT hh,fun e=>?_,fun e p hp=>?_⟩)
   ·rw[zGd (by rw[q.length];exact e)]at h3
    exact h3.here R3 (RP.tup hh q)
   ·exact h3.newP R3 hp (.tup (.inl (.inl Jf)) ((q.cut l u).mono (Sub.new (R3.gnone hp))))
 ·cases u1 with
  |scr hh =>
   refine .inl (.inl ⟨_,_,rfl,R3.sub.sqL hh,fun p hp=>?_⟩)
   rw[zHW];exact h3.newP R3 hp (.lst Jf (RPs.ints _))
 ·split at h3
  ·rename_i m em
   obtain⟨b,vs,rfl,h4,q⟩:=zEB R3 u1 em;exact .inl (.inl ⟨_,_,rfl,.inl (.inl h4),fun p hp=>h3.newP R3 hp (.lst Jf ((q.cut l u).mono (Sub.new (R3.gnone hp))))⟩)
  ·exact h3.elim
end
section
variable {K:PySem.W.Frag}{cl:Cls}{X:Cx}{Wx:WX}{E0:En}{ρ ρ':List Addr}{G G':Hp}{σ:Sg}{τ:L2.St}{st:List Cell}{H:Hp}{D:Ends}
theorem RWs.one{w:W}{vs:List V} (r:RWs K cl ρ G [w] vs):∃v,vs=[v]∧RW K cl ρ G w v:=by
 cases r with
 |cons r rn=>cases rn;exact⟨_,rfl,r⟩
def vInt(ws:List W) (st:List Cell):Res W:=match ws with
 |[.p (.int i)]=>.ok (.p (.int i)) st
 |[.p (.bl k)]=>.ok (.p (.int (if k then 1 else 0))) st
 |[.p (.str a)]=>match PySem.intText? a with
  |some n=>if a.length≤640 then .ok (.p (.int n)) st else .no
  |none=>.no
 |_=>.no
def rIntA:List V→Hp→VK→Prop:=fun xs H Q=>((∃i,xs=[.int i]∧Q (.int i) H)∨∃k,xs=[.bl k]∧Q (.int (if k then 1 else 0)) H)∨∃a n,xs=[.str a]∧PySem.intText? a=some n∧a.length≤640∧Q (.int n) H
theorem zAz:CallR X (.type "int") rIntA:=call_int1.or call_int_str
theorem zBs:zD3 K cl vInt rIntA:=by
 intro E0 ρ G st H ws vs Q Z R rw' h;unfold vInt at h;split at h
 ·obtain⟨v,rfl,r⟩:=rw'.one;cases r;exact .inl (.inl ⟨_,rfl,h.here R (RP.int _)⟩)
 ·obtain⟨v,rfl,r⟩:=rw'.one;cases r;exact .inl (.inr ⟨_,rfl,h.here R (RP.int _)⟩)
 ·obtain⟨v,rfl,r⟩:=rw'.one;cases r;split at h
  ·rename_i n en
   split at h
   ·rename_i hl
    exact .inr ⟨_,n,rfl,en,hl,h.here R (RP.int _)⟩
   ·exact h.elim
  ·exact h.elim
 ·exact h.elim
def intsOf:List P→Option (List Int)
 |[]=>some []
 | .int i::l=>match intsOf l with
  |some m=>some (i::m)
  |none=>none
 |_=>none
theorem zDL(l:List Int):intsOf (l.map P.int)=some l:=by
 induction l with
 |nil=>rfl
 |cons i l ih=>rw[JZ,intsOf,ih]
theorem zDe:∀ {l:List P}{m:List Int},intsOf l=some m→l=m.map P.int
 |[],m,e=>by rw[intsOf]at e;cases e;rfl
 | .int i::l,m,e=>by
  rw[intsOf]at e;split at e
  ·rename_i k ek;cases e;rw[zDe ek];rfl
  ·cases e
 | .non::_,_,e | .bl _::_,_,e | .str _::_,_,e | .tup _::_,_,e | .lst _::_,_,e | .scr _::_,_,e | .dk _ _::_,_,e | .obj _ _::_,_,e | .exn _ _::_,_,e | .lam _ _::_,_,e | .cls _::_,_,e | .fd _ _::_,_,e | .fn _ _::_,_,e=>by
  unfold intsOf at e;cases e
def truF:P→Option Bool
 | .bl b=>some b
 | .int i=>some (i != 0)
 |_=>none
def zBm:List P→Option (List Bool)
 |[]=>some []
 |x::l=>match truF x,zBm l with
  |some b,some bs=>some (b::bs)
  |_,_=>none
inductive TrV:V→Bool→Prop where
 |bl (b:Bool):TrV (.bl b) b
 |int (i:Int):TrV (.int i) (i != 0)
theorem zH7{x:P}{v:V}{b:Bool} (r:RP K cl G x v) (e:truF x=some b):TrV v b:=by
 cases r<;>first|(unfold truF at e;cases e;done)|skip
 ·cases e;exact .bl _
 ·cases e;exact .int _
theorem zEN:∀ {l:List P}{vs:List V}{bs:List Bool},RPs K cl G l vs→zBm l=some bs→Paired TrV vs bs
 |_,_,_,.nil,e=>by rw[zBm]at e;cases e;exact .nil
 |_,_,_,.cons h r,e=>by
  rw[zBm]at e;split at e
  ·rename_i b bs e1 e2;cases e;exact .cons (zH7 h e1) (zEN r e2)
  ·cases e
theorem zED{prog:Program}{w:World}{A:Around}:∀ {vs:List V}{its:List Value}{bs:List Bool},Vals vs its→Paired TrV vs bs→TruthOf prog w A (fun i v=>its.toArray[i]?=some v) (fun i=>bs.getD i false):=by
 intro vs its bs rv pr i v s Q E hv hq;have hv':its[i]?=some v:=by simpa using hv
 clear hv
 induction rv generalizing i bs with
 |nil=>simp at hv'
 |cons r t ih =>
  cases pr with
  |cons p pt =>
   cases i with
   |zero =>
    have e:_=v:=Jb hv';subst e;have hq':Q _ s:=hq;cases p with
    |bl b=>cases r;exact wpAny_truthy_bool hq'
    |int i=>obtain⟨t,rfl⟩:=r;exact PySem.P.truthy_int hq'
   |succ i=>exact ih pt i hq (by simpa using hv')
theorem zE0{prog:Program}{w:World}{A:Around}{E:Value→Shared→Prop}{s:Shared}{l:Addr}{items:Array Value}{Q:Value→Shared→Prop} (hl:s.heap.IsTuple l items)
  (h:∀s₂:Shared,s₂={ s with heap:=s.heap.push { cls:=.type "tuple_iterator",data:=.fields #[.ref l,.int 0 0] } } →
   (s₂.heap.IsTupleIter s.heap.objs.size l 0∧s₂.heap.IsTuple l items)→l≠s.heap.objs.size→Q (.ref s.heap.objs.size) s₂):wpAny (model prog w) A (pyIter (.ref l)) Q E s:=by
 have hlt:l<s.heap.objs.size:=by obtain⟨_,e,_⟩:=hl;exact Jp e
 exact Vo hl (h _ rfl ⟨⟨_,JC _ rfl,rfl,rfl⟩,hl.push _⟩ (JV hlt))
def rAnyG(K:PySem.W.Frag) (f:List Bool→Bool):List V→Hp→VK→Prop:=fun xs H Q=>∃a vs bs,xs=[V.ref a]∧(SqL K H a vs∨SqT K H a vs)∧Paired TrV vs bs∧Q (.bl (f bs)) H
theorem zE5(hc:X.calm=true):CallR X (.builtin "all") (rAnyG X.K fun bs=>bs.all id):=by
 intro pins s σ H xs us Q I r h;obtain⟨a,vs,bs,rfl,hs,pr,q⟩:=h;rw[Vals.ref1 r];rcases hs with hs|hs
 ·obtain⟨its,rv,hl,_⟩:=I.list hs;have hlen:its.toArray.size=bs.length:=by rw[J0,←rv.length];exact pr.length
  refine call_all_walk (iter_any hl.isList fun s₂ e2 st hne=>?_)
  subst e2;refine⟨_,_,_,_,_,_,_,rfl,Walks.list (A:=X.A.in1) (I.ok.hd hc) _ a hne its.toArray,st,zED rv pr,fun h' tk hk=>?_⟩
  refine⟨.bl _,H,I.kept fun b o eo=>hk b o (fun hmem=>?_) (Jc _ eo),?_,q⟩
  ·rcases Jl.mp hmem with e1|hmem
   ·exact absurd (e1▸Jp eo) (VP _)
   ·cases hmem
  ·dsimp only;show Value.bool _=Value.bool _;rw[←L2.all_range,hlen]
 ·obtain⟨its,rv,hl,_⟩:=I.tuple hs;have hlen:its.toArray.size=bs.length:=by rw[J0,←rv.length];exact pr.length
  refine call_all_walk (zE0 (show s.heap.IsTuple a its.toArray from hl) fun s₂ e2 st hne=>?_)
  subst e2;refine⟨_,_,_,_,_,_,_,rfl,Walks.tuple (A:=X.A.in1) (I.ok.hd hc) _ a hne its.toArray,st,zED rv pr,fun h' tk hk=>?_⟩
  refine⟨.bl _,H,I.kept fun b o eo=>hk b o (fun hmem=>?_) (Jc _ eo),?_,q⟩
  ·rcases Jl.mp hmem with e1|hmem
   ·exact absurd (e1▸Jp eo) (VP _)
   ·cases hmem
  ·dsimp only;show Value.bool _=Value.bool _;rw[←L2.all_range,hlen]
def zEw(f:List Bool→Bool) (ws:List W) (st:List Cell):Res W:=match ws with
 |[w]=>match(seqP st w).bind zBm with
  |some bs=>.ok (.p (.bl (f bs))) st
  |none=>.no
 |_=>.no
theorem zFy{f:List Bool→Bool}:zD3 K cl (zEw f) (rAnyG K f):=by
 intro E0 ρ G st H ws vs Q Z R rw' h;unfold zEw at h;split at h
 ·obtain⟨v,rfl,r⟩:=rw'.one;split at h
  ·rename_i w _ bs eb
   cases e1:seqP st w with
   |none=>rw[e1]at eb;cases eb
   |some l =>
    rw[e1]at eb;obtain⟨a,us,rfl,h1,q⟩:=zDU R r e1;exact⟨a,us,bs,rfl,h1,zEN q eb,h.here R (RP.bl _)⟩
  ·exact h.elim
 ·exact h.elim
def zDo(ws:List W) (st:List Cell):Res W:=match ws with
 |[w]=>match seqP st w with
  |some l=>.ok (.p (.lst l)) st
  |none=>.no
 |_=>.no
def rLstOf(K:PySem.W.Frag):List V→Hp→VK→Prop:=fun xs H Q=>∃p ys,xs=[.ref p]∧(SqL K H p ys∨SqT K H p ys)∧∀l,H l=none→Q (.ref l) (upd H l (.lst ys))
theorem zE9:zD3 K cl zDo (rLstOf K):=by
 intro E0 ρ G st H ws vs Q Z R rw' h;unfold zDo at h;split at h
 ·obtain⟨v,rfl,r⟩:=rw'.one;split at h
  ·rename_i l el
   obtain⟨a,us,rfl,h1,q⟩:=zDU R r el;exact⟨a,us,rfl,h1,fun p hp=>h.newP R hp (.lst Jf (q.mono (Sub.new (R.gnone hp))))⟩
  ·exact h.elim
 ·exact h.elim
end
def zAY:List W→List Nat
 |[]=>[]
 | .p _::l=>zAY l
 | .r i::l=>i::zAY l
def zCa:Nat→List W→List W
 |_,[]=>[]
 |k,.p x::l=>.p x::zCa k l
 |k,.r _::l=>.r k::zCa (k+1) l
def callEnd(n:Nat) (refs:List Nat) (st:List Cell):Res W→Res W
 | .ok w st'=>if((st'.drop n).take refs.length).all zBi=true∧n+refs.length≤st'.length then match w with
   | .p x=>.ok (.p x) (putCells refs (st'.drop n) st)
   | .r j=>if n≤j∧j<n+refs.length then match refs[j-n]? with
     |some i=>.ok (.r i) (putCells refs (st'.drop n) st)
     |none=>.no
    else if n+refs.length≤j then match st'[j]? with
     |some c=>if zBi c=true then .ok (.r st.length) (putCells refs (st'.drop n) st++[c])else .no
     |none=>.no
    else .no
  else .no
 | .exc x st'=>if((st'.drop n).take refs.length).all zBi=true∧n+refs.length≤st'.length then .exc x (putCells refs (st'.drop n) st)else .no
 | .no=>.no
def zAI(F:FM) (ws:List W) (st:List Cell):Res W :=
 if(zAY ws).Nodup then match getCells st (zAY ws)with
  |some cs=>callEnd 0 (zAY ws) st (F (zCa 0 ws) cs)
  |none=>.no
 else .no
def spF(K:PySem.W.Frag) (cl:Cls) (F:FM):Sp:=fun vs H Q E=>∃ρ0 G0 st0 ws,Rel K cl ⟨strip H,ρ0.length,G0⟩ ρ0 G0 st0 H∧RWs K cl ρ0 G0 ws vs∧Aft ⟨K,cl,⟨strip H,ρ0.length,G0⟩⟩ (RW K cl) ρ0 G0 (F ws st0) Q E
section
variable {K:PySem.W.Frag}{cl:Cls}{X:Cx}{Wx:WX}{E0:En}{ρ ρ' ρ2:List Addr}{G G':Hp}{σ:Sg}{τ:L2.St}{st st':List Cell}{H H' Hm:Hp}{D:Ends}
theorem zC0{c:Cell} (h:zBi c=true):c≠.dead:=fun e=>by subst e;cases h
theorem zB0:∀ {refs:List Nat}{cs:List Cell},getCells st refs=some cs→cs.length=refs.length
 |[],cs,e=>by rw[getCells]at e;cases e;rfl
 |k::is,cs,e=>by
  rw[getCells]at e;split at e
  ·split at e
   ·split at e
    ·rename_i ds ed
     cases e;exact congrArg Nat.succ (zB0 ed)
    ·cases e
   ·cases e
  ·cases e
theorem zEh(R:Rel K cl E0 ρ G st H){refs:List Nat}{cs:List Cell} (nd:refs.Nodup) (e:getCells st refs=some cs):(rhos ρ refs).Nodup:=by
 refine List.pairwise_iff_getElem.mpr fun i j hi hj hij q=>?_
 obtain⟨k1,r1,e1⟩:=zCE R e (Jk hi);obtain⟨k2,r2,e2⟩:=zCE R e (Jk hj);rw[q]at e1
 have:=getElem?_inj R.nd e1 e2
 subst this
 have:=getElem?_inj nd r1 r2
 omega
theorem Rel.enter(R:Rel K cl E0 ρ G st H){refs:List Nat}{cs xc:List Cell}{xs:List Addr} (nd:refs.Nodup) (hc:getCells st refs=some cs) (up:Sub H Hm) (hx:∀x∈xs,H x=none) (xnd:xs.Nodup) (xl:xs.length=xc.length)
  (hxc:∀(i:Nat) c x,xc[i]?=some c→xs[i]?=some x→CA K cl (xs++rhos ρ refs) G Hm x c):Rel K cl ⟨strip Hm,(xs++rhos ρ refs).length,G⟩ (xs++rhos ρ refs) G (xc++cs) Hm:=by
 have lr:(rhos ρ refs).length=refs.length:=Jr ..;have lc:=zB0 hc
 have there:∀a,a∈rhos ρ refs→∃o,H a=some o:=fun a m=>by
  obtain⟨j,hj⟩:=JH m;obtain⟨i,_,h2⟩:=zCE R hc hj;exact R.there h2
 refine⟨by rw[Jv,Jv,xl,lr,lc],?_,fun i c a e1 e2=>?_,fun i c a e1 e2=>?_,R.sub.trans up,fun a u e _=>(zCA e).1,fun i a hi e=>?_,Ju _,fun a u e=>.inl e,fun a u e=>(zCA e).2,R.gnt,fun q hq=>(R.tabs q hq).ext up⟩
 ·refine Vw.mpr ⟨xnd,zEh R nd hc,fun a ha b hb z=>?_⟩
  subst z;obtain⟨o,q⟩:=there a hb;rw[hx a ha]at q;cases q
 ·rcases zB8 e1 with⟨h1,h2⟩|⟨h1,h2⟩<;>rcases zB8 e2 with⟨h3,h4⟩|⟨h3,h4⟩
  ·exact hxc i c a h2 h4
  ·omega
  ·omega
  ·rw[xl]at h4;obtain⟨k,r1,r2⟩:=zCE R hc h4;obtain⟨d,g1,g2,g3⟩:=zBn hc r1;rw[h2]at g1;cases g1;have x:=R.cell k c a g2 r2;obtain⟨o,q⟩:=R.there r2;exact CA.plain g3 (x.mono (Je _) (Sub.refl _) ((up a o q).trans q.symm))
 ·rcases zB8 e1 with⟨h1,h2⟩|⟨h1,h2⟩<;>rcases zB8 e2 with⟨h3,h4⟩|⟨h3,h4⟩
  ·exact .inr (R.gnone (hx a (Jj h4)))
  ·omega
  ·omega
  ·rw[xl]at h4;obtain⟨k,r1,r2⟩:=zCE R hc h4;obtain⟨d,g1,g2,g3⟩:=zBn hc r1;rw[h2]at g1;cases g1;exact R.sep k c a g2 r2
 ·have:=(Jd.mp e).1
  have hi:(xs++rhos ρ refs).length≤i:=hi;omega
theorem zC9{ρc:List Addr}:∀ {ws:List W}{vs:List V} (k:Nat),RWs K cl ρ G ws vs→(∀(j i:Nat),(zAY ws)[j]?=some i→∃a,ρ[i]?=some a∧ρc[k+j]?=some a)→RWs K cl ρc G (zCa k ws) vs
 |[],_,_,.nil,_=>.nil
 | .p x::ws,_,k,.cons r rs,h=>.cons (show RW K cl ρc G (.p x) _ from r) (zC9 k rs h)
 | .r i::ws,_,k,.cons r rs,h=>by
  obtain⟨a,h1,h2⟩:=h 0 i rfl;obtain⟨b,h3,rfl⟩:=r;rw[h1]at h3;cases h3;refine .cons ⟨a,h2,rfl⟩ (zC9 (k+1) rs fun j m e=>?_)
  obtain⟨c,h4,h5⟩:=h (j+1) m e;exact⟨c,h4,by rw[show k+1+j=k+(j+1) by omega];exact h5⟩
theorem zGc{F:FM}{ws:List W}{vs:List V}{Q:VK}{Z:ZX} (R:(bs K cl E0).Rel ρ G st H) (r:RWs K cl ρ G ws vs) (h:Aft (bs K cl E0) (bs K cl E0).RW ρ G (zAI F ws st) Q Z):spF K cl F vs H Q Z:=by
 unfold zAI at h;split at h
 case isFalse=>exact h.elim
 rename_i nd
 split at h
 case h_2=>exact h.elim
 rename_i cs hc
 have nx:∀x∈([]:List Addr),H x=none:=fun x m=>absurd m (by simp)
 have lr:(rhos ρ (zAY ws)).length=(zAY ws).length:=Jr ..;refine⟨[]++rhos ρ (zAY ws),G,[]++cs,zCa 0 ws,Rel.enter R nd hc (Sub.refl H) nx (by simp) rfl (fun i c x e=>by simp at e),zC9 0 r fun j i e=>?_,?_⟩
 ·obtain⟨a,h1,h2⟩:=zDa R hc e;exact⟨a,h1,by rw[Nat.zero_add];exact h2⟩
 ·have h:Aft (bs K cl E0) (bs K cl E0).RW ρ G (callEnd 0 (zAY ws) st (F (zCa 0 ws) cs)) Q Z:=h;show Aft _ _ _ _ (F (zCa 0 ws) cs) Q Z;generalize F (zCa 0 ws) cs=res at h ⊢;cases res with
  |no=>exact h.elim
  |exc x st' =>
   intro ρ' G' H' cls d p s R' u;unfold callEnd at h;dsimp only at h
   by_cases hp:((st'.drop 0).take (zAY ws).length).all zBi=true∧0+(zAY ws).length≤st'.length
   case neg=>rw[J9 hp]at h;exact h.elim
   rw[JN hp]at h;exact h ρ G' H' cls d (Je _) s (Rel.ret R nd hc (Sub.refl H) nx p s R' hp.1 (by simpa using hp.2)) u
  |ok w st' =>
   intro ρ' G' H' v p s R' u;unfold callEnd at h;dsimp only at h
   by_cases hp:((st'.drop 0).take (zAY ws).length).all zBi=true∧0+(zAY ws).length≤st'.length
   case neg=>rw[J9 hp]at h;exact h.elim
   rw[JN hp]at h;have R2:=Rel.ret R nd hc (Sub.refl H) nx p s R' hp.1 (by simpa using hp.2)
   split at h
   ·exact h ρ G' H' v (Je _) s R2 u
   ·rename_i j
    obtain⟨a,ha,rfl⟩:=u;split at h
    ·rename_i hj
     split at h
     ·rename_i i ei
      obtain⟨b,h1,h2⟩:=zDa R hc ei
      have:(rhos ρ (zAY ws))[j]?=some a:=by
       obtain⟨tl,rfl⟩:=p;rw[List.nil_append]at ha;rw[Ja (by rw[lr];omega)]at ha
       exact ha
      rw[Nat.sub_zero,this]at h2;cases h2;exact h ρ G' H' (.ref a) (Je _) s R2 ⟨a,h1,rfl⟩
     ·exact h.elim
    ·split at h
     ·rename_i hj
      split at h
      ·rename_i c ec
       split at h
       ·rename_i hpl
        have x:=R'.cell j c a ec ha;have sp:=(R'.sep j c a ec ha).resolve_left (zC0 hpl);have hn:strip H a=none:=R'.new j a (by rw[List.nil_append,lr];show(zAY ws).length≤j;omega) ha
        have R3:=Rel.adoptC (c:=c) R2 (zC0 hpl) sp (fun i e=>(R.offF hn).1 i e) (R.offF hn).2 (CA.plain hpl x)
        refine h (ρ++[a]) G' H' (.ref a) (JT _ _) s R3 ⟨a,?_,rfl⟩;rw[←R.len];simp
       ·exact h.elim
      ·exact h.elim
     ·exact h.elim
def zBV(F:FM) (a:AM):EM:=fun σ st=>(a σ st).bind fun ws st1=>(zAI F ws st1).nox
theorem Aft.noxZ{B:Bs}{α β:Type}{U:List Addr→Hp→α→β→Prop}{R:Res α}{Q:β→Hp→Prop}{Z Z':ZX} (h:Aft B U ρ G R.nox Q Z):Aft B U ρ G R Q Z':=by
 cases R with
 |ok a st=>exact h
 |exc x st=>exact h.elim
 |no=>exact h.elim
section
variable {f:Addr}{fd:FuncData}{ps:List Str}{F:FM}{a:AM}{k:Nat}{x m:Str}{p pos apos:Pos}{e:Expr}{es:List Expr}
theorem zHI(Fk:FnOk X.prog X.w X.K X.mg X.base CX0 k f fd ps (spF K cl F)) (hr:Room k X.A) (hg:Gl X x) (hm:X.mg x=some (.ref f)) (hk:PySem.W.keepIn X.K (.ref f)=true) (hb:Binds X.K fd ps [])
  (ha:SA K cl X Wx a (e::es)) (hdb:(x==("__debug__" : Str))=false:=by decide) (he:starEach (e::es) X.env=(false,eval e X.env)::starEach es X.env:=by rfl) (hpl:(backTo pos (starEach es X.env)).any (·.1)=false:=by rfl) :
  SE K cl X Wx (zBV F a) (.Call (.Name x p) (e::es) [] pos):=by
 refine⟨fun E0 ρ G σ st τ H Q R S h=>T.of (pe_call (E:=L2.E0) Fk hr hg hm hk hb .nil pass0 TA'.pa hdb he hpl) ?_⟩
 refine ha.run E0 ρ G σ st τ H _ R S (Aft.seq h fun ws st1 ρ1 G1 H1 vs e1 p1 s1 R1 u1 h1=>?_)
 rw[JW];exact zGc R1 u1 h1.noxZ
theorem zCK:∀ {ns:List Str}{vs:List V}{i:Nat}{m:Str}{v:V},ns.Nodup→ns[i]?=some m→vs[i]?=some v→(ns.zip vs).lookup m=some v
 |[],_,_,_,_,_,h,_=>by simp at h
 |_::_,[],_,_,_,_,_,h=>by simp at h
 |n::ns,u::vs,0,m,v,_,h1,h2=>by
  simp at h1 h2;subst h1;subst h2;simp
 |n::ns,u::vs,i+1,m,v,nd,h1,h2=>by
  have h1:ns[i]?=some m:=by simpa using h1
  have h2:vs[i]?=some v:=by simpa using h2
  rw[List.zip_cons_cons,J4]
  have:(m==n)=false:=J5.mpr fun e=>(J7.mp nd).1 (by rw[←e];exact Jj h1)
  rw[this];exact zCK (J7.mp nd).2 h1 h2
theorem lookup_mem:∀ {cs:List (Nat×Nat)}{c i:Nat},cs.lookup c=some i→(c,i)∈cs
 |[],_,_,h=>by simp at h
 |(a,b)::cs,c,i,h=>by
  rw[J4]at h;split at h
  ·rename_i e
   cases h
   have:c=a:=eq_of_beq e
   subst this;exact Ji
  ·exact Jy _ (lookup_mem h)
end
end
def runF(np N:Nat) (m:SMm):FM:=fun ws st=>if ws.length=np then match m (ws.map some++List.replicate (N-np) none) st with
 | .ok .nx _ st1=>.ok (.p .non) st1
 | .ok (.rt w) _ st1=>.ok w st1
 |_=>.no
 else .no
abbrev cxD(P:Program) (w:World) (K:PySem.W.Frag) (mg:Str→Option Value) (base:Heap) (N:List Str) (qual:Str) (scope:Scope) (f:Addr) (cd:Value) (A:Around) (outer:List Env) (s:Shared) (H:Hp) (E:XK):Cx :=
 (cxOf CX0 P w K mg base N qual scope f cd A outer s H E).nox
section
variable {K:PySem.W.Frag}{cl:Cls}{X:Cx}{Wx:WX}{E0:En}{ρ ρ':List Addr}{G G':Hp}{σ:Sg}{τ:L2.St}{st:List Cell}{H:Hp}{D:Ends}
theorem gx_of{P:Program}{w:World}{mg:Str→Option Value}{base:Heap}{N ps:List Str}{qual:Str}{scope:Scope}{f:Addr}{cd:Value}{A:Around}{outer:List Env}{s:Shared}{H:Hp}{E:XK}{k:Nat}
  (S:FnScope N ps scope) (hr:Room k (A.deeper (envOfC qual scope s.heap.objs.size f cd))):GX K (cxD P w K mg base N qual scope f cd A outer s H E) :=
 ⟨rfl,rfl,S.nd,by have:=hr.un;show(A.deeper _).units+65<cLine;omega,hr.hd⟩
theorem fn_end{P:Program}{w:World}{mg:Str→Option Value}{base:Heap}{N ps:List Str}{qual:Str}{body:List Stmt}{scope:Scope}{f:Addr}{cd:Value}{A:Around}{outer:List Env}{s:Shared}{H:Hp}{E E':XK}{m:SMm}{vs:List V}{Q:VK} (S:FnScope N ps scope)
  (hb:SSs K cl (cxD P w K mg base N qual scope f cd A outer s H E) WF m body) (h:spF K cl (runF ps.length N.length m) vs H Q E'):TSs' (cxD P w K mg base N qual scope f cd A outer s H E) body { nx:=fun _ H'=>Q .non H',rt:=Q } (L2.start N vs) H:=by
 obtain⟨ρ0,G0,st0,ws,R,r,a⟩:=h;unfold runF at a;split at a
 case isFalse=>exact a.elim
 rename_i hl
 have lv:vs.length=ps.length:=by rw[←r.length];exact hl
 refine hb.run ⟨strip H,ρ0.length,G0⟩ ρ0 G0 (ws.map some++List.replicate (N.length-ps.length) none) st0 (L2.start N vs) H _ R ?_ ?_
 ·unfold L2.start;rw[lv];refine⟨by rw[Jv,Jv,Jr,Jr,hl,lv,List.length_replicate,List.length_replicate],fun i w' e=>?_⟩
  rcases zB8 e with⟨h1,h2⟩|⟨h1,h2⟩
  ·rw[Jr]at h1;rw[Jn]at h2;cases q:ws[i]? with
   |none=>rw[q]at h2;cases h2
   |some u =>
    rw[q]at h2;have h2:some (some u)=some (some w'):=h2;cases h2;obtain⟨v,ev,rv⟩:=r.get q;refine⟨v,?_,rv⟩;rw[Ja (by rw[Jr,lv,←hl];exact h1),Jn,ev];rfl
  ·rw[J8]at h2;split at h2<;>cases h2
 ·generalize m (ws.map some++List.replicate (N.length-ps.length) none) st0=res at a ⊢;cases res with
  |no=>exact a.elim
  |exc x σ st=>exact a.elim
  |ok fl σ st =>
   cases fl with
   |nx=>exact fun ρ' G' H' τ' p s R' S'=>a ρ' G' H' .non p s R' RP.non
   |rt u=>exact fun ρ' G' H' τ' p s R' S' v rv=>a ρ' G' H' v p s R' rv
   |bk=>exact a.elim
   |ct=>exact a.elim
theorem fn_ok{P:Program}{w:World}{mg:Str→Option Value}{base:Heap}{N ps:List Str}{x qual:Str}{params:Arguments}{body:List Stmt}{scope:Scope}{dvs:List V}{kws:List (Str×V)}{f:Addr}{fd:FuncData}{k:Nat}{m:SMm}
  (F:FunD K x qual params body scope dvs kws f fd) (S:FnScope N ps scope) (hb:∀(cd:Value) (A:Around) (outer:List Env) (s:Shared) (H:Hp) (E:XK),Room k (A.deeper (envOfC qual scope s.heap.objs.size f cd))→SSs K cl (cxD P w K mg base N qual scope f cd A outer s H E) WF m body) :
  FnOk P w K mg base CX0 (k+1) f fd ps (spF K cl (runF ps.length N.length m)):=by
 refine F.ok S (fun vs H Q E h=>?_) (fun cd A outer s H vs Q E hr h=>⟨TSs' (cxD P w K mg base N qual scope f cd A outer s H E) body,PSs.nox TSs'.pss,fn_end S (hb cd A outer s H E hr) h⟩)
 ·obtain⟨ρ0,G0,st0,ws,R,r,a⟩:=h;unfold runF at a;split at a
  ·rename_i hl;rw[←r.length];exact hl
  ·exact a.elim
theorem zHq{i:Nat}{l:List W}{v:V} (R:(bs K cl E0).Rel ρ G st H) (r:RW K cl ρ G (.r i) v) (e:st[i]?=some (.lst l)):∃a vs,v=.ref a∧ρ[i]?=some a∧H a=some (.lst vs)∧RWs K cl ρ G l vs:=by
 obtain⟨a,ha,rfl⟩:=r;obtain⟨b,hb,⟨vs,h1,h2⟩,_⟩:=R.at e;cases Jb (ha.symm.trans hb);exact⟨a,vs,rfl,ha,h1,h2⟩
def zC3(o ix m:EM):SMm:=fun σ st=>(m σ st).to σ fun x st1=>(o σ st1).to σ fun w st2=>(ix σ st2).to σ fun k st3=>match w,k with
 | .r i,.p (.int n)=>match st3[i]? with
  |some (.lst l)=>match L2.ixN l.length n with
   |some j=>.ok .nx σ (st3.set i (.lst (l.set j x)))
   |none=>.no
  |_=>.no
 |_,_=>.no
theorem zCQ{o ix m:EM}{eo ei e:Expr}{pos pos':Pos} (g:GX K X) (ho:SE K cl X Wx o eo) (hi:SE K cl X Wx ix ei) (h:SE K cl X Wx m e)
  (ha:∀v,PySem.assign (.Subscript eo ei pos') X.env v=(do
   let ov ←holding [v] (eval eo X.env)
   let iv ←holding [v,ov] (eval ei X.env)
   standAt pos'
   holding [v,ov,iv] (setItem ov iv v)
   release [v,ov,iv] []):=by intro _;rfl)
  (hs:swapsWithSole [.Subscript eo ei pos'] e pos.line X.env=pure false:=by rfl) (hw:swappedStores [.Subscript eo ei pos'] e X.env=pure none:=by rfl) (h1:(assignEach [.Subscript eo ei pos'] X.env).map (·.2)=[PySem.assign (.Subscript eo ei pos') X.env]:=by rfl) :
  SS K cl X Wx (zC3 o ix m) (.Assign [.Subscript eo ei pos'] e pos):=by
 refine⟨fun E0 ρ G σ st τ H D R S q=>TS'.of (ps_asg T.pe (pg_sub T.pe T.pe set_list ha) hs hw h1) ?_⟩
 refine h.run E0 ρ G σ st τ H _ R S (AftS.seq S q fun x st1 ρ1 G1 H1 v e1 p1 s1 R1 u1 h1=>?_)
 have S1:=RS.mono p1 s1 S;refine ho.run E0 ρ1 G1 σ st1 τ H1 _ R1 S1 (AftS.seq S1 h1 fun w st2 ρ2 G2 H2 ov e2 p2 s2 R2 u2 h2=>?_)
 have S2:=RS.mono p2 s2 S1;refine hi.run E0 ρ2 G2 σ st2 τ H2 _ R2 S2 (AftS.seq S2 h2 fun k st3 ρ3 G3 H3 iv e3 p3 s3 R3 u3 h3=>?_)
 split at h3
 ·rename_i i n
  split at h3
  ·rename_i l el
   split at h3
   ·rename_i j ej
    obtain⟨a,us,rfl,ha,g1,g2⟩:=zHq R3 (RW.mono p3 s3 u2) el;cases u3;refine⟨a,us,n,j,rfl,rfl,g1,by rw[←g2.length];exact ej,?_⟩
    exact AftS.nx h3 (Rel.write (o:=.lst (us.set j v)) R3 el (fun z=>by cases z) (fun z=>by cases z) ha ⟨_,Jf,RWs.set (RW.mono (p2.trans p3) (s2.trans s3) u1) j g2⟩) (RS.mono p3 s3 S2)
   ·exact h3.elim
  ·exact h3.elim
 ·exact h3.elim
end
section
variable {K:PySem.W.Frag}{cl:Cls}{X:Cx}{Wx:WX}{E0:En}{ρ ρ':List Addr}{G G':Hp}{σ:Sg}{τ:L2.St}{st:List Cell}{H:Hp}{D:Ends}
def zB2(st:List Cell):W→Option String
 | .p .non=>some "NoneType"
 | .p (.bl _)=>some "bool"
 | .p (.int _)=>some "int"
 | .p (.str _)=>some "str"
 | .p (.tup _)=>some "tuple"
 | .p (.lst _)=>some "list"
 | .p (.dk _ _)=>some "dict"
 | .r i=>match st[i]? with
  |some (.lst _)=>some "list"
  |some (.dk _ _)=>some "dict"
  |_=>none
 |_=>none
def zC6:List String:=["NoneType", "bool", "int", "str", "tuple", "list", "dict"]
def zDQ(t T:String):Bool:=decide (t=T)||(decide (t = "bool")&&decide (T = "int"))
theorem kit_ok(K:PySem.W.Frag){t T:String} (ht:t∈zC6) (hT:T∈zC6):PySem.W.kitOne K (.type t) (.type T)=some (zDQ t T):=by
 simp only[zC6,Jl,Jq,J3]at ht hT;rcases ht with rfl|rfl|rfl|rfl|rfl|rfl|rfl<;>rcases hT with rfl|rfl|rfl|rfl|rfl|rfl|rfl<;>kernel_rfl
theorem zHD{a:Addr}{vs:List V} (h:SqT K H a vs):TyX K H (.ref a) (.type "tuple"):=by
 rcases h with(h|⟨o,h⟩)|⟨o,its,n,h1,h2,_⟩
 ·exact .base (.tup h)
 ·exact .fTuple h
 ·exact .kTuple h1 h2
theorem zFN{w:W}{v:V}{t:String} (R:(bs K cl E0).Rel ρ G st H) (r:RW K cl ρ G w v) (e:zB2 st w=some t):TyX K H v (.type t)∧t∈zC6:=by
 cases w with
 |p x =>
  cases r with
  |non=>cases e;exact⟨.base .non,!0⟩
  |bl b=>cases e;exact⟨.base (.bl b),!0⟩
  |int i=>cases e;exact⟨.base (.int i),!0⟩
  |str z=>cases e;exact⟨.base (.str z),!0⟩
  |tup h q=>cases e;exact⟨zHD (R.sub.sqT h),!0⟩
  |lst h q=>cases e;exact⟨.base (.lst (R.sub _ _ h)),!0⟩
  |dk h z q=>cases e;exact⟨.base (.dK (R.sub _ _ h)),!0⟩
  |scr h=>cases e
  |obj c h z q=>cases e
  |exn c x h d z q=>cases e
  |lam _ _ _ _ _=>cases e
  |cls _=>cases e
  |fd _ _ _=>cases e
  |fn _ _ _ _ _ _ _=>cases e
 |r i =>
  obtain⟨a,ha,rfl⟩:=r;have e:(match st[i]? with|some (.lst _)=>some "list" | some (.dk _ _)=>some "dict" | _=>none)=some t:=e
  split at e
  ·rename_i l el
   cases e;obtain⟨b,hb,⟨vs,h1,h2⟩,_⟩:=R.at el;cases Jb (ha.symm.trans hb);exact⟨.base (.lst h1),!0⟩
  ·rename_i ks l el
   cases e;obtain⟨b,hb,⟨vs,h1,z,h2⟩,_⟩:=R.at el;cases Jb (ha.symm.trans hb);exact⟨.base (.dK h1),!0⟩
  ·cases e
def mIsi(T:String) (a:EM):EM:=fun σ st=>(a σ st).bind fun w st1=>match zB2 st1 w with
 |some t=>.ok (.p (.bl (zDQ t T))) st1
 |none=>.no
theorem zBu{Ty:String}{x:Str}{a:EM}{e:Expr}{p q pos:Pos} (g:GX K X) (hT:Ty∈zC6) (hg:Gl X "isinstance") (hm:X.mg "isinstance" = none) (hgx:Gl X x) (hmx:X.mg x=none) (hv:bootBuiltins x=some (.type Ty)) (hn:x ≠ "__name__") (hdb:(x==("__debug__" : Str))=false)
  (ha:SE K cl X Wx a e) (hs:starEach [e,.Name x q] X.env=(false,eval e X.env)::starEach [.Name x q] X.env:=by rfl) (hs2:starEach [.Name x q] X.env=(false,eval (.Name x q) X.env)::starEach [] X.env:=by rfl) (hpl:(backTo pos (starEach [.Name x q] X.env)).any (·.1)=false:=by rfl) :
  SE K cl X Wx (mIsi Ty a) (.Call (.Name "isinstance" p) [e,.Name x q] [] pos):=by
 obtain⟨hK,_⟩:=g;subst hK;refine⟨fun E0 ρ G σ st τ H Q R S h=>T.of (pe_callB call_isi hg hm ⋯ (Vr T.pe (Vr (pe_bltn (v:=.ty Ty) hgx hmx hv rfl hn hdb) pa_nil hs2) hs) ⋯ ⋯ hs hpl) ?_⟩
 refine ha.run E0 ρ G σ st τ H _ R S (Aft.seq h fun w st1 ρ1 G1 H1 v e1 p1 s1 R1 u1 h1=>?_)
 split at h1
 ·rename_i t et
  obtain⟨t1,t2⟩:=zFN R1 u1 et;exact⟨v,.ty Ty,_,_,zDQ t Ty,rfl,.ty Ty,t1,kit_ok _ t2 hT,h1.here R1 (RP.bl _)⟩
 ·exact h1.elim
end
def ZK.sure(K:PySem.W.Frag) (H:Hp) (i:Nat) (v:V):ZK→Prop
 | .L a=>∀xs,SqL K H a xs→xs[i]?=some v
 | .T a=>∀xs,SqT K H a xs→xs[i]?=some v
 | .S x=>∃c,x.cps[i]?=some c∧v=.str ⟨#[c]⟩
def ZK.itr(t:Tok) (h:Heap) (it:Addr) (i:Nat):ZK→Prop
 | .L a=>h.IsListIter it a i
 | .T a=>h.IsTupleIter it a i
 | .S x=>h.IsStrIter it (strIterType x) x t i
def ZK.off(it:Addr):ZK→Prop
 | .L a=>a≠it
 | .T a=>a≠it
 | .S _=>True
def ItzZ(K:PySem.W.Frag) (k1 k2:ZK):It :=
 ⟨fun i H=>∃n1 n2,k1.len K H n1∧k2.len K H n2∧i<n1∧i<n2,
  fun i H v H'=>∃T x y,v=.ref T∧H T=none∧H'=upd H T (.tup [x,y])∧k1.sure K H i x∧k2.sure K H i y,
  fun i H=>∃n1 n2,k1.len K H n1∧k2.len K H n2∧i≤n1∧i≤n2∧(i=n1∨i=n2)⟩
section
variable {X:Cx}{pins:List (Addr×Obj)}{τ:L2.St}{H:Hp}{s:Shared}
theorem ZK.itr_at{kd:ZK}{t:Tok}{h h':Heap}{it:Addr}{i:Nat} (g:kd.itr t h it i) (k:∀o,h.get? it=some o→h'.get? it=some o):kd.itr t h' it i:=by
 cases kd with
 |L a=>exact Heap.IsListIter.at g k
 |T a=>exact Heap.IsTupleIter.at g k
 |S x=>obtain⟨o,ho,r⟩:=g;exact⟨o,k o ho,r⟩
theorem ZK.itr_rec{kd:ZK}{t:Tok}{h:Heap}{it:Addr}{i:Nat} (g:kd.itr t h it i):∃o,h.get? it=some o∧∀v,o.data≠.cell v:=by
 cases kd with
 |L a=>obtain⟨o,ho,_,hd⟩:=g;exact⟨o,ho,fun v e=>by rw[hd]at e;cases e⟩
 |T a=>obtain⟨o,ho,_,hd⟩:=g;exact⟨o,ho,fun v e=>by rw[hd]at e;cases e⟩
 |S x=>obtain⟨o,ho,_,hd⟩:=g;exact⟨o,ho,fun v e=>by rw[hd]at e;cases e⟩
theorem ZK.draws{kd:ZK}{t:Tok}{it:Addr}{n i:Nat}{A:Around} (hh:A.handled=none) (I:Inv X pins τ H s) (hl:kd.len X.K H n) (ho:kd.off it) (hi:kd.itr t s.heap it i) :
  ∃(fp:List Addr) (P:Nat→Value→Prop) (St:Nat→Heap→Prop),Draws X.prog X.w A it fp n P St∧St i s.heap∧it∈fp∧(∀b∈fp,b<s.heap.objs.size)∧(∀b∈fp,b≠it→kd.val=.ref b)∧(∀j h,St j h→kd.itr t h it j)∧∀u,i<n→P i u→∃v,RelV v u∧kd.sure X.K H i v:=by
 cases kd with
 |L a =>
  obtain⟨xs,hs,rfl⟩:=hl;obtain⟨its,rv,p,_⟩:=I.list hs;have sz:its.toArray.size=xs.length:=by rw[J0];exact rv.length.symm
  obtain⟨oi,hoi,_⟩:=id hi;obtain⟨oa,hoa,_⟩:=id p.isList;have D:=Draws.list (prog:=X.prog) (w:=X.w) hh it a ho its.toArray;rw[sz]at D;refine⟨_,_,_,D,⟨hi,p.isList⟩,by simp,fun b hb=>?_,fun b hb hne=>?_,fun j h st=>st.1,fun u hlt hu=>?_⟩
  ·rcases Jl.mp hb with rfl|hb
   ·exact Jp hoi
   ·rw[JK.mp hb];exact Jp hoa
  ·rcases Jl.mp hb with e|hb
   ·exact absurd e hne
   ·rw[JK.mp hb];rfl
  ·have hu':its[i]?=some u:=by simpa using hu
   obtain⟨v,hv⟩:∃v,xs[i]?=some v:=⟨xs[i],Jk hlt⟩;obtain⟨u2,e2,r2⟩:=rv.get hv;rw[hu']at e2;cases e2;exact⟨v,r2,fun ys hy=>by rw[I.list_inj hy hs];exact hv⟩
 |T a =>
  obtain⟨xs,hs,rfl⟩:=hl;obtain⟨its,rv,p,_⟩:=I.tuple hs;have p':s.heap.IsTuple a its.toArray:=p;have sz:its.toArray.size=xs.length:=by rw[J0];exact rv.length.symm
  obtain⟨oi,hoi,_⟩:=id hi;obtain⟨oa,hoa,_⟩:=id p';have D:=Draws.tuple (prog:=X.prog) (w:=X.w) hh it a ho its.toArray;rw[sz]at D;refine⟨_,_,_,D,⟨hi,p'⟩,by simp,fun b hb=>?_,fun b hb hne=>?_,fun j h st=>st.1,fun u hlt hu=>?_⟩
  ·rcases Jl.mp hb with rfl|hb
   ·exact Jp hoi
   ·rw[JK.mp hb];exact Jp hoa
  ·rcases Jl.mp hb with e|hb
   ·exact absurd e hne
   ·rw[JK.mp hb];rfl
  ·have hu':its[i]?=some u:=by simpa using hu
   obtain⟨v,hv⟩:∃v,xs[i]?=some v:=⟨xs[i],Jk hlt⟩;obtain⟨u2,e2,r2⟩:=rv.get hv;rw[hu']at e2;cases e2;exact⟨v,r2,fun ys hy=>by rw[I.tuple_inj hy hs];exact hv⟩
 |S x =>
  have hl:x.cps.size=n:=hl;subst hl;obtain⟨oi,hoi,_⟩:=id hi;refine⟨_,_,_,Draws.text (prog:=X.prog) (w:=X.w) hh it x t,hi,by simp,fun b hb=>?_,fun b hb hne=>?_,fun j h st=>st,fun u hlt hu=>?_⟩
  ·rw[JK.mp hb];exact Jp hoi
  ·exact absurd (JK.mp hb) hne
  ·obtain⟨c,t',hc,rfl⟩:=hu;exact⟨.str ⟨#[c]⟩,⟨t',rfl⟩,c,hc,rfl⟩
structure zCd (z TI TO i1 i2:Addr) (k1 k2:ZK):Prop where
 TIz:TI≠z
 TOz:TO≠z
 i1z:i1≠z
 i2z:i2≠z
 TITO:TI≠TO
 TIi1:TI≠i1
 TIi2:TI≠i2
 TOi1:TO≠i1
 TOi2:TO≠i2
 i12:i1≠i2
 o1:∀a,k1.val=.ref a→a≠z∧a≠TO∧a≠i1∧a≠i2
 o2:∀a,k2.val=.ref a→a≠z∧a≠TO∧a≠i1∧a≠i2
theorem zCd.off1{z TI TO i1 i2:Addr}{k1 k2:ZK} (D:zCd z TI TO i1 i2 k1 k2):k1.off i1:=by
 cases k1 with
 |L a=>exact(D.o1 a rfl).2.2.1
 |T a=>exact(D.o1 a rfl).2.2.1
 |S x=>trivial
theorem zCd.off2{z TI TO i1 i2:Addr}{k1 k2:ZK} (D:zCd z TI TO i1 i2 k1 k2):k2.off i2:=by
 cases k2 with
 |L a=>exact(D.o2 a rfl).2.2.2
 |T a=>exact(D.o2 a rfl).2.2.2
 |S x=>trivial
theorem zCd.sep{z TI TO i1 i2:Addr}{k1 k2:ZK}{fp1 fp2:List Addr} (D:zCd z TI TO i1 i2 k1 k2) (m1:i1∈fp1) (m2:i2∈fp2) (h1:∀b∈fp1,b≠i1→k1.val=.ref b) (h2:∀b∈fp2,b≠i2→k2.val=.ref b):ZipSep2 z TI TO i1 i2 fp1 fp2 where
 TIz:=D.TIz
 TOz:=D.TOz
 TITO:=D.TITO
 TIi1:=D.TIi1
 mem1:=m1
 zf1:=fun m=>by
  by_cases e:z=i1
  ·exact D.i1z e.symm
  ·exact(D.o1 z (h1 z m e)).1 rfl
 Tf1:=fun m=>(D.o1 TO (h1 TO m D.TOi1)).2.1 rfl
 TIi2:=D.TIi2
 mem2:=m2
 zf2:=fun m=>by
  by_cases e:z=i2
  ·exact D.i2z e.symm
  ·exact(D.o2 z (h2 z m e)).1 rfl
 Tf2:=fun m=>(D.o2 TO (h2 TO m D.TOi2)).2.1 rfl
 sep1_2:=fun m=>(D.o2 i1 (h2 i1 m D.i12)).2.2.1 rfl
 sep2_1:=fun m=>(D.o1 i2 (h1 i2 m (VQ D.i12))).2.2.2 rfl
theorem zHX{P:Program}{w:World}{K:PySem.W.Frag}{elts:List Expr}{kk:Nat}{tpos:Pos}{k1 k2:ZK}{t1 t2:Tok}{z TI TO i1 i2:Addr} (D:zCd z TI TO i1 i2 k1 k2) :
  Turn P w K (.Tuple elts kk tpos) (ItzZ K k1 k2) [z,TI,TO,i1,i2] z (fun i h=>IsZip h z TI TO .none∧IsTupOf2 h TI (.ref i1) (.ref i2)∧(∃x y,IsTupOf2 h TO x y)∧k1.itr t1 h i1 i∧k2.itr t2 h i2 i) where
 mem:=by simp
 obj:=fun i h st c hc=>by
  obtain⟨hz,hTI,⟨x,y,hTO⟩,g1,g2⟩:=st;have e':c=z∨c=TI∨c=TO∨c=i1∨c=i2:=by simpa using hc
  rcases e' with q|q|q|q|q
  ·rw[q];exact⟨_,hz,fun v q=>nomatch q⟩
  ·rw[q];exact⟨_,hTI,fun v q=>nomatch q⟩
  ·rw[q];exact⟨_,hTO,fun v q=>nomatch q⟩
  ·rw[q];exact ZK.itr_rec g1
  ·rw[q];exact ZK.itr_rec g2
 keep:=fun i h h' st k=>by
  obtain⟨hz,hTI,⟨x,y,hTO⟩,g1,g2⟩:=st;exact⟨k z (by simp) _ hz,k TI (by simp) _ hTI,⟨x,y,k TO (by simp) _ hTO⟩,ZK.itr_at g1 fun o q=>k i1 (by simp) o q,ZK.itr_at g2 fun o q=>k i2 (by simp) o q⟩
 item:=by
  intro X hP hw hK hc i pins s σ H E I hf st hg;subst hP hw hK;obtain⟨hz,hTI,⟨x0,y0,hTO⟩,g1,g2⟩:=st;obtain⟨n1,n2,l1,l2,b1,b2⟩:=hg;obtain⟨fp1,P1,St1,D1,st1,m1,lt1,ot1,it1,pv1⟩:=ZK.draws (A:=X.A.in1) (I.ok.hd hc) I l1 D.off1 g1;obtain⟨fp2,P2,St2,D2,st2,m2,lt2,ot2,it2,pv2⟩:=ZK.draws (A:=X.A.in1) (I.ok.hd hc) I l2 D.off2 g2;have hzl:z<s.heap.objs.size:=Jp hz;refine wpAny_pyNext_zipD2_item (D.sep m1 m2 ot1 ot2) D1 D2 hz hTI hTO st1 st2 b1 b2 fun u1 u2 h' tk p1 p2 z' TO' st1' st2' hT hsz hk=>?_
  obtain⟨x,rx,sx⟩:=pv1 u1 b1 p1;obtain⟨y,ry,sy⟩:=pv2 u2 b2 p2;refine⟨_,rfl,wpAny_letOwnedTupleGo_zip (s := { s with heap:=h',toks:=tk }) z' fun h'' z'' sb=>?_⟩
  have hT2:h''.get? s.heap.objs.size=some { cls:=.type "tuple",data:=.seq #[u1,u2] }:=(sb.2 _ (Nat.ne_of_gt hzl)).trans hT
  have new:ObjOk X.prog X.w (upd H s.heap.objs.size (.tup [x,y])) h'' s.heap.objs.size (.tup [x,y]) :=
   ⟨by show 2≤sizeLine;decide,[u1,u2],.cons rx (.cons ry .nil),⟨_,hT2,rfl,_,rfl⟩⟩
  have I1:Inv X pins σ (upd H s.heap.objs.size (.tup [x,y])) { s with heap:=h'',toks:=tk } :=
   I.turnedNew (ch:=[z,TI,TO,i1,i2]) (fun c o hb q=>(sb.2 c (fun q'=>hb (by simp[q']))).trans (hk c o (fun q'=>hb (by simp[q'])) (fun q'=>hb (by simp[q'])) (fun q'=>hb (by simp[q'])) (fun q'=>hb (by simp[q'])) q)) hf (Ju _) new
  refine⟨.ref s.heap.objs.size,_,I1,rfl,⟨_,x,y,rfl,I.hok.fresh (Ju _),rfl,sx,sy⟩,⟨z'',?_,⟨u1,u2,?_⟩,?_,?_⟩,fun c hcm=>?_⟩
  ·exact(sb.2 _ D.TIz).trans (hk _ _ D.TIz D.TITO D.TIi1 D.TIi2 hTI)
  ·exact(sb.2 _ D.TOz).trans TO'
  ·exact ZK.itr_at (it1 _ _ st1') fun o q=>(sb.2 _ D.i1z).trans q
  ·exact ZK.itr_at (it2 _ _ st2') fun o q=>(sb.2 _ D.i2z).trans q
  ·have hlt:c<s.heap.objs.size:=by
    have e':c=z∨c=TI∨c=TO∨c=i1∨c=i2:=by simpa using hcm
    rcases e' with q|q|q|q|q
    ·rw[q];exact hzl
    ·rw[q];exact Jp hTI
    ·rw[q];exact Jp hTO
    ·rw[q];obtain⟨_,e1,_⟩:=ZK.itr_rec g1;exact Jp e1
    ·rw[q];obtain⟨_,e2,_⟩:=ZK.itr_rec g2;exact Jp e2
   rw[Jg (JV hlt)];exact(hf c hcm).1
 done:=by
  intro X hP hw hK hc i pins s σ H E I hf st hg;subst hP hw hK;obtain⟨hz,hTI,⟨x0,y0,hTO⟩,g1,g2⟩:=st;obtain⟨n1,n2,l1,l2,b1,b2,hend⟩:=hg;obtain⟨fp1,P1,St1,D1,st1,m1,lt1,ot1,it1,pv1⟩:=ZK.draws (A:=X.A.in1) (I.ok.hd hc) I l1 D.off1 g1;obtain⟨fp2,P2,St2,D2,st2,m2,lt2,ot2,it2,pv2⟩:=ZK.draws (A:=X.A.in1) (I.ok.hd hc) I l2 D.off2 g2
  exact wpAny_pyNext_zipD2_end (D.sep m1 m2 ot1 ot2) D1 D2 hz hTI hTO st1 st2 b1 b2 hend fun h' tk hk=>⟨rfl,I.turnedL (t':=tk) (ch:=[z,TI,TO,i1,i2]) (fun c o hb q =>
   hk c o (fun q'=>hb (by simp[q'])) (fun q'=>hb (by simp[q'])) (fun q'=>hb (by simp[q'])) (fun q'=>hb (by simp[q'])) q) hf⟩
 self:=fun A i s Q E st h=>wpAny_pyIter_zip st.1 h
theorem ZK.begins{kd:ZK}{n:Nat}{u:Value} (I:Inv X pins τ H s) (hl:kd.len X.K H n) (r:RelV kd.val u):∃(o:Obj) (t:Tok) (H1:Heap→Prop),Begins u o H1∧H1 s.heap∧(∀(h:Heap) (it:Addr),h.get? it=some o→kd.itr t h it 0)∧∀a,kd.val=.ref a→a<s.heap.objs.size:=by
 cases kd with
 |L a =>
  obtain⟨xs,hs,_⟩:=hl;obtain⟨its,rv,p,_⟩:=I.list hs;cases r;obtain⟨oa,hoa,_⟩:=id p.isList;exact⟨_,0,_,begins_list a its.toArray,p.isList,fun h it e=>⟨_,e,rfl,rfl⟩,fun b e=>by cases e;exact Jp hoa⟩
 |T a =>
  obtain⟨xs,hs,_⟩:=hl;obtain⟨its,rv,p,_⟩:=I.tuple hs;have p':s.heap.IsTuple a its.toArray:=p;cases r;obtain⟨oa,hoa,_⟩:=id p';exact⟨_,0,_,begins_tuple a its.toArray,p',fun h it e=>⟨_,e,rfl,rfl⟩,fun b e=>by cases e;exact Jp hoa⟩
 |S x =>
  obtain⟨t,rfl⟩:=r;exact⟨_,t,_,begins_text x t,trivial,fun h it e=>⟨_,e,rfl,rfl⟩,fun b e=>by cases e⟩
def iZz(K:PySem.W.Frag) (ta:TA):TI:=fun σ H R=>ta σ H fun vs H1=>∃k1 k2 n1 n2,vs=[ZK.val k1,ZK.val k2]∧k1.len K H1 n1∧k2.len K H1 n2∧R (ItzZ K k1 k2) H1
theorem zG0{a n:Nat} (h:a<n):a≠n+4∧a≠n+3∧a≠n∧a≠n+1:=by omega
theorem pi_zz{e e2:Expr}{ta:TA}{p pos tpos:Pos}{elts:List Expr}{kk:Nat} (hg:Gl X "zip") (hm:X.mg "zip" = none) (ha:PA X [e,e2] ta)
  (hs:starEach [e,e2] X.env=(false,eval e X.env)::starEach [e2] X.env:=by rfl) (hpl:(backTo pos (starEach [e2] X.env)).any (·.1)=false:=by rfl) :
  PI X (.Tuple elts kk tpos) (.Call (.Name "zip" p) [e,e2] [] pos) (iZz X.K ta):=by
 refine⟨fun pins s σ H R I h=>?_⟩
 refine Call_ (ld_blt I hg hm PyProof.Rows.boot_zip (PyProof.Rows.callWith_type1 (thn (ha.run pos pins s σ H _ I h) fun us s1 ⟨vs,H1,I1,r1,q1⟩=>?_) hs hpl))
 obtain⟨k1,k2,n1,n2,ex,l1,l2,q⟩:=q1;subst ex;cases r1 with
 |cons r rr =>
  cases rr with
  |cons r' rr =>
   cases rr;obtain⟨o1,t1,G1,B1,b1,f1,lt1⟩:=ZK.begins I1 l1 r;obtain⟨o2,t2,G2,B2,b2,f2,lt2⟩:=ZK.begins I1 l2 r';refine zip_begins2 B1 B2 b1 b2 fun h' hz hTI hTO h1 h2 hsz hk=>wpAny_pyIter_zip hz ?_
   have I2:Inv X pins σ H1 { s1 with heap:=h' }:=I1.kept (t':=s1.toks) hk
   have D:zCd (s1.heap.objs.size+4) (s1.heap.objs.size+2) (s1.heap.objs.size+3) s1.heap.objs.size (s1.heap.objs.size+1) k1 k2:=by
    refine⟨?_,?_,?_,?_,?_,?_,?_,?_,?_,?_,fun a e=>?_,fun a e=>?_⟩
    ·exact fun x=>by have:s1.heap.objs.size+2=s1.heap.objs.size+4:=x;omega
    ·exact fun x=>by have:s1.heap.objs.size+3=s1.heap.objs.size+4:=x;omega
    ·exact fun x=>by have:s1.heap.objs.size=s1.heap.objs.size+4:=x;omega
    ·exact fun x=>by have:s1.heap.objs.size+1=s1.heap.objs.size+4:=x;omega
    ·exact fun x=>by have:s1.heap.objs.size+2=s1.heap.objs.size+3:=x;omega
    ·exact fun x=>by have:s1.heap.objs.size+2=s1.heap.objs.size:=x;omega
    ·exact fun x=>by have:s1.heap.objs.size+2=s1.heap.objs.size+1:=x;omega
    ·exact fun x=>by have:s1.heap.objs.size+3=s1.heap.objs.size:=x;omega
    ·exact fun x=>by have:s1.heap.objs.size+3=s1.heap.objs.size+1:=x;omega
    ·exact fun x=>by have:s1.heap.objs.size=s1.heap.objs.size+1:=x;omega
    ·exact zG0 (lt1 a e)
    ·exact zG0 (lt2 a e)
   refine⟨s1.heap.objs.size+4,[s1.heap.objs.size+4,s1.heap.objs.size+2,s1.heap.objs.size+3,s1.heap.objs.size,s1.heap.objs.size+1],_,_,H1,rfl,I2,zHX (t1:=t1) (t2:=t2) D,⟨hz,hTI,⟨_,_,hTO⟩,f1 _ _ h1,f2 _ _ h2⟩,fun c hcm=>?_,q⟩
   have e':c=s1.heap.objs.size+4∨c=s1.heap.objs.size+2∨c=s1.heap.objs.size+3∨c=s1.heap.objs.size∨c=s1.heap.objs.size+1:=by simpa using hcm
   have hle:s1.heap.objs.size≤c:=by
    rcases e' with z|z|z|z|z
    ·rw[z];exact JP _ _
    ·rw[z];exact JP _ _
    ·rw[z];exact JP _ _
    ·rw[z];exact Ju _
    ·rw[z];exact JP _ _
   exact I1.fpOk hle (I1.hok.fresh hle)
end
section
variable {K:PySem.W.Frag}{cl:Cls}{X:Cx}{Wx:WX}{E0:En}{ρ ρ':List Addr}{G G':Hp}{σ:Sg}{τ:L2.St}{st:List Cell}{H:Hp}{D:Ends}
def srcZ(l:List W):Src:=⟨fun _ i=>if i≤l.length then some l[i]? else none,l.length⟩
def zB6:W→Option (List P)
 | .p (.lst l)=>some l
 | .p (.tup l)=>some l
 | .p (.str z)=>some (z.cps.toList.map fun c=>.str ⟨#[c]⟩)
 |_=>none
def zH1(a b:EM):IM:=fun σ st=>(a σ st).bind fun x st1=>(b σ st1).bind fun y st2=>match zB6 x,zB6 y with
 |some l,some m=>.ok (srcZ (zipL l m)) st2
 |_,_=>.no
structure ZRel (K:PySem.W.Frag) (cl:Cls) (G:Hp) (kd:ZK) (l:List P):Prop where
 len:∀G' H,Sub G G'→Sub G' H→kd.len K H l.length
 at_:∀G' H i x v,Sub G G'→Sub G' H→l[i]?=some x→kd.sure K H i v→RP K cl G' x v
theorem zrel{w:W}{v:V}{l:List P} (r:RW K cl ρ G w v) (e:zB6 w=some l):∃kd,v=ZK.val kd∧ZRel K cl G kd l:=by
 cases w with
 |r i=>cases e
 |p x =>
  cases x with
  |lst m =>
   cases e;cases r with
   |lst h q =>
    rename_i a vs
    refine⟨.L a,rfl,⟨fun G' H s1 s2=>⟨vs,.inl (.inl (s2 _ _ (s1 _ _ h))),q.length.symm⟩,fun G' H i x v s1 s2 ex su=>?_⟩⟩
    obtain⟨u,eu,ru⟩:=q.get ex
    have:=su vs (.inl (.inl (s2 _ _ (s1 _ _ h))))
    rw[eu]at this;cases this;exact ru.mono s1
  |tup m =>
   cases e;cases r with
   |tup h q =>
    rename_i a vs
    refine⟨.T a,rfl,⟨fun G' H s1 s2=>⟨vs,s2.sqT (s1.sqT h),q.length.symm⟩,fun G' H i x v s1 s2 ex su=>?_⟩⟩
    obtain⟨u,eu,ru⟩:=q.get ex
    have:=su vs (s2.sqT (s1.sqT h))
    rw[eu]at this;cases this;exact ru.mono s1
  |str z =>
   cases e;cases r;refine⟨.S z,rfl,⟨fun G' H s1 s2=>by simp[ZK.len],fun G' H i x v s1 s2 ex su=>?_⟩⟩
   obtain⟨c,hc,rfl⟩:=su;rw[Jn,Array.getElem?_toList,hc]at ex;cases ex;exact .str _
  |_=>cases e
theorem zC2:∀(l m:List P),(zipL l m).length=min l.length m.length
 |[],m=>by simp[zipL]
 |x::l,[]=>by simp[zipL]
 |x::l,y::m=>by
  show(zipL l m).length+1=_;rw[zC2 l m];simp
theorem wok_zz{k1 k2:ZK}{l m:List P} (r1:ZRel K cl G k1 l) (r2:ZRel K cl G k2 m):WOk K cl ρ G (ItzZ K k1 k2) (srcZ (zipL l m)):=by
 intro E0 ρ' G' st H i p s R;have L1:=r1.len G' H s R.sub;have L2:=r2.len G' H s R.sub;have ll:=zC2 l m;unfold srcZ;dsimp only
 by_cases hi:i≤(zipL l m).length
 ·rw[JN hi,zEF];cases e:l[i]? with
  |none =>
   have:=JG.mp e
   exact⟨_,_,L1,L2,∅,∅,∅⟩
  |some x =>
   have h1:i<l.length:=(Jd.mp e).1;cases e2:m[i]? with
   |none =>
    have:=JG.mp e2
    exact⟨_,_,L1,L2,∅,∅,∅⟩
   |some y =>
    have h2:i<m.length:=(Jd.mp e2).1;refine⟨⟨_,_,L1,L2,h1,h2⟩,fun w H' yl=>?_⟩
    obtain⟨T,v,u,rfl,hT,rfl,sv,su⟩:=yl;have sn:=Sub.new (o:=.tup [v,u]) (R.gnone hT);exact⟨_,sn,R.froze hT,RP.tup (.inl (.inl Jf)) (.cons ((r1.at_ G' H i x v s R.sub e sv).mono sn) (.cons ((r2.at_ G' H i y u s R.sub e2 su).mono sn) .nil))⟩
 ·rw[J9 hi]
  trivial
theorem zHx{a b:EM}{e e2:Expr}{p pos tpos:Pos}{elts:List Expr}{kk:Nat} (g:GX K X) (hg:Gl X "zip") (hm:X.mg "zip" = none) (ha:SE K cl X Wx a e) (hb:SE K cl X Wx b e2)
  (hs:starEach [e,e2] X.env=(false,eval e X.env)::starEach [e2] X.env:=by rfl) (hs2:starEach [e2] X.env=(false,eval e2 X.env)::starEach [] X.env:=by rfl) (hpl:(backTo pos (starEach [e2] X.env)).any (·.1)=false:=by rfl) :
  SI K cl X Wx (.Tuple elts kk tpos) (zH1 a b) (.Call (.Name "zip" p) [e,e2] [] pos):=by
 obtain⟨hK,_⟩:=g;subst hK;refine⟨fun E0 ρ G σ st τ H R Rl S q=>TIc.of (pi_zz hg hm (Vr T.pe (T.pa1 hs2) hs) hs hpl) ?_⟩
 refine ha.run E0 ρ G σ st τ H _ Rl S (Aft.seq q fun w st1 ρ1 G1 H1 v e1 p1 s1 R1 u1 h1=>?_)
 refine hb.run E0 ρ1 G1 σ st1 τ H1 _ R1 (S.mono p1 s1) (Aft.seq h1 fun u st2 ρ2 G2 H2 v2 e2 p2 s2 R2 u2 h2=>?_)
 replace u1:=RW.mono p2 s2 u1
 split at h2
 ·rename_i l m el em
  obtain⟨k1,rfl,z1⟩:=zrel u1 el;obtain⟨k2,rfl,z2⟩:=zrel u2 em;exact⟨k1,k2,_,_,rfl,z1.len G2 H2 (Sub.refl _) R2.sub,z2.len G2 H2 (Sub.refl _) R2.sub,h2 ρ2 G2 H2 _ (Je _) (Sub.refl _) R2 (wok_zz z1 z2)⟩
 ·exact h2.elim
end
section
variable {K:PySem.W.Frag}{cl:Cls}{X:Cx}{Wx:WX}{E0:En}{ρ ρ':List Addr}{G G':Hp}{σ:Sg}{τ:L2.St}{st:List Cell}{H:Hp}{D:Ends}
structure Fk (P:Program) (w:World) (K:PySem.W.Frag) (mg:Str→Option Value) (base:Heap) (cl:Cls) (k:Nat) (f:Addr) (ps:List Str) (F:FM):Prop where
 ex:∃fd,FnOk P w K mg base CX0 k f fd ps (spF K cl F)∧Binds K fd ps []
 kp:PySem.W.keepIn K (.ref f)=true
theorem Fk.of{P:Program}{w:World}{mg:Str→Option Value}{base:Heap}{N ps:List Str}{x qual:Str}{params:Arguments}{body:List Stmt}{scope:Scope}{f:Addr}{k:Nat}{m:SMm}
  (F:∃fd,FunD K x qual params body scope [] [] f fd) (S:FnScope N ps scope) (bd:∀(kV doc pm:Value) (an:Option Addr) (cdv ct:Value) (us:List Value),us.length=ps.length→bindArgs (PySem.W.fnOf x qual params body scope .none kV doc pm an cdv ct) ⟨us,[]⟩=pure (ps.zip us))
  (hb:∀(cd:Value) (A:Around) (outer:List Env) (s:Shared) (H:Hp) (E:XK),GX K (cxD P w K mg base N qual scope f cd A outer s H E)→Room k (A.deeper (envOfC qual scope s.heap.objs.size f cd))→SSs K cl (cxD P w K mg base N qual scope f cd A outer s H E) WF m body) :
  Fk P w K mg base cl (k+1) f ps (runF ps.length N.length m):=by
 obtain⟨fd,F⟩:=F;exact⟨⟨fd,fn_ok F S fun cd A outer s H E hr=>hb cd A outer s H E (gx_of S hr) hr,F.bindsN bd⟩,F.kp⟩
theorem Fk.zero{P:Program}{w:World}{mg:Str→Option Value}{base:Heap}{N ps:List Str}{x qual:Str}{params:Arguments}{body:List Stmt}{scope:Scope}{f:Addr}{F':FM} (h:∀ws st,F' ws st=.no)
  (F:∃fd,FunD K x qual params body scope [] [] f fd) (bd:∀(kV doc pm:Value) (an:Option Addr) (cdv ct:Value) (us:List Value),us.length=ps.length→bindArgs (PySem.W.fnOf x qual params body scope .none kV doc pm an cdv ct) ⟨us,[]⟩=pure (ps.zip us)):Fk P w K mg base cl 0 f ps F':=by
 obtain⟨fd,F⟩:=F;refine⟨⟨fd,⟨fun vs H Q E q=>?_,fun A outer s H args us vs Q E hr he hb hv q=>?_⟩,F.bindsN bd⟩,F.kp⟩
 ·obtain⟨ρ0,G0,st0,ws,R,r,a⟩:=q;rw[h]at a;exact a.elim
 ·obtain⟨ρ0,G0,st0,ws,R,r,a⟩:=q;rw[h]at a;exact a.elim
theorem Fk.mono{P:Program}{w:World}{mg:Str→Option Value}{base:Heap}{j k:Nat}{f:Addr}{ps:List Str}{F:FM} (h:Fk P w K mg base cl j f ps F) (q:j≤k):Fk P w K mg base cl k f ps F:=by
 obtain⟨⟨fd,h1,h2⟩,h3⟩:=h;exact⟨⟨fd,h1.mono q,h2⟩,h3⟩
def loc(sc:Scope) (x:Str):Bool:=match sc.names.lookup x with
 |some .local=>true
 |some .cell=>true
 |_=>false
theorem zAS{sc:Scope}{x:Str} (h:loc sc x=true):Loc sc x:=by
 unfold loc at h;split at h
 ·exact .inl (by assumption)
 ·exact .inr (by assumption)
 ·cases h
theorem zDI{f:Addr}{ps:List Str}{F:FM}{a:AM}{k:Nat}{x:Str}{p pos:Pos}{e:Expr}{es:List Expr} (h:Fk X.prog X.w X.K X.mg X.base cl k f ps F) (g:GX K X) (hr:Room k X.A) (hg:Gl X x) (hm:X.mg x=some (.ref f))
  (ha:SA K cl X Wx a (e::es)) (hdb:(x==("__debug__" : Str))=false) (he:starEach (e::es) X.env=(false,eval e X.env)::starEach es X.env:=by rfl) (hpl:(backTo pos (starEach es X.env)).any (·.1)=false:=by rfl) :
  SE K cl X Wx (zBV F a) (.Call (.Name x p) (e::es) [] pos):=by
 obtain⟨hK,_⟩:=g;subst hK;obtain⟨fd,h1,h2⟩:=h.ex;exact zHI h1 hr hg hm h.kp h2 ha hdb he hpl
section
variable {a b:EM}{pa pb:Expr}{pos:Pos}
theorem st_eq(g:GX K X) (ha:SE K cl X Wx a pa) (hb:SE K cl X Wx b pb) (hm:behindInMarks .Eq pb=false:=by rfl):ST K cl X Wx (mTst (mBin (vEqB false) a b)) (.Compare pa [.Eq] [pb] pos):=by
 obtain⟨hK,hc,hN,hu,hh⟩:=g;subst hK;exact zDO (zGy ∅) hm zG8 ha hb
theorem zDq(g:GX K X) (ha:SE K cl X Wx a pa) (hb:SE K cl X Wx b pb) (hm:behindInMarks .NotEq pb=false:=by rfl):ST K cl X Wx (mTst (mBin (vEqB true) a b)) (.Compare pa [.NotEq] [pb] pos):=by
 obtain⟨hK,hc,hN,hu,hh⟩:=g;subst hK;exact zDO (op_neA ∅) hm vNe_ok ha hb
theorem st_lt(ha:SE K cl X Wx a pa) (hb:SE K cl X Wx b pb) (hm:behindInMarks .Lt pb=false:=by rfl):ST K cl X Wx (mTst (mBin vLt a b)) (.Compare pa [.Lt] [pb] pos):=zDO op_lt hm vLt_ok ha hb
theorem st_gt(ha:SE K cl X Wx a pa) (hb:SE K cl X Wx b pb) (hm:behindInMarks .Gt pb=false:=by rfl):ST K cl X Wx (mTst (mBin vGt a b)) (.Compare pa [.Gt] [pb] pos):=zDO op_gt hm vGt_ok ha hb
theorem st_ge(ha:SE K cl X Wx a pa) (hb:SE K cl X Wx b pb) (hm:behindInMarks .GtE pb=false:=by rfl):ST K cl X Wx (mTst (mBin vGe a b)) (.Compare pa [.GtE] [pb] pos):=zDO op_ge hm vGe_ok ha hb
theorem st_is(ha:SE K cl X Wx a pa) (hb:SE K cl X Wx b pb) (hm:behindInMarks .Is pb=false:=by rfl):ST K cl X Wx (mTst (mBin (vIsN false) a b)) (.Compare pa [.Is] [pb] pos):=zDO op_isN hm zGv ha hb
end
theorem ixK{a b:EM}{pa pb:Expr}{pos:Pos} (g:GX K X) (hs:PlainIx pb) (ha:SE K cl X Wx a pa) (hb:SE K cl X Wx b pb):SE K cl X Wx (mBin vIx a b) (.Subscript pa pb pos):=by
 obtain⟨hK,_⟩:=g;subst hK;exact se_ix ixRA vIx_ok hs ha hb
where ixRA:IxR X (rIx X.K):=(IxR.or ix_list (IxR.or ix_tup ix_str))
end
section
variable {K:PySem.W.Frag}{cl:Cls}{X:Cx}{Wx:WX}{E0:En}{ρ ρ':List Addr}{G G':Hp}{σ:Sg}{τ:L2.St}{st:List Cell}{H:Hp}{D:Ends}
theorem AftS.never{R:SR} (h:AftS (bs K cl E0) ρ G R D WF):AftS (bs K cl E0) ρ G R D Wx:=by
 cases R with
 |ok f σ st=>exact h
 |exc x σ st=>exact fun ρ' G' H' τ' c d p s R S x=>(h ρ' G' H' τ' c d p s R S x).elim
 |no=>exact h
def SR.nox:SR→SR
 | .exc _ _ _=>.no
 |r=>r
theorem GX.nox(g:GX K X):GX K X.nox:=⟨g.hK,g.hc,g.hN,g.hu,g.hh⟩
end
theorem zEo{prog:Program}{w:World}{A:Around}{E:Value→Shared→Prop}{s:Shared}{l:Addr}{items:Array Value}{Q:Value→Shared→Prop} (hl:s.heap.IsTuple l items)
  (h:∀s₂:Shared,s₂={ s with heap:=s.heap.push { cls:=.type "tuple_iterator",data:=.fields #[.ref l,.int 0 0] } } →
   (s₂.heap.IsTupleIter s.heap.objs.size l 0∧s₂.heap.IsTuple l items)→(∀b∈[s.heap.objs.size,l],b<s₂.heap.objs.size)→l≠s.heap.objs.size→Q (.ref s.heap.objs.size) s₂):wpAny (model prog w) A (pyIter (.ref l)) Q E s:=by
 have hlt:l<s.heap.objs.size:=by obtain⟨_,e,_⟩:=hl;exact Jp e
 refine Vo hl (h _ rfl ⟨⟨_,JC _ rfl,rfl,rfl⟩,hl.push _⟩ (fun b hb=>?_) (JV hlt))
 have e:(s.heap.push { cls:=.type "tuple_iterator",data:=.fields #[.ref l,.int 0 0] }).objs.size=s.heap.objs.size+1:=by simp[Heap.push]
 show b<(s.heap.push _).objs.size;rw[e];simp only[Jl,Jq,J3]at hb;rcases hb with rfl|rfl
 ·exact VG _
 ·exact Nat.lt_succ_of_lt hlt
section
variable {K:PySem.W.Frag}{cl:Cls}{X:Cx}{Wx:WX}{E0:En}{ρ ρ':List Addr}{G G':Hp}{σ:Sg}{τ:L2.St}{st:List Cell}{H:Hp}{D:Ends}
theorem zHu{its:List Value}{ns:List Int} (r:Vals (ns.map V.int) its){i:Nat}{v:Value} (h:its.toArray[i]?=some v):∃t,v=.int (ns.getD i 0) t:=by
 have h':its[i]?=some v:=by simpa using h
 clear h
 induction ns generalizing its i with
 |nil=>cases r;simp at h'
 |cons n ns ih =>
  cases r with
  |cons r1 r2 =>
   cases i with
   |zero =>
    have e:_=v:=Jb h';subst e;obtain⟨t,rfl⟩:=r1;exact⟨t,rfl⟩
   |succ i=>exact ih r2 (by simpa using h')
def rSumT(K:PySem.W.Frag):List V→Hp→VK→Prop:=fun vs H Q=>∃(a:Addr) (ns:List Int),vs=[V.ref a]∧SqT K H a (ns.map V.int)∧Q (.int ns.sum) H
theorem zFA(hc:X.calm=true):CallR X (.builtin "sum") (rSumT X.K):=by
 intro pins s σ H xs us Q I r h;obtain⟨a,ns,rfl,hs,q⟩:=h;rw[Vals.ref1 r];obtain⟨its,rv,hl,_⟩:=I.tuple hs;have hlen:its.toArray.size=ns.length:=by rw[J0,←rv.length,Jr]
 refine call_sum_walkG (zEo (show s.heap.IsTuple a its.toArray from hl) fun s₂ e2 st hfp hne=>?_)
 subst e2;refine⟨_,_,_,_,_,_,fun i=>ns.getD i 0,rfl,Walks.tuple (A:=X.A.in1) (I.ok.hd hc) _ a hne its.toArray,st,hfp,fun i v hv=>zHu rv hv,fun h' tk t' hk=>?_⟩
 refine⟨.int _,H,I.kept fun b o eo=>hk b o (fun hmem=>?_) (Jc _ eo),⟨t',rfl⟩,?_⟩
 ·rcases Jl.mp hmem with e1|hmem
  ·exact absurd (e1▸Jp eo) (VP _)
  ·cases hmem
 ·rw[hlen,preSum_getD,JQ (Ju _)];exact q
def zE2(ws:List W) (st:List Cell):Res W:=match ws with
 |[w]=>match(seqP st w).bind intsOf with
  |some l=>.ok (.p (.int l.sum)) st
  |none=>.no
 |_=>.no
theorem zEd(R:(bs K cl E0).Rel ρ G st H){w:W}{v:V}{l:List Int} (r:RW K cl ρ G w v) (e:(seqP st w).bind intsOf=some l):∃a,v=.ref a∧(SqL K H a (l.map V.int)∨SqT K H a (l.map V.int)):=by
 cases e1:seqP st w with
 |none=>rw[e1]at e;cases e
 |some m =>
  rw[e1]at e;obtain⟨a,vs,rfl,h1,q⟩:=zDU R r e1
  have:=zDe (show intsOf m=some l from e)
  subst this;rw[q.of_ints]at h1;exact⟨a,rfl,h1⟩
def rSumA(K:PySem.W.Frag):List V→Hp→VK→Prop:=fun xs H Q=>rSum K xs H Q∨rSumT K xs H Q
theorem zEn(hc:X.calm=true):CallR X (.builtin "sum") (rSumA X.K):=(cr_sum hc).or (zFA hc)
theorem zGB:zD3 K cl zE2 (rSumA K):=by
 intro E0 ρ G st H ws vs Q Z R rw' h;unfold zE2 at h;split at h
 ·obtain⟨v,rfl,r⟩:=rw'.one;split at h
  ·rename_i l el
   obtain⟨a,rfl,hs|hs⟩:=zEd R r el
   ·exact .inl ⟨a,l,rfl,hs,h.here R (RP.int _)⟩
   ·exact .inr ⟨a,l,rfl,hs,h.here R (RP.int _)⟩
  ·exact h.elim
 ·exact h.elim
end
section
open PySem.W (ksEnv ksFn kxs_mw)
structure zCf (ps:List Str) (sc:Scope):Prop where
 kind:sc.kind=.function
 co:sc.isCoroutine=false
 gen:sc.isGenerator=false
 nd:ps.Nodup
 par:∀x∈ps,sc.names.lookup x=some .local
 own:∀y∈sc.names,y.2=.free→y.1=("__class__" : Str)
 nocell:∀y∈sc.names,y.2≠.cell
 cls:sc.names.lookup ("__class__" : Str)=some .free
 sup:sc.names.lookup ("super" : Str)=some .globalImplicit
abbrev ccx(P:Program) (w:World) (K:PySem.W.Frag) (mg:Str→Option Value) (base:Heap) (ps:List Str) (qual:Str) (scope:Scope) (f cc:Addr) (cd:Value) (A:Around) (outer:List Env) (s:Shared) (H:Hp):Cx where
 prog:=P
 w:=w
 K:=K
 mg:=mg
 base:=base
 A:=A.deeper (ksEnv qual scope s.heap.objs.size f cd cc)
 N:=ps
 s_0:=s
 H_0:=H
 env:=ksEnv qual scope s.heap.objs.size f cd cc
 outer:=outer
 stack:=ksEnv qual scope s.heap.objs.size f cd cc::outer
 ex:=[]
 calm:=true
 fn:=fun _=>false
 pn:=[]
 xe:=fun _ _=>False
theorem zDk{y:Str}{u:Value}:∀ {l:List (Str×Value)},(l.map (·.1)).Nodup→(y,u)∈l→l.lookup y=some u
 |(z,v)::l,nd,h=>by
  rw[JZ,J7]at nd;rw[J4];rcases Jl.mp h with e|h
  ·cases e;simp
  ·have:(y==z)=false:=J5.mpr fun e=>nd.1 (by rw[←e];exact List.mem_map.mpr ⟨_,h,rfl⟩)
   rw[this];exact zDk nd.2 h
theorem zCU{ps:List Str}{us:List Value} (nd:ps.Nodup) (hl:us.length=ps.length){i:Nat}{y:Str}{u:Value} (h1:ps[i]?=some y) (h2:us[i]?=some u):(ps.zip us).reverse.lookup y=some u:=by
 refine zDk ?_ (List.mem_reverse.mpr (List.mem_iff_getElem?.mpr ⟨i,by rw[List.getElem?_zip_eq_some];exact⟨h1,h2⟩⟩))
 rw[List.map_reverse,List.map_fst_zip ∅];exact(List.reverse_perm ps).nodup_iff.mpr nd
section
variable {P:Program}{w:World}{K:PySem.W.Frag}{mg:Str→Option Value}{base:Heap}{ps:List Str}{name qual:Str}{scope:Scope}{f cc C cda:Addr}{cd:Value}{A:Around}{outer:List Env}{s:Shared}{H:Hp}
theorem zDK{us:List Value}{vs:List V} (S:zCf ps scope) (hd:A.handled=none) (e0:Env0 P w K mg base A outer s H) (hl:vs.length=ps.length) (r:Vals vs us){ob:Obj}{v0:Option Value} (hcc:K.lookup cc=some ob) (hob:ob.data=.cell v0)
  {h₁:Heap}{tk:Nat} (hns:h₁.Ns s.heap.objs.size fun x=>(ps.zip us).reverse.lookup x) (kp:∀b o,s.heap.get? b=some o→h₁.get? b=some o) :
  Inv (ccx P w K mg base ps qual scope f cc cd A outer s H) [] (L2.start ps vs) H { s with heap:=h₁,toks:=tk }:=by
 have noA:∀b:Addr,b∉(ccx P w K mg base ps qual scope f cc cd A outer s H).ex:=fun b z=>absurd (show b∈([]:List Addr)from z) (by simp)
 have hbc:base.get? cc=some ob:=e0.mod.kin _ _ hcc
 have lku:∀ {y c},([("__class__",cc)]:List (Str×Addr)).lookup y=some c→y=("__class__" : Str)∧c=cc:=fun{y c} h=>by
  rw[J4]at h;split at h
  ·rename_i e
   exact⟨eq_of_beq e,(Jb h).symm⟩
  ·cases h
 have lul:us.length=ps.length:=by rw[←r.length];exact hl
 refine⟨⟨e0.mod,S.kind,rfl,rfl,Ju _,fun y z c h1 h2=>(lku h1).1.trans (lku h2).1.symm,fun y hy=>?_,fun y c z _=>?_,fun _=>hd,Around.frames_deeper e0.frames,.inr ⟨rfl,rfl⟩,fun b z=>absurd z (noA b),e0.bs,e0.bsz,fun b _ _=>noA b,fun b z=>absurd z (noA b),e0.funs,e0.frf⟩,
  rfl,e0.bare,Un.kept kp,⟨_,hns,fun i y v h1 h2 h3=>?_⟩,fun y c h=>?_,e0.hok.fresh (Ju _),fun y c h=>?_,fun p hp=>absurd (show p∈([]:List (Addr×Obj))from hp) (by simp),e0.hok.kept kp,?_⟩
 ·have hy:scope.names.lookup y=some .cell∨scope.names.lookup y=some .free:=hy;rcases hy with hy|hy
  ·exact absurd rfl (S.nocell _ (PySem.mem_of_lookup hy))
  ·have:=S.own _ (PySem.mem_of_lookup hy) rfl
   have this:y=("__class__" : Str):=this;subst this;exact⟨cc,rfl⟩
 ·exact absurd (show false=true from z) (by simp)
 ·have hi:i<vs.length:=by
   unfold L2.start at h2
   by_cases hi:i<vs.length
   ·exact hi
   ·rw[Jo (by simpa using hi)]at h2
    rw[J8]at h2;split at h2<;>cases h2
  have ha:vs[i]?=some v:=by
   unfold L2.start at h2;rw[Ja (by simpa using hi),Jn]at h2
   cases e:vs[i]? with
   |none=>rw[e]at h2;cases h2
   |some a=>rw[e]at h2;cases h2;rfl
  obtain⟨u,hu,rv⟩:=r.get ha;have hp:ps[i]?=some y:=h1;exact⟨u,rv,.inl ⟨S.par y (Jj hp),zCU S.nd lul hp hu⟩⟩
 ·obtain⟨_,rfl⟩:=lku h;exact⟨v0,ob,kp _ _ (e0.bs _ _ hbc).1,hob⟩
 ·obtain⟨_,rfl⟩:=lku h;exact(e0.bs _ _ hbc).2
 ·unfold L2.start;simp[hl]
end
section
open PySem.W PySem.Calls
variable {prog:Program}{w:World}{A:Around}{E:Value→Shared→Prop}{h:Heap}{g:Array GenState}{d:Drawn}{t:Nat}{os:OsState}
variable {nm q:Str}{C N:Addr}{bs bm:List Value}{hdct:Bool}{sn:List Str}{sub:List Value}{ab:Bool}{col:Option Bool}{dd:Option Addr}{k0 k1 k2 k3 k5:Option Value}
theorem zGV{u e t0:Addr}{rest:List Value}{Q:Value→Shared→Prop}
  (hC:h.get? C=some (excClassObj nm q C N bs bm hdct sn sub ab col dd k0 k1 k2 k3 k5 "ValueError.__new__")) (he:h.get? e=some (HandSPX.excO C t0)) (hu:h.get? u=some (kxs_mw "ValueError.__init__" e)) (hrest:rest.length≤sizeLine)
  (hq:∀h' t1,(∀b o,b≠e→h.get? b=some o→h'.get? b=some o)→h'.get? e=some (HandSPX.excO C t1)→Q .none ⟨h',g,d,t,os⟩) :
  wpAny (model prog w) A (call (.ref u) rest) Q E ⟨h,g,d,t,os⟩:=by
 refine Vx (VJ ?_);show wpAny _ A.in1 (callAny (.ref u) ⟨rest,[]⟩) _ _ _;simp only[callAny];refine JE (wpAny_load hu ?_);simp only[kxs_mw,show(Value.type "method-wrapper" == Value.type "method" || Value.type "method-wrapper" == Value.type "builtin_function_or_method" || Value.type "method-wrapper" == Value.type "method-wrapper")=true by decide,if_true]
 refine W.KFB.if_so (!0) ?_
 refine JE (check_bound_init JL.toExcCallFacts hC he rfl ?_);refine JE (J6 (J6 ?_));refine⟨Vp _ ⋯,codeAny_builtin JL.initEntry ?_⟩;rw[Around.under_plainId JL.init.plain _]
 wp_walk
 refine hq _ h.objs.size (fun b o hb ho=>?_) ?_
 ·rw[Heap.get?_update_other _ _ (VQ hb)];exact Jc _ ho
 ·rw[Ve _ (Jc _ he) rfl];rfl
end
structure SayF (P:Program) (K:PySem.W.Frag) (mg:Str→Option Value) (C f cc cda:Addr) (name qual:Str) (params:Arguments) (body:List Stmt) (scope:Scope) (fd:FuncData):Prop where
 T:OexC K C
 lk:∃oc od dV kV doc pm an ct osl,fd=ksFn name qual params body scope dV kV doc pm an (.ref cda) ct cc∧K.lookup f=some ⟨oc,od,.func fd,osl⟩
 hcd:PySem.W.codeIn K (.ref cda) qual=true
 cell:∃cl0 cd0 csl,K.lookup cc=some ⟨cl0,cd0,.cell (some (.ref C)),csl⟩
 par:∃ar,(params.posonlyargs++params.args).head?=some ar∧ar.arg=("self" : Str)
 code:∃ccl cdd vs ccs file tf,K.lookup cda=some ⟨ccl,cdd,.fields vs,ccs⟩∧vs[2]?=some (.str file tf)∧((P.main.file:Str)==file)=true
 top:(P.main.scope.names.lookup ("super" : Str)).isSome=false
 sup:mg "super" = none
 along:PySem.W.ks_superIn K C C "__init__" = some (some (.builtin "ValueError.__init__"))
 self:PySem.W.mroIn K C (.ref C)=some true
 isVE:PySem.W.subIn K (.ref C) (.type "ValueError")=some true
 opq:PySem.W.nsIn K PySem.cStatics "thirdparty.any" = some none
section
open PySem.W PySem.Calls
variable {P:Program}{w:World}{K:PySem.W.Frag}{mg:Str→Option Value}{base:Heap}{C f cc cda:Addr}{name qual:Str}{params:Arguments}{scope:Scope}{fd:FuncData}
def zCs(ps:List Str) (C:Addr) (t:TS):Sp:=fun vs H Q _=>vs.length=ps.length∧∃a ws,vs=.ref a::ws∧H a=some (exo a C none)∧t { nx:=fun _ H'=>Q .non H',rt:=Q } (L2.start ps vs) H
theorem zG2{ps ps':List Str}{k j:Nat}{p0 p1 p2 p3 p4 p5:Pos}{m:Str}{rest:List Stmt}{t:TS} (hps:ps=("self" : Str)::ps')
  (D:SayF P K mg C f cc cda name qual params (.Expr (.Call (.Attribute (.Call (.Name "super" p0) [] [] p1) "__init__" p2) [.Constant (.str m) j p3] [] p4) p5::rest) scope fd) (S:zCf ps scope)
  {pl:Sem Bool} (he:∀L,eval (.Call (.Attribute (.Call (.Name "super" p0) [] [] p1) "__init__" p2) [.Constant (.str m) j p3] [] p4) (ksEnv qual scope L f (.ref cda) cc)=(do
   let ov ←attributeBase (.Call (.Name "super" p0) [] [] p1) "__init__" (ksEnv qual scope L f (.ref cda) cc) (eval (.Call (.Name "super" p0) [] [] p1) (ksEnv qual scope L f (.ref cda) cc))
   standAt p2.atName
   let (f',first) ←holding [ov] (getMethod ov "__init__" pl)
   callWith p4 f' first (backTo p4 (starEach [.Constant (.str m) j p3] (ksEnv qual scope L f (.ref cda) cc))) []))
  (hi:∀L,interactive (ksEnv qual scope L f (.ref cda) cc)=false) (hsw:∀L,swapsWith (.Call (.Attribute (.Call (.Name "super" p0) [] [] p1) "__init__" p2) [.Constant (.str m) j p3] [] p4) none p5.line (ksEnv qual scope L f (.ref cda) cc)=pure false)
  (hrest:∀(A:Around) (outer:List Env) (s:Shared) (H:Hp),PSs (ccx P w K mg base ps qual scope f cc (.ref cda) A outer s H) rest t):FnOk P w K mg base CX0 (k+1) f fd ps (zCs ps C t):=by
 refine⟨fun vs H Q E h=>h.1,fun A outer s H args us vs Q E hr e0 hb' r hsp=>?_⟩
 obtain⟨hl,a,ws,rfl,ea,ht⟩:=hsp;obtain⟨oc,od,dV,kV,doc,pm,an,ct,osl,rfl,lk⟩:=D.lk;obtain⟨cl0,cd0,csl,hcc⟩:=D.cell;obtain⟨ar,hpar,har⟩:=D.par;obtain⟨ccl,cdd,cvs,ccs,file,tf,hcode,hvs,hfile⟩:=D.code;have KX:K.In s.heap:=e0.mod.kin.keeps fun b o e=>(e0.bs b o e).1
 have lim:s.heap.NoLimit:=e0.mod.nolimit.keeps fun b o e=>(e0.bs b o e).1
 refine Vi (binds:=ps.zip us) hr.depth (KX _ _ lk) rfl lim (Vn KX D.hcd) rfl hb' S.nocell (fun y hy=>S.par _ (Vg hy).1) (fun h₁ hns kp=>?_) S.co S.gen S.kind
 have I:=zDK (w:=w) (mg:=mg) (qual:=qual) (f:=f) (cd:=.ref cda) (tk:=s.toks+(ps.zip us).length) S hr.hd e0 hl r hcc rfl hns kp
 have fin:∀ {σ':L2.St}{H':Hp}{v:V}{u:Value}{s':Shared},Inv (ccx P w K mg base ps qual scope f cc (.ref cda) A outer s H) [] σ' H' s'→L2.RelV v u→Q v H'→CE outer P w H s Q u s' :=
  fun{σ' H' v u s'} J rv q=>⟨v,H',J.os,J.bare,J.base,J.hok,rv,q⟩
 have fin2:∀(fl:Flow) (s':Shared),SP (ccx P w K mg base ps qual scope f cc (.ref cda) A outer s H) [] { nx:=fun _ H'=>Q .non H',rt:=Q } fl s'→CE outer P w H s Q (match fl with | .ret v=>v|_=>.none) s':=fun fl s' hs=>by
  cases fl with
  |ret u =>
   obtain⟨v,σ',H',J,rv,q⟩:=hs;exact fin J rv q
  |next =>
   obtain⟨σ',H',J,q⟩:=hs;exact fin (v:=V.non) (u:=Value.none) J rfl q
  |brk =>
   obtain⟨_,_,_,q⟩:=hs;exact False.elim q
  |cont =>
   obtain⟨_,_,_,q⟩:=hs;exact False.elim q
 refine Vy (PySem.ks_wpAt_Expr_any (Vz (VA (env:=ksEnv qual scope s.heap.objs.size f (.ref cda) cc) S.sup S.cls rfl rfl (I.kIn _ _ lk) rfl hpar rfl (I.kIn _ _ hcode) rfl hvs hfile D.top ?_) (he _)) (hi _) (hsw _));obtain⟨mb,b1,b2⟩:=I.mod.blt
 obtain⟨u0,ur,rfl,ru⟩:∃u0 ur,us=u0::ur∧L2.RelV (.ref a) u0:=by
  cases r with
  |cons r1 r2=>exact⟨_,_,rfl,r1⟩
 obtain rfl:u0=.ref a:=ru;obtain⟨nm,qn,N,bs,bm,sn,sub,ab,col,dd,k0,k1,k2,k3,k5,hCK,hbm⟩:=D.T.cls;have hC:=I.kIn _ _ hCK;obtain⟨t1,hea⟩:=exo_at I.hok ea;have hcl:PySem.W.clsIn K C=some { name:=nm,bases:=bs,mro:=.ref C::bm,ns:=N,qualname:=qn,hasDict:=true,slotNames:=sn,subclasses:=sub,abstract:=ab,collection:=col,hasDel:=false }:=by unfold PySem.W.clsIn;rw[hCK]<;>rfl
 have lul:(Value.ref a::ur).length=ps.length:=by rw[←r.length];exact hl
 have hself:(ps.zip (Value.ref a::ur)).reverse.lookup ar.arg=some (.ref a):=by
  rw[har];exact zCU (i:=0) S.nd lul (by rw[hps];rfl) rfl
 refine Vl S.kind S.sup (Vf (env:=ksEnv qual scope s.heap.objs.size f (.ref cda) cc) (I.mod.glob.keeps I.bk) D.sup (b1.keeps I.bk) ((b2 "super" (!0)).trans PyProof.Rows.Boot.«super») ⟨rfl,?_⟩);refine wpAny_loadName_free S.kind S.cls rfl ⟨_,I.kIn _ _ hcc,rfl⟩ ?_
 refine wpAny_loadName_local S.kind (by rw[har];exact S.par _ (by rw[hps];exact Ji)) hns hself ?_
 refine Vs hC rfl ⟨rfl,?_⟩;refine Vt hC rfl hea rfl (fun c e=>by cases e) (Vj I.kIn D.self) (fun h' e k=>?_)
 have I2:Inv (ccx P w K mg base ps qual scope f cc (.ref cda) A outer s H) [] (L2.start ps (.ref a::ws)) H { s with heap:=h',toks:=s.toks+(ps.zip (Value.ref a::ur)).length }:=I.kept k
 have ia:PySem.W.InstAt h' a (PySem.HandSPX.excO C t1) C none:=⟨k _ _ hea,rfl,rfl,trivial⟩;have al:=D.along;unfold PySem.W.ks_superIn at al;rw[hcl]at al;refine PySem.W.kxs_getMethod PySem.W.kxs_ValueError e (PySem.W.looks_opaque I2.kIn D.opq) (l₀:=.ref C::bm) (fun A Q E s k q=>JE ((JO I2.kIn hcl) A _ E s k (J6 q))) rfl I2.kIn al (ia.type.andThen (PySem.W.looks_subIn I2.kIn D.isVE)) (PySem.W.ks_ne I2.kIn ia hcl) (!0) ?_
 have hu:(h'.push (kxs_mw "ValueError.__init__" a)).get? h'.objs.size=some (kxs_mw "ValueError.__init__" a):=VB rfl rfl;have kk:∀b o,h'.get? b=some o→(h'.push (kxs_mw "ValueError.__init__" a)).get? b=some o:=fun b o e=>Jc _ e
 refine PySem.W.kxs_callWith (i := "ValueError.__init__") (x:=a) rfl ?_
 refine Vm (VC (VD (pos:=p3) (k:=j) (VE ⟨hu,?_⟩)));refine zGV (kk _ _ (k _ _ hC)) (kk _ _ (k _ _ hea)) hu (by rw[Vh];show 1≤16777216;decide) fun h3 t3 k3 hx=>?_
 have J:=(I2.kept (t':=0) kk).write (t':=s.toks+(ps.zip (Value.ref a::ur)).length+1+1) (x:=a) (e:=a) (o:=exo a C none) (h':=h3) (by rw[ea];exact True.intro) (.inl rfl) k3 ⟨_,hx⟩ (exo_ok hx)
 have eu:upd H a (exo a C none)=H:=by
  funext b
  by_cases hb:b=a
  ·rw[hb,Jf,ea]
  ·rw[Jg hb]
 rw[eu]at J;refine wpAt_of_wpAny ?_
 refine Vv ((hrest A outer s H).run [] _ _ H _ J ht) (fun fl s' hs=>fin2 fl s' hs) fun e' s' hs=>hs.elim
end
end
section
open PySem.W (ksEnv ksFn kxs_mw)
section
variable {X:Cx}{p pos:Pos}{e:Expr}{es:List Expr}{ta:TA}
theorem zGN{CX:CXT}{x:Str}{C fI:Addr}{k:Nat}{fd:FuncData}{ps:List Str}{sp:Sp} (T:OexC X.K C) (iC:PySem.W.findIn X.K (.ref C) "__init__" = some (some (.ref fI))) (tI:PySem.W.typeIn X.K (.ref fI)=some (.type "function"))
  (F1:FnOk X.prog X.w X.K X.mg X.base CX k fI fd ps sp) (hr:Room (k+1) X.A) (hb:Binds X.K fd ps []) (hx:Passes CX X (fun _ _ _=>False)) (hg:Gl X x) (hm:X.mg x=some (.ref C))
  (hdb:(x==("__debug__" : Str))=false:=by decide):PMk X (.Call (.Name x p) [] [] pos) (tMkO C sp [] tNil):=by
 intro pins s σ H Q I h;obtain⟨nm,q,N,bs,bm,sn,sub,ab,col,dd,k0,k1,k2,k3,k5,hC,hbm⟩:=T.cls;refine Va (ld_glob I hg hm ?_ hdb);refine PySem.W.callWith_K0 I.kIn T.kC ?_
 obtain⟨hz,q1⟩:=h;obtain⟨hp,g,dr,tk,os⟩:=s;have hsz:hp.objs.size≤hp.objs.size+1:=Nat.le_succ _;have hn:H (hp.objs.size+1)=none:=I.hok.fresh hsz;have hq:=q1 (hp.objs.size+1) hn;have kk:∀b o,hp.get? b=some o→((hp.push (PySem.W.kdv_tup [])).push (PySem.HandSPX.excO C hp.objs.size)).get? b=some o:=fun b o e=>Jc _ (Jc _ e)
 have hget:((hp.push (PySem.W.kdv_tup [])).push (PySem.HandSPX.excO C hp.objs.size)).get? (hp.objs.size+1)=some (PySem.HandSPX.excO C hp.objs.size):=by heap_get
 have I2:Inv X pins σ (upd H (hp.objs.size+1) (exo (hp.objs.size+1) C none)) ⟨(hp.push (PySem.W.kdv_tup [])).push (PySem.HandSPX.excO C hp.objs.size),g,dr,tk,os⟩ :=
  I.laid (t':=tk) (a:=hp.objs.size+1) (o:=exo (hp.objs.size+1) C none) (h':=(hp.push (PySem.W.kdv_tup [])).push (PySem.HandSPX.excO C hp.objs.size)) kk hsz (exo_ok hget)
 have r2:Vals [V.ref (hp.objs.size+1)] [Value.ref (hp.objs.size+1)]:=.cons rfl .nil
 have hl:([Value.ref (hp.objs.size+1)]++[]).length=ps.length:=by
  have e:=F1.len _ _ _ _ hq;exact e
 refine Vx (PySem.HandSPX.call_own JL (fun Y=>PySem.HandSPX.refsVE_contains Y bm hbm) (I.kIn _ _ hC) (J1 I.kIn iC) (fun self=>VL I.kIn self tI) (JY _)
  (Vq (F1.run _ X.stack _ _ ⟨[Value.ref (hp.objs.size+1)],[]⟩ [Value.ref (hp.objs.size+1)] _ _ (fun _ _ _=>False) (hr.make C [] []) (I2.env0.make C [] []) (hb _ [Value.ref (hp.objs.size+1)] I2.kIn hl) r2 hq) fun r s' hq'=>?_))
 cases r with
 |error er=>exact hx pins σ _ _ er s' I2 hq'
 |ok fl =>
  cases fl with
  |ret u =>
   obtain⟨v,H2,os2,bare2,un2,hok2,rv,ev,d,fs,ea,ed,hd1,q2⟩:=hq';subst ev;obtain⟨h2,g2,d2,t2,os'⟩:=s';exact⟨rv,mk_end (raises_own T.exC T.tyC) I hsz kk un2 hok2 os2 bare2 ea ed hd1 q2⟩
  |next=>exact False.elim hq'
  |brk=>exact False.elim hq'
  |cont=>exact False.elim hq'
end
def tSay0(K:PySem.W.Frag) (T:Str):TS:=tOst K "tag" (tVar 0) (tC (.str T))
def tSay1(K:PySem.W.Frag) (T g:Str):TS:=tSeq (tOst K "tag" (tVar 0) (tC (.str T))) (tOst K g (tVar 0) (tVar 1))
theorem zEO{H:Hp}{a d:Addr}{o0 o1 o2 o3:HO} (hda:d≠a) (ha:H a=none):upd (L2.del (upd (upd (upd H a o0) d o1) a o2) a) d o3=upd H d o3:=by
 funext b
 by_cases h:b=d
 ·subst h;rw[Jf,Jf]
 ·rw[Jg h,Jg h]
  by_cases h2:b=a
  ·subst h2;rw[del_same,ha]
  ·rw[del_ne h2,Jg h2,Jg h,Jg h2]
def tExc(C:Addr) (fs:List (Str×V)) (H:Hp) (Q:XK):Prop:=∀d,H d=none→Q (.ref C) (some d) (upd H d (.xd fs))
theorem zGF{K:PySem.W.Frag}{C:Addr}{T:Str}{H:Hp}{Q:XK} (O:OexC K C) (ht:PySem.W.findIn K (.ref C) "tag" = some none) (h:tExc C [("tag",.str T)] H Q){a:Addr} (ha:H a=none) :
  zCs ["self"] C (tSay0 K T) [.ref a] (upd H a (exo a C none)) (fun v H2=>v=.non∧∃(d:Addr) (fs:List (Str×V)),H2 a=some (exo a C (some d))∧H2 d=some (exd d fs)∧H d=none∧Q (.ref C) (some d) (upd (L2.del H2 a) d (.xd fs))) (fun _ _ _=>False):=by
 refine⟨rfl,a,[],rfl,Jf,⟨.ref a,rfl,a,C,rfl,O,ht,.inl ⟨Jf,fun d hd hne=>⟨rfl,d,[("tag",.str T)],Jf,?_,?_,?_⟩⟩⟩⟩
 ·rw[Jg hne,Jf]
 ·rwa [Jg hne]at hd
 ·rw[Jg hne]at hd;rw[zEO hne ha];exact h d hd
theorem zGD{K:PySem.W.Frag}{C:Addr}{T g:Str}{v:V}{H:Hp}{Q:XK}{pn:Str} (O:OexC K C) (ht:PySem.W.findIn K (.ref C) "tag" = some none) (hg:PySem.W.findIn K (.ref C) g=some none) (h:tExc C [(g,v),("tag",.str T)] H Q){a:Addr} (ha:H a=none) :
  zCs ["self",pn] C (tSay1 K T g) [.ref a,v] (upd H a (exo a C none)) (fun v H2=>v=.non∧∃(d:Addr) (fs:List (Str×V)),H2 a=some (exo a C (some d))∧H2 d=some (exd d fs)∧H d=none∧Q (.ref C) (some d) (upd (L2.del H2 a) d (.xd fs))) (fun _ _ _=>False):=by
 refine⟨rfl,a,[v],rfl,Jf,⟨.ref a,rfl,a,C,rfl,O,ht,.inl ⟨Jf,fun d hd hne=>⟨v,rfl,.ref a,rfl,a,C,rfl,O,hg,.inr ⟨d,[("tag",.str T)],Jf,?_,by simp,rfl,d,[(g,v),("tag",.str T)],?_,Jf,?_,?_⟩⟩⟩⟩⟩
 ·rw[Jg hne,Jf]
 ·rw[Jg (VQ hne),Jf]
 ·rwa [Jg hne]at hd
 ·rw[Jg hne]at hd
  have e:upd (L2.del (upd (upd (upd (upd H a (exo a C none)) d (exd d [("tag",V.str T)])) a (exo a C (some d))) d (exd d [(g,v),("tag",.str T)])) a) d (.xd [(g,v),("tag",.str T)])=upd H d (.xd [(g,v),("tag",.str T)]):=by
   funext b
   by_cases h:b=d
   ·subst h;rw[Jf,Jf]
   ·rw[Jg h,Jg h]
    by_cases h2:b=a
    ·subst h2;rw[del_same,ha]
    ·rw[del_ne h2,Jg h,Jg h2,Jg h,Jg h2]
  rw[e];exact h d hd
structure Exc0 (P:Program) (w:World) (K:PySem.W.Frag) (mg:Str→Option Value) (base:Heap) (cl:Cls) (k c:Nat) (C:Addr) (T:Str):Prop where
 at_:cl[c]?=some (C,[("tag" : Str)])
 O:OexC K C
 tag:PySem.W.findIn K (.ref C) "tag" = some none
 ex:∃fI fd,PySem.W.findIn K (.ref C) "__init__" = some (some (.ref fI))∧PySem.W.typeIn K (.ref fI)=some (.type "function")∧FnOk P w K mg base CX0 k fI fd ["self"] (zCs ["self"] C (tSay0 K T))∧Binds K fd ["self"] []
structure Exc1 (P:Program) (w:World) (K:PySem.W.Frag) (mg:Str→Option Value) (base:Heap) (cl:Cls) (k c:Nat) (C:Addr) (T f pn:Str):Prop where
 at_:cl[c]?=some (C,[f,("tag" : Str)])
 O:OexC K C
 tag:PySem.W.findIn K (.ref C) "tag" = some none
 fld:PySem.W.findIn K (.ref C) f=some none
 ex:∃fI fd,PySem.W.findIn K (.ref C) "__init__" = some (some (.ref fI))∧PySem.W.typeIn K (.ref fI)=some (.type "function")∧FnOk P w K mg base CX0 k fI fd ["self",pn] (zCs ["self",pn] C (tSay1 K T f))∧Binds K fd ["self",pn] []
end
section
open LamX
theorem zF8{H:Hp}{a:Addr}{u:HO} (h:Rd H a u) (nt:NT u):Rd (strip H) a u:=by
 rcases h with h|⟨o,h⟩
 ·exact .inl (strip_of h nt)
 ·exact .inr ⟨o,strip_of h fun _ z=>by cases z⟩
theorem zGh{K:PySem.W.Frag}{H:Hp}{a:Addr}{xs:List V} (h:SqL K H a xs):SqL K (strip H) a xs:=by
 rcases h with h|h
 ·exact .inl (zF8 h fun _ z=>by cases z)
 ·exact .inr h
end
def tXq(K:PySem.W.Frag) (n:Str) (te:TE):TE:=fun σ H Q=>te σ H fun x H1=>∃(a C dd:Addr) (oe:Obj) (fs:List (Str×V)) (v:V),x=.ref a∧XfC K C∧PySem.W.findIn K (.ref C) n=some none ∧
 oe.cls=.ref C∧oe.dict=some dd∧(∃vs,oe.data=.fields vs)∧H1 a=some (exq a oe)∧H1 dd=some (.xd fs)∧fs.lookup n=some v∧Q v H1
theorem zGz{P:Program}{w:World}{H:Hp}{h:Heap}{a:Addr}{oe:Obj} (hok:HOk P w H h) (e:H a=some (exq a oe)):h.get? a=some oe:=by
 have x:ObjOk P w H h a (.ext fun h=>h.get? a=some oe):=hok a _ e
 exact x.1
section
variable {X:Cx}{e:Expr}{te:TE}{pos:Pos}{n:Str}
theorem pe_xq(he:PE X e te) (hb:attributeBase e n X.env (eval e X.env)=eval e X.env):PE X (.Attribute e n pos) (tXq X.K n te):=by
 refine⟨fun pins s σ H Q I h=>attr_of hb (thn (he.run pins s σ H _ I h) fun u s1 hh=>?_)⟩
 obtain⟨x,H1,I1,rx,a,C,dd,oe,fs,v,ex,T,hno,hc,hd,⟨vs,hv⟩,ea,ed,l,q⟩:=hh;subst ex;obtain rfl:u=Value.ref a:=rx;have ha:=zGz I1.hok ea;have hx:ObjOk X.prog X.w H1 s1.heap dd (.xd fs):=I1.hok dd _ ed;obtain⟨mA,hns,hr⟩:=hx;obtain⟨od,ho,hl⟩:=lookIn_ns hns;obtain⟨u,hu,ru⟩:=RelO.some_of (v:=v) (o:=mA n) (by rw[←l];exact hr n)
 have J:PySem.W.InstAt s1.heap a oe C (some od):=⟨ha,hc,by unfold PySem.W.notCls;rw[hv]<;>rfl,by rw[hd];exact ho⟩
 exact HandSPX.exc_get I1.kIn J T.ga T.gg T.exC (PySem.W.findObj_own T.hdC hno rfl (by rw[hl,hu])) (handed_of ru) ⟨v,H1,I1.tok _,ru,q⟩
end
def mXf(cs:List (Nat×Nat)) (o:EM):EM:=fun σ st=>(o σ st).bind fun w st1=>match w with
 | .p (.exn c l)=>match cs.lookup c with
  |some i=>match l[i]? with
   |some x=>.ok (.p x) st1
   |none=>.no
  |none=>.no
 |_=>.no
structure XfAt (K:PySem.W.Frag) (cl:Cls) (fn:Str) (c i:Nat):Prop where
 ex:∃C ns,cl[c]?=some (C,ns)∧ns.Nodup∧ns[i]?=some fn∧XfC K C∧PySem.W.findIn K (.ref C) fn=some none
section
variable {K:PySem.W.Frag}{cl:Cls}{X:Cx}{Wx:WX}
theorem zDE{cs:List (Nat×Nat)}{o:EM}{eo:Expr}{fn:Str}{pos:Pos} (g:GX K X) (hcs:∀q∈cs,XfAt K cl fn q.1 q.2) (ho:SE K cl X Wx o eo) (hb:attributeBase eo fn X.env (eval eo X.env)=eval eo X.env):SE K cl X Wx (mXf cs o) (.Attribute eo fn pos):=by
 obtain⟨hK,_⟩:=g;subst hK;refine⟨fun E0 ρ G σ st τ H Q R S h=>T.of (pe_xq T.pe hb) ?_⟩
 refine ho.run E0 ρ G σ st τ H _ R S (Aft.seq h fun w st1 ρ1 G1 H1 v e1 p1 s1 R1 u1 h1=>?_)
 split at h1
 case h_2=>exact h1.elim
 rename_i c l
 split at h1
 case h_2=>exact h1.elim
 rename_i i ei
 split at h1
 case h_2=>exact h1.elim
 rename_i x ex
 obtain⟨C,ns,k1,nd,k2,T,k3⟩:=(hcs _ (lookup_mem ei)).ex;cases u1 with
 |@exn a C' dd oe _ ns' vs _ k4 k5 k6 k7 k8 k9 =>
  rw[k1]at k4;cases k4;obtain⟨v,ev,rv⟩:=k9.get ex;exact⟨a,C,dd,oe,_,v,rfl,T,k3,k5.1,k5.2.1,k5.2.2,R1.sub _ _ k6,R1.sub _ _ k7,zCK nd k2 ev,h1.here R1 rv⟩
end
section
variable {X:Cx}{a:Addr}{oe:Obj}{cls:Value}{d:Option Addr}
theorem dec_str(T z:Str):decide (V.str T=V.str z)=(z==T):=by
 by_cases h:z=T
 ·subst h;simp
 ·rw[J5.mpr h];exact VI fun e=>h (V.str.inj e).symm
end
section
open LamX (GivesTo CodeO LamS lamCx lamEnv TabB Tabs ExtN tLam)
def nsOf:Option Str→List Str
 |none=>["tag"]
 |some f=>[f, "tag"]
section
variable {K:PySem.W.Frag}{cl:Cls}{X:Cx}{Wx:WX}
theorem zCG{α β:Type} [BEq α] [LawfulBEq α] {a:α}{b:β}:∀ {l:List (α×β)},l.lookup a=some b→(a,b)∈l
 |[],h=>by cases h
 |(k,v)::l,h=>by
  rw[J4]at h;split at h
  ·rename_i e
   cases h;rw[eq_of_beq e];exact Ji
  ·exact Jy _ (zCG h)
open LamX (CodeO ExtN TabB)
end
end
section
open LamX (CodeO ExtN TabB)
section
variable {K:PySem.W.Frag}{cl:Cls}{X:Cx}{Wx:WX}{E0:En}{ρ:List Addr}{G:Hp}{σ:Sg}{τ:L2.St}{st:List Cell}{H:Hp}
theorem exq_nt{a:Addr}{oe:Obj}:NT (exq a oe):=fun _ z=>by unfold exq at z;cases z
theorem exq_ok{P:Program}{w:World}{H:Hp}{h:Heap}{a:Addr}{oe:Obj} (e:h.get? a=some oe):ObjOk P w H h a (exq a oe):=⟨e,⟨oe,e⟩,fun _ _ p st=>st _ p⟩
end
end
section
open PySem.W (ksFn ksEnv)
theorem SaysE.def_{fa:List He.Fa}{fn:List He.DefD}{ts:List He.Tab}{tf:List He.Defn}{ex:PySem.W.Frag→Bool}{es:List DefE}{w:World}{h:Heap}{K:PySem.W.Frag} (c:SaysE fa fn ts tf ex es w h K) (i:Nat){d:DefE} (hd:es[i]?=some d):fnE K (d.at_ K)=d.val∧d.okB K=true:=by
 have z:=congrArg (fun l=>l[i]?) c.e
 simp only[Jn,hd]at z;exact⟨Jb z,Js.mp c.ok d (Jj hd)⟩
theorem zFc{K:PySem.W.Frag}{C:Addr} (h:oexB K C=true):OexC K C:=by
 unfold oexB at h;simp only[Jh,Jx]at h;obtain⟨⟨⟨⟨h1,h2⟩,h3⟩,h4⟩,h5⟩:=h;refine⟨?_,JJ h2,h3,h4,h5⟩;cases q:K.lookup C with
 |none=>rw[q]at h1;cases h1
 |some o =>
  rw[q]at h1;obtain⟨oc,od,dt,osl⟩:=o
  replace h1:oexD C oc dt osl.toList=true:=h1
  unfold oexD at h1;split at h1
  case h_2=>cases h1
  rename_i cd
  split at h1
  case h_2=>cases h1
  rename_i c bm k0 k1 k2 k3 n k5 hm hs
  simp only[Jh,Jx,Vc]at h1;obtain⟨⟨⟨⟨rfl,rfl⟩,g3⟩,g4⟩,g5⟩:=h1;obtain⟨c1,c2,c3,c4,c5,c6,c7,c8,c9,c10,c11⟩:=cd;dsimp only at hm g3 g4;subst hm g3 g4
  obtain rfl:osl = #[k0,k1,k2,k3,some (.builtin "ValueError.__new__"),k5]:=by
   obtain⟨l⟩:=osl;simp only at hs;rw[hs]
  exact⟨_,_,_,_,_,_,_,_,_,_,_,_,_,_,_,rfl,g5⟩
theorem zEK{K:PySem.W.Frag}{cc C:Addr} (h:zEe K cc C=true):∃cl0 cd0 csl,K.lookup cc=some ⟨cl0,cd0,.cell (some (.ref C)),csl⟩:=by
 unfold zEe at h;cases q:K.lookup cc with
 |none=>rw[q]at h;cases h
 |some o =>
  obtain⟨o1,o2,dt,o3⟩:=o;rw[q]at h
  replace h:zHm C dt=true:=h
  unfold zHm at h;split at h
  ·rw[JD h];exact⟨_,_,_,rfl⟩
  ·cases h
theorem zEM{K:PySem.W.Frag}{a:Addr}{z:Str} (h:zEc K a z=true):∃o1 o2 vs o3 tf,K.lookup a=some ⟨o1,o2,.fields vs,o3⟩∧vs[2]?=some (.str z tf):=by
 unfold zEc at h;cases q:K.lookup a with
 |none=>rw[q]at h;cases h
 |some o =>
  obtain⟨o1,o2,dt,o3⟩:=o;rw[q]at h
  replace h:fileD z dt=true:=h
  cases dt with
  |fields vs =>
   replace h:strIs z vs[2]?=true:=h
   cases e:vs[2]? with
   |none=>rw[e]at h;cases h
   |some v =>
    rw[e]at h;cases v with
    |str y t =>
     have e2:z=y:=eq_of_beq h;subst e2;exact⟨_,_,vs,_,t,rfl,e⟩
    |_=>cases h
  |_=>cases h
section
variable {P:Program}{w:World}{K:PySem.W.Frag}{mg:Str→Option Value}{base:Heap}{cl:Cls}{x z:Str}{g:Option Str}
theorem zEH(pf:FileOf P z) (h:excB K x z g=true){d:DefE} (hat:d.at_=fun K=>He.ma K (He.ga K x) "__init__") (hn:d.name = "__init__") (hclo:d.clo=[("__class__" : Str)]) (e:fnE K (d.at_ K)=d.val) (c:d.okB K=true) (hsup:mg "super" = none)
  (hpar:∃ar,(d.params.posonlyargs++d.params.args).head?=some ar∧ar.arg=("self" : Str)) :
  ∃(cc cda:Addr) (fd:FuncData),SayF P K mg (He.ga K x) (He.ma K (He.ga K x) "__init__") cc cda "__init__" d.qual d.params d.body d.scope fd∧∃kV doc pm an cdv ct,fd=ksFn "__init__" d.qual d.params d.body d.scope .none kV doc pm an cdv ct cc:=by
 unfold excB at h;simp only[Jh,Jx]at h;obtain⟨⟨⟨⟨⟨⟨⟨⟨⟨⟨h1,h2⟩,h3⟩,h4⟩,h5⟩,h6⟩,h7⟩,h8⟩,h9⟩,h10⟩,h11⟩:=h;obtain⟨oc,od,osl,clo,dV,kV,doc,pm,cdv,ct,an,k1,k2,k3,k4,k5,k6⟩:=DefE.ex e c;rw[hclo]at k2;rw[hat]at k1 k3
 obtain⟨q,rfl,eq⟩:∃q:Str×Addr,clo=[q]∧q.1=("__class__" : Str):=by
  cases clo with
  |nil=>cases k2
  |cons q l =>
   cases l with
   |nil=>exact⟨q,rfl,by simpa using k2⟩
   |cons _ _=>simp at k2
 obtain⟨cn,cc⟩:=q;dsimp only at eq;subst eq;have k1:K.lookup (He.ma K (He.ga K x) "__init__")=_:=k1;unfold zGH at h7;rw[k1]at h7;obtain⟨cda,rfl⟩:=He.codeIn_ref k4;have h7:(zEe K cc (He.ga K x)&&zEc K cda z)=true:=h7;rw[Jh]at h7;obtain⟨h13,h12⟩:=h7
 obtain rfl:dV=.none:=by
  rcases k5 with⟨_,q⟩|⟨q,_⟩
  ·exact q
  ·exact absurd rfl q
 refine⟨cc,cda,_,⟨zFc h1,⟨oc,od,.none,kV,doc,pm,an,ct,osl,rfl,?_⟩,k4,?_,hpar,?_,pf.top,hsup,JJ h8,h9,h10,JJ h11⟩,kV,doc,pm,an,.ref cda,ct,rfl⟩
 ·rw[k1,hn]
 ·exact zEK h13
 ·obtain⟨o1,o2,vs,o3,tf,e1,e2⟩:=zEM h12;exact⟨o1,o2,vs,o3,z,tf,e1,e2,pf.file⟩
end
end
section
open PySem.W (ksFn ksEnv)
section
variable {P:Program}{w:World}{K:PySem.W.Frag}{mg:Str→Option Value}{base:Heap}{cl:Cls}{x z:Str}{g:Option Str}
theorem zCV(h:excB K x z g=true):OexC K (He.ga K x)∧XfC K (He.ga K x)∧PySem.W.findIn K (.ref (He.ga K x)) "tag" = some none∧(∀f,g=some f→(f==("tag" : Str))=false∧PySem.W.findIn K (.ref (He.ga K x)) f=some none) ∧
  PySem.W.findIn K (.ref (He.ga K x)) "__init__" = some (some (.ref (He.ma K (He.ga K x) "__init__")))∧PySem.W.typeIn K (.ref (He.ma K (He.ga K x) "__init__"))=some (.type "function"):=by
 unfold excB at h;simp only[Jh,Jx]at h;obtain⟨⟨⟨⟨⟨⟨⟨⟨⟨⟨h1,h2⟩,h3⟩,h4⟩,h5⟩,h6⟩,h7⟩,h8⟩,h9⟩,h10⟩,h11⟩:=h;refine⟨zFc h1,xfB_ok h2,JJ h3,fun f hf=>?_,JJ h5,h6⟩
 subst hf;have h4:(He.eqO (PySem.W.findIn K (.ref (He.ga K x)) f) (some none) && !(f==("tag" : Str)))=true:=h4;rw[Jh,Vc]at h4;exact⟨h4.2,JJ h4.1⟩
abbrev zAN(m:Str) (j:Nat) (p0 p1 p2 p3 p4:Pos):Expr:=.Call (.Attribute (.Call (.Name "super" p0) [] [] p1) "__init__" p2) [.Constant (.str m) j p3] [] p4
def zDt(qual:Str) (scope:Scope) (m:Str) (j:Nat) (p0 p1 p2 p3 p4 p5:Pos):Prop:=∀(f cda cc:Addr),∃pl:Sem Bool,∀L,eval (zAN m j p0 p1 p2 p3 p4) (ksEnv qual scope L f (.ref cda) cc)=(do
   let ov ←attributeBase (.Call (.Name "super" p0) [] [] p1) "__init__" (ksEnv qual scope L f (.ref cda) cc) (eval (.Call (.Name "super" p0) [] [] p1) (ksEnv qual scope L f (.ref cda) cc))
   standAt p2.atName
   let (f',first) ←holding [ov] (getMethod ov "__init__" pl)
   callWith p4 f' first (backTo p4 (starEach [.Constant (.str m) j p3] (ksEnv qual scope L f (.ref cda) cc))) []) ∧
  interactive (ksEnv qual scope L f (.ref cda) cc)=false∧swapsWith (zAN m j p0 p1 p2 p3 p4) none p5.line (ksEnv qual scope L f (.ref cda) cc)=pure false
theorem zBz{c j j2:Nat}{T m:Str}{p0 p1 p2 p3 p4 p5 q1 q2 q3 q4:Pos}{qual:Str}{params:Arguments}{scope:Scope} (pf:FileOf P z) (h:excB K x z none=true) (hsup:mg "super" = none) (hC:cl[c]?=some (He.ga K x,[("tag" : Str)]))
  (dd:(⟨fun K=>He.ma K (He.ga K x) "__init__", "__init__",qual,params,[.Expr (zAN m j p0 p1 p2 p3 p4) p5,.Assign [.Attribute (.Name "self" q1) "tag" q2] (.Constant (.str T) j2 q3) q4],scope,[("__class__" : Str)]⟩:DefE).okB K=true)
  (de:fnE K (He.ma K (He.ga K x) "__init__")=(⟨fun K=>He.ma K (He.ga K x) "__init__", "__init__",qual,params,[.Expr (zAN m j p0 p1 p2 p3 p4) p5,.Assign [.Attribute (.Name "self" q1) "tag" q2] (.Constant (.str T) j2 q3) q4],scope,[("__class__" : Str)]⟩:DefE).val)
  (hpar:∃ar,(params.posonlyargs++params.args).head?=some ar∧ar.arg=("self" : Str)) (S:zCf ["self"] scope) (up:zDt qual scope m j p0 p1 p2 p3 p4 p5)
  (bd:∀(kV doc pm:Value) (an:Option Addr) (cdv ct:Value) (cc:Addr) (us:List Value),us.length=1→bindArgs (ksFn "__init__" qual params [.Expr (zAN m j p0 p1 p2 p3 p4) p5,.Assign [.Attribute (.Name "self" q1) "tag" q2] (.Constant (.str T) j2 q3) q4] scope .none kV doc pm an cdv ct cc) ⟨us,[]⟩=pure ([("self" : Str)].zip us))
  (hs:∀X:Cx,swapsWith (.Constant (.str T) j2 q3) (some (.Attribute (.Name "self" q1) "tag" q2)) q4.line X.env=pure false) :
  Exc0 P w K mg base cl 1 c (He.ga K x) T:=by
 obtain⟨cc,cda,fd,D,kV,doc,pm,an,cdv,ct,rfl⟩:=zEH (mg:=mg) pf h rfl rfl rfl de dd hsup hpar;obtain⟨e1,e2,e3,e4,e5,e6⟩:=zCV h;obtain⟨pl,hup⟩:=up (He.ma K (He.ga K x) "__init__") cda cc;refine⟨hC,e1,e3,_,_,e5,e6,zG2 (k:=0) (pl:=pl) rfl D S (fun L=>(hup L).1) (fun L=>(hup L).2.1) (fun L=>(hup L).2.2) (fun A outer s H=>?_),.all fun us hl=>bd kV doc pm an cdv ct cc us hl⟩
 exact VS (ps_ost (VR (i:=0) rfl (.inl (S.par _ Ji)) ⋯ ⋯) pe_str (hs _))
theorem zBP{c j j2:Nat}{T m f pn:Str}{p0 p1 p2 p3 p4 p5 q1 q2 q3 q4 q5 q6 q7 q8:Pos}{qual:Str}{params:Arguments}{scope:Scope} (pf:FileOf P z) (h:excB K x z (some f)=true) (hsup:mg "super" = none) (hC:cl[c]?=some (He.ga K x,[f,("tag" : Str)]))
  (dd:(⟨fun K=>He.ma K (He.ga K x) "__init__", "__init__",qual,params,[.Expr (zAN m j p0 p1 p2 p3 p4) p5,.Assign [.Attribute (.Name "self" q1) "tag" q2] (.Constant (.str T) j2 q3) q4,.Assign [.Attribute (.Name "self" q5) f q6] (.Name pn q7) q8],scope,[("__class__" : Str)]⟩:DefE).okB K=true)
  (de:fnE K (He.ma K (He.ga K x) "__init__")=(⟨fun K=>He.ma K (He.ga K x) "__init__", "__init__",qual,params,[.Expr (zAN m j p0 p1 p2 p3 p4) p5,.Assign [.Attribute (.Name "self" q1) "tag" q2] (.Constant (.str T) j2 q3) q4,.Assign [.Attribute (.Name "self" q5) f q6] (.Name pn q7) q8],scope,[("__class__" : Str)]⟩:DefE).val)
  (hpar:∃ar,(params.posonlyargs++params.args).head?=some ar∧ar.arg=("self" : Str)) (S:zCf ["self",pn] scope) (up:zDt qual scope m j p0 p1 p2 p3 p4 p5) (d1:(pn==("__debug__" : Str))=false) (d2:(pn==("__classdict__" : Str))=false)
  (bd:∀(kV doc pm:Value) (an:Option Addr) (cdv ct:Value) (cc:Addr) (us:List Value),us.length=2→bindArgs (ksFn "__init__" qual params [.Expr (zAN m j p0 p1 p2 p3 p4) p5,.Assign [.Attribute (.Name "self" q1) "tag" q2] (.Constant (.str T) j2 q3) q4,.Assign [.Attribute (.Name "self" q5) f q6] (.Name pn q7) q8] scope .none kV doc pm an cdv ct cc) ⟨us,[]⟩=pure ([("self" : Str),pn].zip us))
  (hs:∀X:Cx,swapsWith (.Constant (.str T) j2 q3) (some (.Attribute (.Name "self" q1) "tag" q2)) q4.line X.env=pure false) (hs2:∀X:Cx,swapsWith (.Name pn q7) (some (.Attribute (.Name "self" q5) f q6)) q8.line X.env=pure false) :
  Exc1 P w K mg base cl 1 c (He.ga K x) T f pn:=by
 obtain⟨cc,cda,fd,D,kV,doc,pm,an,cdv,ct,rfl⟩:=zEH (mg:=mg) pf h rfl rfl rfl de dd hsup hpar;obtain⟨e1,e2,e3,e4,e5,e6⟩:=zCV h;obtain⟨pl,hup⟩:=up (He.ma K (He.ga K x) "__init__") cda cc;refine⟨hC,e1,e3,(e4 f rfl).2,_,_,e5,e6,zG2 (k:=0) (pl:=pl) rfl D S (fun L=>(hup L).1) (fun L=>(hup L).2.1) (fun L=>(hup L).2.2) (fun A outer s H=>?_),.all fun us hl=>bd kV doc pm an cdv ct cc us hl⟩
 have v0:∀p,PE (ccx P w K mg base ["self",pn] qual scope (He.ma K (He.ga K x) "__init__") cc (.ref cda) A outer s H) (.Name "self" p) (tVar 0):=fun p=>VR (i:=0) rfl (.inl (S.par _ Ji)) ⋯ ⋯
 have v1:∀p,PE (ccx P w K mg base ["self",pn] qual scope (He.ma K (He.ga K x) "__init__") cc (.ref cda) A outer s H) (.Name pn p) (tVar 1):=fun p=>VR (i:=1) rfl (.inl (S.par _ (Jy _ Ji))) d1 d2
 exact pss_cons (ps_ost (v0 _) pe_str (hs _)) (VS (ps_ost (v0 _) (v1 _) (hs2 _)))
end
end
def sortI(l:List Int):List Int:=l.mergeSort fun a b=>decide (a≤b)
section
open LamX (CodeO ExtN TabB lamCx lamEnv GivesTo)
section
variable {K:PySem.W.Frag}{cl:Cls}{X:Cx}{Wx:WX}{E0:En}{ρ:List Addr}{G:Hp}{σ:Sg}{st:List Cell}{τ:L2.St}{H:Hp}
theorem RPs.rep{l:List P}{vs:List V} (q:RPs K cl G l vs):∀n:Nat,RPs K cl G (List.replicate n l).flatten (List.replicate n vs).flatten
 |0=>.nil
 |n+1=>by
  rw[List.replicate_succ,List.replicate_succ,List.flatten_cons,List.flatten_cons];exact q.append (RPs.rep q n)
def zDm(x y:W) (st:List Cell):Res W:=match x,y with
 | .p (.lst l),.p (.int n)=>if 0≤n∧n≤1000∧l.length≤1000 then .ok (.p (.lst (List.replicate n.toNat l).flatten)) st else .no
 |_,_=>.no
theorem zFs:VOp K cl zDm rRep:=by
 intro E0 ρ G st H x y v u Q Z R rx ry h;unfold zDm at h;split at h
 ·cases rx with
  |lst h1 q1 =>
   cases ry;split at h
   ·rename_i l n _ _ hn
    have hl:=q1.length;have hm:l.length*n.toNat≤1000*1000:=Nat.mul_le_mul hn.2.2 ∅;exact⟨_,n,_,rfl,rfl,R.sub _ _ h1,∅,∅,by rw[←hl,Vh];omega,fun p hp=>h.newP R hp (.lst Jf ((RPs.rep q1 _).mono (Sub.new (R.gnone hp))))⟩
   ·exact h.elim
 ·exact h.elim
theorem zEu{a b:EM}{pa pb:Expr}{pos:Pos} (ha:SE K cl X Wx a pa) (hb:SE K cl X Wx b pb):SE K cl X Wx (mBin zDm a b) (.BinOp pa .Mult pb pos):=zDR op_rep zFs ha hb
end
end
section
open GenW
inductive GR where
 |ok (f:Fl) (σ:Sg) (st:List Cell) (ys:List P)|exc (x:Exn) (σ:Sg) (st:List Cell)|no
def GR.then(r:GR) (k:Sg→List Cell→List P→GR):GR:=match r with
 | .ok .nx σ st ys=>k σ st ys
 |r=>r
def SR.gr(r:SR) (ys:List P):GR:=match r with
 | .ok f σ st=>.ok f σ st ys
 | .exc x σ st=>.exc x σ st
 | .no=>.no
def Res.gto{α:Type} (r:Res α) (σ:Sg) (k:α→List Cell→GR):GR:=match r with
 | .ok a st=>k a st
 | .exc x st=>.exc x σ st
 | .no=>.no
def Pjk.pj:Pjk→P→Option P
 | .id,x=>some x
 | .fst,.tup [a,_]=>some a
 | .fst,_=>none
end
section
open PySem.W
def encD(x:P):PyData:=(toD x).getD .none
def srtD(l:List P):List P:=l.mergeSort (dataLe false encD)
end
end Y
namespace NS
open PySem.W Y
def nkOf(x:P):NestedKey:=(nkT x).getD .none
def ddK:List P→List P
 |[]=>[]
 |x::l=>if(ddK l).any (fun y=>decide (nkOf y=nkOf x))=true then ddK l else x::ddK l
end NS
namespace Y
def zFF(ts:List Tg) (σ:Sg) (w:W) (st:List Cell):SR:=match w with
 | .p (.lst l)=>match Tg.puts ts l σ with
  |some σ'=>.ok .nx σ' st
  |none=>.no
 |_=>.no
def zGK(ts:List Tg) (m:EM):SMm:=fun σ st=>(m σ st).to σ (zFF ts σ)
section
variable {K:PySem.W.Frag}{cl:Cls}{X:Cx}{Wx:WX}
theorem zHd{ts:List Tg}{m:EM}{es:List Expr}{e:Expr}{k:Nat}{tp pos:Pos} (g:GX K X) (ht:SGs K cl X ts es) (hl:es.length=ts.length) (hn:(assignEach es X.env).length=es.length) (hst:(assignEach es X.env).findIdx? (·.1)=none) (h:SE K cl X Wx m e)
  (hs:swapsWithSole [.Tuple es k tp] e pos.line X.env=pure false) (hw:swappedStores [.Tuple es k tp] e X.env=pure none)
  (h1:(assignEach [.Tuple es k tp] X.env).map (·.2)=[PySem.assign (.Tuple es k tp) X.env]):SS K cl X Wx (zGK ts m) (.Assign [.Tuple es k tp] e pos):=by
 refine⟨fun E0 ρ G σ st τ H D R S q=>TS'.of (ps_asg T.pe (pg_lst (n:=es.length) g.hc TGsc.pgs hn hst) hs hw h1) ?_⟩
 refine h.run E0 ρ G σ st τ H _ R S (AftS.seq S q fun w st1 ρ1 G1 H1 v e1 p1 s1 R1 u1 h1=>?_)
 unfold zFF at h1;split at h1
 ·rename_i l
  split at h1
  ·rename_i σ' e
   cases u1 with
   |lst hh qq =>
    refine⟨_,_,rfl,?_,?_,ht.run ρ1 G1 H1 _ _ σ σ' τ _ R1.sub (S.mono p1 s1) qq e fun τ' S' _=>AftS.nx h1 R1 S'⟩
    ·exact .inl (.inl (R1.sub _ _ hh))
    ·rw[←qq.length,hl];exact zDc e
  ·exact h1.elim
 ·exact h1.elim
end
section
variable {X:Cx}{e:Expr}{t:L2.St→Hp→XK→Prop}
theorem pe_mk(he:PMk X e t):PE X e (fun σ H Q=>t σ H fun cls d H'=>∀(a:Addr) (oe:Obj),H' a=none→Zc cls d oe→(∃vs,oe.data=.fields vs)→Q (.ref a) (upd H' a (exq a oe))):=by
 refine⟨fun pins s σ H Q I h=>Vv (he pins s σ H _ I h) (fun u s1 hu=>?_) fun _ _ x=>x⟩
 obtain⟨a,oe,vs,sI,H',cls,d,rfl,J,k,hne,ha,hz,hd,h1,na,os,ag,r,q⟩:=hu
 have J2:Inv X pins σ (upd H' a (exq a oe)) { sI with heap:=s1.heap,gens:=s1.gens,drawn:=s1.drawn,toks:=s1.toks } :=
  Inv.call (s:=sI) J (ch:=[]) (Un.laidN k hne na) (J.hok.laidN k na (exq_ok ha)) ag (fun _ z=>nomatch z)
 have e1:s1={ sI with heap:=s1.heap,gens:=s1.gens,drawn:=s1.drawn,toks:=s1.toks }:=by
  cases s1;cases sI;cases os;rfl
 rw[e1];exact⟨.ref a,_,J2,rfl,q a oe na hz ⟨vs,hd⟩⟩
end
def zCk(c:Nat) (T:Str):EM:=fun _ st=>.ok (.p (.exn c [.str T])) st
def zBR(c:Nat) (m:EM) (T:Str):EM:=fun σ st=>(m σ st).bind fun w st1=>match w with
 | .p x=>.ok (.p (.exn c [x,.str T])) st1
 |_=>.no
section
variable {K:PySem.W.Frag}{cl:Cls}{X:Cx}{Wx:WX}{E0:En}{ρ ρ':List Addr}{G G':Hp}{σ:Sg}{τ:L2.St}{st:List Cell}{H:Hp}{Q:VK}{E:XK}
theorem zCr{C:Addr}{c:Nat}{ns:List Str}{vs:List V}{l:List P} (hC:cl[c]?=some (C,ns)) (hl:ns.length=vs.length) (R:(bs K cl E0).Rel ρ G st H) (r:RPs K cl G l vs) (h:Aft (bs K cl E0) (bs K cl E0).RW ρ G (.ok (.p (.exn c l)) st) Q E) :
  tExc C (ns.zip vs) H fun cls d H'=>∀(a:Addr) (oe:Obj),H' a=none→Zc cls d oe→(∃vs,oe.data=.fields vs)→Q (.ref a) (upd H' a (exq a oe)):=by
 intro d hd a oe na hz hv;have ne:d≠a:=fun z=>by subst z;rw[Jf]at na;cases na
 have R2:Rel K cl E0 ρ (upd G d (.xd (ns.zip vs))) st (upd H d (.xd (ns.zip vs))):=Rel.froze R hd;have R3:Rel K cl E0 ρ (upd (upd G d (.xd (ns.zip vs))) a (exq a oe)) st (upd (upd H d (.xd (ns.zip vs))) a (exq a oe)):=R2.froze na exq_nt;have s1:Sub G (upd G d (.xd (ns.zip vs))):=Sub.new (R.gnone hd);have s2:Sub (upd G d (.xd (ns.zip vs))) (upd (upd G d (.xd (ns.zip vs))) a (exq a oe)):=Sub.new (R2.gnone na);refine h ρ (upd (upd G d (.xd (ns.zip vs))) a (exq a oe)) (upd (upd H d (.xd (ns.zip vs))) a (exq a oe)) (.ref a) (Je _) (s1.trans s2) R3 ?_
 exact RP.exn hC ⟨hz.1,hz.2,hv⟩ Jf (by rw[Jg ne];exact Jf) hl (r.mono (s1.trans s2))
theorem zB1{C:Addr}{k c:Nat}{tg x:Str}{p pos:Pos} (B:Exc0 X.prog X.w X.K X.mg X.base cl k c C tg) (g:GX K X) (hr:Room (k+1) X.A) (hg:Gl X x) (hm:X.mg x=some (.ref C)) (hdb:(x==("__debug__" : Str))=false) :
  SE K cl X Wx (zCk c tg) (.Call (.Name x p) [] [] pos):=by
 obtain⟨hK,hc,_⟩:=g;subst hK;obtain⟨fI,fd,h1,h2,h3,h4⟩:=B.ex;refine⟨fun E0 ρ G σ st τ H Q R S h=>T.of (pe_mk (zGN B.O h1 h2 h3 hr h4 pass0 hg hm hdb)) ?_⟩
 have e:=zCr (vs:=[.str tg]) B.at_ rfl R (.cons (.str tg) .nil) h;exact⟨JY _,fun a ha=>zGF B.O B.tag e ha⟩
theorem zBN{C:Addr}{k c:Nat}{tg f pn x:Str}{p pos:Pos}{a:EM}{e:Expr} (B:Exc1 X.prog X.w X.K X.mg X.base cl k c C tg f pn) (g:GX K X) (hr:Room (k+1) X.A) (hg:Gl X x) (hm:X.mg x=some (.ref C)) (ha:SE K cl X Wx a e)
  (hdb:(x==("__debug__" : Str))=false) (he:starEach [e] X.env=(false,eval e X.env)::starEach [] X.env:=by rfl) (hpl:(backTo pos (starEach [] X.env)).any (·.1)=false:=by rfl) :
  SE K cl X Wx (zBR c a tg) (.Call (.Name x p) [e] [] pos):=by
 obtain⟨hK,hc,_⟩:=g;subst hK;obtain⟨fI,fd,h1,h2,h3,h4⟩:=B.ex;refine⟨fun E0 ρ G σ st τ H Q R S h=>T.of (pe_mk (pmk_oex B.O h1 h2 h3 hr h4 .nil pass0 hg hm (Vr T.pe pa_nil he) hdb he hpl)) ?_⟩
 refine ha.run E0 ρ G σ st τ H _ R S (Aft.seq h fun w st1 ρ1 G1 H1 v e1 p1 s1 R1 u1 h'=>?_)
 split at h'
 case h_2=>exact h'.elim
 have en:=zCr (vs:=[v,.str tg]) B.at_ rfl R1 (.cons u1 (.cons (.str tg) .nil)) h';exact⟨by simp,fun y hy=>zGD B.O B.tag B.fld en hy⟩
end
def rIsX(K:PySem.W.Frag):List V→Hp→VK→Prop:=fun xs H Q=>∃(a C dd:Addr) (oe:Obj) (fs:List (Str×V)) (c:V) (cv:Value) (b:Bool),xs=[.ref a,c]∧ClsV c cv∧ExcC K C∧oe.cls=.ref C∧oe.dict=some dd∧(∃vs,oe.data=.fields vs) ∧
 H a=some (exq a oe)∧H dd=some (.xd fs)∧PySem.W.kitOne K (.ref C) cv=some b∧Q (.bl b) H
theorem zEE{X:Cx}:CallR X (.builtin "isinstance") (rIsX X.K):=by
 intro pins s σ H xs us Q I r h;obtain⟨a,C,dd,oe,fs,c,cv,b,rfl,k,T,hc,hd,⟨vs,hv⟩,ea,ed,e,q⟩:=h;obtain⟨u1,u2,rfl,r1,r2⟩:=vals2 r;have e2:=k.eq r2;subst e2;obtain rfl:u1=Value.ref a:=r1;have ha:=zGz I.hok ea;have hx:ObjOk X.prog X.w H s.heap dd (.xd fs):=I.hok dd _ ed;obtain⟨mA,hns,hr⟩:=hx;obtain⟨od,ho,hl⟩:=lookIn_ns hns;have J:PySem.W.InstAt s.heap a oe C (some od):=⟨ha,hc,by unfold PySem.W.notCls;rw[hv]<;>rfl,by rw[hd];exact ho⟩
 have hcl:(PySem.W.clsIn X.K C).isSome=true:=by
  obtain⟨cd,hcd,_⟩:=PySem.W.any_some T.hd;rw[hcd];rfl
 exact PySem.W.kia_one (PySem.W.kitx_exc hcl T.hg T.hk T.hs T.ha T.hn T.ht T.hm) I.kIn J e (fun z=>nomatch z) fun tk=>⟨.bl b,H,I.tok tk,rfl,q⟩
def mIsX(tb:List (Nat×Bool)) (a:EM):EM:=fun σ st=>(a σ st).bind fun w st1=>match w with
 | .p (.exn c _)=>match tb.lookup c with
  |some b=>.ok (.p (.bl b)) st1
  |none=>.no
 |_=>.no
section
variable {K:PySem.W.Frag}{cl:Cls}{X:Cx}{Wx:WX}
theorem zAP{C:Addr}{tb:List (Nat×Bool)}{x:Str}{a:EM}{e:Expr}{p q pos:Pos} (g:GX K X) (htb:∀q∈tb,∃C' ns,cl[q.1]?=some (C',ns)∧ExcC K C'∧PySem.W.kitOne K (.ref C') (.ref C)=some q.2)
  (hg:Gl X "isinstance") (hm:X.mg "isinstance" = none) (hgx:Gl X x) (hmx:X.mg x=some (.ref C)) (hdb:(x==("__debug__" : Str))=false)
  (ha:SE K cl X Wx a e) (hs:starEach [e,.Name x q] X.env=(false,eval e X.env)::starEach [.Name x q] X.env:=by rfl) (hs2:starEach [.Name x q] X.env=(false,eval (.Name x q) X.env)::starEach [] X.env:=by rfl) (hpl:(backTo pos (starEach [.Name x q] X.env)).any (·.1)=false:=by rfl) :
  SE K cl X Wx (mIsX tb a) (.Call (.Name "isinstance" p) [e,.Name x q] [] pos):=by
 obtain⟨hK,_⟩:=g;subst hK;refine⟨fun E0 ρ G σ st τ H Q R S h=>T.of (pe_callB zEE hg hm ⋯ (Vr T.pe (Vr (pe_glob (v:=.ref C) hgx hmx rfl hdb) pa_nil hs2) hs) ⋯ ⋯ hs hpl) ?_⟩
 refine ha.run E0 ρ G σ st τ H _ R S (Aft.seq h fun w st1 ρ1 G1 H1 v e1 p1 s1 R1 u1 h1=>?_)
 split at h1
 case h_2=>exact h1.elim
 rename_i c l
 split at h1
 case h_2=>exact h1.elim
 rename_i b eb
 obtain⟨C',ns,k1,k2,k3⟩:=htb _ (zCG eb);cases u1 with
 |@exn a C'' dd oe _ ns' vs _ k4 k5 k6 k7 k8 k9 =>
  rw[k1]at k4;cases k4;exact⟨a,C',dd,oe,_,.ref C,.ref C,b,rfl,.own C,k2,k5.1,k5.2.1,k5.2.2,R1.sub _ _ k6,R1.sub _ _ k7,k3,h1.here R1 (RP.bl _)⟩
theorem zD6{Ty:String}{tb:List (Nat×Bool)}{x:Str}{a:EM}{e:Expr}{p q pos:Pos} (g:GX K X) (htb:∀q∈tb,∃C' ns,cl[q.1]?=some (C',ns)∧ExcC K C'∧PySem.W.kitOne K (.ref C') (.type Ty)=some q.2)
  (hg:Gl X "isinstance") (hm:X.mg "isinstance" = none) (hgx:Gl X x) (hmx:X.mg x=none) (hv:bootBuiltins x=some (.type Ty)) (hn:x ≠ "__name__") (hdb:(x==("__debug__" : Str))=false)
  (ha:SE K cl X Wx a e) (hs:starEach [e,.Name x q] X.env=(false,eval e X.env)::starEach [.Name x q] X.env:=by rfl) (hs2:starEach [.Name x q] X.env=(false,eval (.Name x q) X.env)::starEach [] X.env:=by rfl) (hpl:(backTo pos (starEach [.Name x q] X.env)).any (·.1)=false:=by rfl) :
  SE K cl X Wx (mIsX tb a) (.Call (.Name "isinstance" p) [e,.Name x q] [] pos):=by
 obtain⟨hK,_⟩:=g;subst hK;refine⟨fun E0 ρ G σ st τ H Q R S h=>T.of (pe_callB zEE hg hm ⋯ (Vr T.pe (Vr (pe_bltn (v:=.ty Ty) hgx hmx hv rfl hn hdb) pa_nil hs2) hs) ⋯ ⋯ hs hpl) ?_⟩
 refine ha.run E0 ρ G σ st τ H _ R S (Aft.seq h fun w st1 ρ1 G1 H1 v e1 p1 s1 R1 u1 h1=>?_)
 split at h1
 case h_2=>exact h1.elim
 rename_i c l
 split at h1
 case h_2=>exact h1.elim
 rename_i b eb
 obtain⟨C',ns,k1,k2,k3⟩:=htb _ (zCG eb);cases u1 with
 |@exn a C'' dd oe _ ns' vs _ k4 k5 k6 k7 k8 k9 =>
  rw[k1]at k4;cases k4;exact⟨a,C',dd,oe,_,.ty Ty,.type Ty,b,rfl,.ty Ty,k2,k5.1,k5.2.1,k5.2.2,R1.sub _ _ k6,R1.sub _ _ k7,k3,h1.here R1 (RP.bl _)⟩
end
def scal:P→Bool
 | .non | .bl _ | .int _ | .str _=>true
 |_=>false
noncomputable def zDn (ρ:List Addr) (x:Option Addr) (G G':Hp):Hp:=fun b=>match G b with
 |some o=>some o
 |none=>open Classical in if b∈ρ∨x=some b then none else G' b
theorem zDA{ρ:List Addr}{x:Option Addr}{G G':Hp}:Sub G (zDn ρ x G G'):=fun a o h=>by
 unfold zDn;rw[h]
theorem zFe{ρ:List Addr}{x:Option Addr}{G G':Hp}{a:Addr} (g:G a=none) (m:a∈ρ∨x=some a):zDn ρ x G G' a=none:=by
 unfold zDn;rw[g];dsimp only;rw[JN m]
theorem zDV{ρ:List Addr}{x:Option Addr}{G G':Hp}{a:Addr}{o:HO} (h:zDn ρ x G G' a=some o):G a=some o∨(G a=none∧a∉ρ∧x≠some a∧G' a=some o):=by
 unfold zDn at h;split at h
 ·rename_i u e
  exact .inl (e.trans h)
 ·rename_i e
  split at h
  ·cases h
  ·rename_i m
   exact .inr ⟨e,fun z=>m (.inl z),fun z=>m (.inr z),h⟩
theorem zH5{c:Addr}{q:Str} (vs:List V):LamX.CodeO c q≠.lst vs:=by
 unfold LamX.CodeO;intro z;cases z
section
variable {K:PySem.W.Frag}{cl:Cls}{X:Cx}{Wx:WX}{E0:En}{ρ ρ':List Addr}{G G' G1:Hp}{σ:Sg}{τ:L2.St}{st st':List Cell}{H H':Hp}
theorem Rel.back(R:Rel K cl E0 ρ G st H) (hg:∀b o,G1 b=some o→G b=some o∨(b∈ρ∧∃vs,o=.lst vs)) (R':Rel K cl ⟨strip H,([]:List Addr).length,G1⟩ ρ' G' st' H') (x:Option Addr) (hx:∀b,x=some b→∀c q,G' b≠some (LamX.CodeO c q)) :
  Rel K cl E0 ρ (zDn ρ x G G') st H':=by
 have keep:∀a u,H a=some u→NT u→H' a=some u:=fun a u h n=>R'.old a u (strip_of h n) fun i hi=>absurd hi (VM _)
 refine⟨R.len,R.nd,fun i c a e1 e2=>?_,fun i c a e1 e2=>?_,fun b u e=>?_,fun a u e q=>keep a u (R.old a u e q) (R.ent a u e),R.new,R.n0,fun a o e=>?_,R.ent,fun a u e=>?_,fun q hq=>?_⟩
 ·by_cases hcd:c=.dead
  ·subst hcd;obtain⟨o,z⟩:=R.cell i _ a e1 e2;exact⟨o,zDA _ _ z⟩
  ·obtain⟨u,q,po⟩:=(R.cell i c a e1 e2).po hcd;exact(R.cell i c a e1 e2).mono (Je _) zDA ((keep a u q po.1).trans q.symm)
 ·rcases R.sep i c a e1 e2 with z|z
  ·exact .inl z
  ·exact .inr (zFe z (.inl (Jj e2)))
 ·rcases zDV e with z|⟨_,_,_,z⟩
  ·exact keep b u (R.sub b u z) (R.gnt b u z)
  ·exact R'.sub b u z
 ·rcases zDV e with z|⟨g,m,_,z⟩
  ·exact R.grow a o z
  ·rcases R'.grow a o z with y|y|⟨i,hi,_⟩
   ·rcases hg a o y with y|⟨y,_⟩
    ·rw[g]at y;cases y
    ·exact absurd y m
   ·exact .inr (.inl (R.offF y).2)
   ·exact absurd hi (VM _)
 ·rcases zDV e with z|⟨_,_,_,z⟩
  ·exact R.gnt a u z
  ·exact R'.gnt a u z
 ·obtain⟨ps,h1,h2,h3⟩:=R'.tabs q hq;refine⟨ps,h1,h2,fun pos cv e=>?_⟩
  obtain⟨c,e1,e2⟩:=h3 pos cv e;refine⟨c,e1,?_⟩;cases g:G c with
  |some o =>
   have y:=keep c o (R.sub c o g) (R.gnt c o g);rw[R'.sub _ _ e2]at y;rw[Jb y];exact zDA _ _ g
  |none =>
   unfold zDn;rw[g];dsimp only;rw[J9]
   ·exact e2
   ·rintro(m|m)
    ·obtain⟨i,hi⟩:=JH m;rcases R'.grow c _ e2 with y|y|⟨i,hi,_⟩
     ·rcases hg c _ y with y|⟨_,vs,y⟩
      ·rw[g]at y;cases y
      ·exact zH5 vs y
     ·exact(R.offF y).1 i hi
     ·exact absurd hi (VM _)
    ·exact hx _ m _ _ e2
end
def rEqD(C D:Addr) (sp:Sp):R2:=fun x y H Q=>∃a dx fs b dy gs,x=.ref a∧y=.ref b∧H a=some (.ins C dx fs)∧H b=some (.ins D dy gs)∧sp [x,y] H (fun v H'=>∃k,v=.bl k∧Q (.bl (k != false)) H') L2.E0
section
variable {X:Cx}{C D f:Addr}{fd:FuncData}{ps:List Str}{sp:Sp}{k:Nat}
theorem op_eqD(hmt:Meth X.K C "__eq__" f) (hs:PySem.W.subIn X.K (.ref D) (.ref C)=some false) (Fk:FnOk X.prog X.w X.K X.mg X.base CX0 k f fd ps sp) (hr:Room k X.A) (hb:Binds X.K fd ps []) (hu:X.A.units<cLine):OpR X (compareOp .Eq) (rEqD C D sp):=by
 intro pins s σ H x y v u Q I rx ry h;obtain⟨a,dx,fs,b,dy,gs,rfl,rfl,eH,eB,h⟩:=h;obtain rfl:v=.ref a:=rx;obtain rfl:u=.ref b:=ry;obtain⟨mA,O,_⟩:=ins_get I.hok eH;obtain⟨od,J,_⟩:=O.look;obtain⟨mB,O2,_⟩:=ins_get I.hok eB;obtain⟨od2,J2,_⟩:=O2.look;obtain⟨m,hF⟩:=I.fr;refine PySem.W.cmp_K (op:=.Eq) (tb:=.ref D) hu hF I.ok.mod.kin J J2.type (by simp[PySem.W.notFirst,hs]) hmt.at_ hmt.fn ?_
 refine Vv (run_fn (E:=L2.E0) (us:=[.ref a,.ref b]) (vs:=[.ref a,.ref b]) Fk hr hb .nil pass0 I (.cons rfl (.cons rfl .nil)) h) (fun w s' z=>?_) fun _ _ z=>z
 obtain⟨v,H',I',rv,b,eb,q⟩:=z;subst eb;cases rv;exact⟨.bl b,H',I',rfl,by simpa using q⟩
end
section
variable {K:PySem.W.Frag}{cl:Cls}{X:Cx}{Wx:WX}{x:Str}{pos:Pos}
theorem v0(i:Nat) (hN:X.N[i]?=some x:=by exact rfl) (hv:vis X.env.scope x=true:=by exact rfl) (hd:((x==("__debug__" : Str))||(x==("__classdict__" : Str)))=false:=by exact rfl):SE K cl X Wx (mVar i) (.Name x pos):=v hN hv hd
theorem sgn(g:GX K X) (i:Nat) (hi:X.N[i]?=some x:=by exact rfl) (hx:loc X.env.scope x=true:=by exact rfl) (hf:X.fn x=true∨X.env.scope.names.lookup x=some .local:=by first|exact .inl rfl|exact .inr rfl):SG K cl X (.nm i) (.Name x pos):=zHz g hi (zAS hx) hf
end
section
variable {K:PySem.W.Frag}{cl:Cls}{X:Cx}{Wx:WX}{E0:En}{ρ ρ':List Addr}{G G':Hp}{σ:Sg}{τ:L2.St}{st:List Cell}{H:Hp}{D:Ends}
theorem PSsT.nox{st:List Stmt}{t:TS} (h:PSsT X.nox st t):PSsT X st t:=fun pins s σ H D h0 I hw =>
 Vv (h pins s σ H D h0 (I.wish _) hw) (fun _ _ q=>q.unwish) fun _ _ z=>False.elim z
end
section
open Builtin Builtin.ObjectAttr
structure XB (B newId initId:String) (tl:List Value):Prop where
 F:ExcBaseFacts B newId initId tl
 S:StoreFacts B tl "object.__setattr__" "object"
 X:PySem.W.KxsFacts B initId
 obj:tl.contains (.type "object")=true
def ownB(rs:List Addr) (tl:List Value):List Value:=rs.map Value.ref++tl
theorem zDX(rs:List Addr) (tl:List Value) (s:String):(ownB rs tl).contains (.type s)=tl.contains (.type s):=by
 unfold ownB
 induction rs with
 |nil=>rfl
 |cons r rs ih =>
  rw[JZ,List.cons_append,JU,ih];rfl
theorem zDs{B newId initId:String}{tl:List Value} (b:XB B newId initId tl) (self:Value):∀rs:List Addr,refuseLoop self "__setattr__" (ownB rs tl)=pure ()
 |[]=>b.S.passes self
 |r::rs=>by
  show refuseLoop self "__setattr__" (.ref r::ownB rs tl)=_;rw[refuseLoop_ref];exact zDs b self rs
theorem zHZ{rs:List Addr}{tl:List Value} (h:tl.contains (.type "object")=true):(ownB rs tl).isEmpty=false:=by
 unfold ownB;cases rs with
 |nil =>
  cases tl with
  |nil=>cases h
  |cons _ _=>rfl
 |cons _ _=>rfl
structure OexG (K:PySem.W.Frag) (C:Addr) (newId:String) (tl:List Value):Prop where
 cls:∃nm q N bs rs sn sub ab col dd k0 k1 k2 k3 k5,K.lookup C=some (excClassObj nm q C N bs (ownB rs tl) true sn sub ab col dd k0 k1 k2 k3 k5 newId)
 sa:PySem.W.findIn K (.ref C) "__setattr__" = some (some (.builtin "object.__setattr__"))
 exC:PySem.W.subIn K (.ref C) (.type "BaseException")=some true
 tyC:PySem.W.typeIn K (.ref C)=some (.type "type")
 kC:PySem.W.keepIn K (.ref C)=true
section
variable {prog:Program}{w:World}{A:Around}{Z:Value→Shared→Prop}{R:Result→Shared→Prop}{hp:Heap}{g:Array GenState}{d:Drawn}{t:Nat}{os:OsState}
variable {K:PySem.W.Frag}{B newId initId:String}{tl:List Value}{rs:List Addr}{name:Str}{tk:Tok}{v:Value}{x C dx:Addr}{fv:Array Value}{cd:ClassData}
theorem zDv(b:XB B newId initId tl){od:Option Addr}{oD:Option Obj} (X:K.In hp) (I:PySem.W.InstAt hp x { cls:=.ref C,dict:=od,data:=.fields fv } C oD) (hcd:PySem.W.clsIn K C=some cd) (hm:cd.mro=ownB rs tl) (ha:PySem.W.findIn K (.ref C) name=some none)
  (q:wpAny (model prog w) A.in1 (storeInOwnDict (.ref x) (.ref C) (.str name tk) name v false) (fun fin s'=>match fin with
   | .done f=>R (.ok f) s'
   | .again c'=>c'.quiet=true∧codeAny (model prog w) A c' R s') (fun e s'=>R (.error e) s') ⟨hp,g,d,t,os⟩) :
  codeAny (model prog w) A (.call (.builtin "object.__setattr__") ⟨[.ref x,.str name tk,v],[]⟩) R ⟨hp,g,d,t,os⟩:=by
 have so:=F.store_object;have cne:cd.mro.isEmpty=false:=by rw[hm];exact zHZ b.obj
 have cob:cd.mro.contains (.type "object")=true:=by rw[hm,zDX];exact b.obj
 have isO:PySem.W.Looks (model prog w) hp (isInstance (.ref x) (.type "object")) true :=
  I.type.andThen (Vj X (by unfold PySem.W.mroIn;rw[hcd,Option.bind_some,J9 (by rw[cne];decide),cob]))
 refine codeAny_call_builtin so.slot.plain so.entry (@PySem.W.check_slot (model prog w) _ _ ⟨hp,g,d,t,os⟩ "object.__setattr__" "object" "__setattr__" (.ref x) [.str name tk,v] [] _ so.kind so.split isO (so.args (.ref x) (.str name tk) v) ?_);have lm:PySem.W.Looks (model prog w) hp (mroOf (.ref C)) cd.mro:=(JO X hcd).andThen .now;have ln:PySem.W.Looks (model prog w) hp (storeTaker? none) none:=.now;rw[PySem.W.osa_eq,refuse_eq];refine JE (JE (I.type.at (JE (lm.at ?_))));rw[hm,zDs b];exact J6 (JE (I.type.at (JE ((J1 X ha).at (JE (ln.at q))))))
theorem zF6(b:XB B newId initId tl) (X:K.In hp) (hx:hp.get? x=some { cls:=.ref C,data:=.fields fv }) (hcd:PySem.W.clsIn K C=some cd) (hm:cd.mro=ownB rs tl) (hh:cd.hasDict=true) (ha:PySem.W.findIn K (.ref C) name=some none)
  (hq:∀h' tk' dx,(∀b o,b≠x→hp.get? b=some o→h'.get? b=some o)→hp.objs.size≤dx→dx≠x→h'.get? x=some { cls:=.ref C,dict:=some dx,data:=.fields fv }→h'.Ns1 dx (fun y=>if y=name then some v else none)→R (.ok (.ret .none)) ⟨h',g,d,tk',os⟩) :
  codeAny (model prog w) A (.call (.builtin "object.__setattr__") ⟨[.ref x,.str name tk,v],[]⟩) R ⟨hp,g,d,t,os⟩:=by
 refine zDv b (od:=none) (oD:=none) X ⟨hx,rfl,rfl,trivial⟩ hcd hm ha ?_
 have dif:x≠hp.objs.size:=JV (Jp hx);have lc:PySem.W.Looks (model prog w) hp (classData C) cd:=JO X hcd;obtain⟨nm,bs,mro,ns,qn,hd,sn,sb,ab,col,del⟩:=cd;dsimp only at hh;subst hh;unfold storeInOwnDict ownDictForStores
 repeat (first|with_reducible refine PySem.HandSPX.store_in_new ?_ ?_|with_reducible refine JF hx ?_|with_reducible refine lc.at ?_|wp_step)
 ·exact⟨_,#[],_,(Heap.get?_update_ne _ _ _ _ dif.symm).trans (VB rfl rfl),rfl,fun e he=>absurd he (by simp),fun _=>rfl⟩
 ·intro h' tk' hn' hs;have pu:(hp.push { cls:=.type "dict",data:=.dict #[] }).get? x=some { cls:=.ref C,data:=.fields fv }:=Jc _ hx;exact hq h' tk' hp.objs.size (fun b o hb ho=>(hs.2 b (JV (Jp ho))).trans ((Heap.get?_update_ne _ _ _ _ hb).trans (Jc _ ho))) (Ju _) dif.symm ((hs.2 x dif).trans (Ve _ pu rfl)) hn'
theorem zFp(b:XB B newId initId tl){m0:Str→Option Value}{nl:List Str} (X:K.In hp) (hx:hp.get? x=some { cls:=.ref C,dict:=some dx,data:=.fields fv }) (hns:hp.Ns1 dx m0) (hw:Within m0 nl) (hz:nl.length≤1000) (hcd:PySem.W.clsIn K C=some cd) (hm:cd.mro=ownB rs tl) (hh:cd.hasDict=true) (ha:PySem.W.findIn K (.ref C) name=some none)
  (hq:∀h' tk',(∀b o,b≠dx→hp.get? b=some o→h'.get? b=some o)→h'.Ns1 dx (fun y=>if y=name then some v else m0 y)→R (.ok (.ret .none)) ⟨h',g,d,tk',os⟩) :
  codeAny (model prog w) A (.call (.builtin "object.__setattr__") ⟨[.ref x,.str name tk,v],[]⟩) R ⟨hp,g,d,t,os⟩:=by
 obtain⟨oD,_,_,hoD,_,_⟩:=hns.count hw;refine zDv b (od:=some dx) (oD:=some oD) X ⟨hx,rfl,rfl,hoD⟩ hcd hm ha ?_
 have lc:PySem.W.Looks (model prog w) hp (classData C) cd:=JO X hcd;obtain⟨nm,bs,mro,ns,qn,hd,sn,sb,ab,col,del⟩:=cd;dsimp only at hh;subst hh;unfold storeInOwnDict ownDictForStores
 repeat (first|with_reducible refine PySem.OEX.store_in_old hns hw hz ?_|with_reducible refine JF hx ?_|with_reducible refine lc.at ?_|wp_step)
 intro h' tk' hn' hs;exact hq h' tk' (fun b o hb ho=>(hs.2 b hb).trans ho) hn'
end
section
variable {X:Cx}{pins:List (Addr×Obj)}{σ:L2.St}{H:Hp}{s:Shared}{a C dx:Addr}{f:Str}{y:V}{u:Value}{fs:List (Str×V)}{Q:Unit→Shared→Prop}{Z:Value→Shared→Prop}{A:Around}{B newId initId:String}{tl:List Value}
theorem zHe(b:XB B newId initId tl) (T:OexG X.K C newId tl) (I:Inv X pins σ H s) (e:H a=some (exo a C none)) (hno:PySem.W.findIn X.K (.ref C) f=some none) (ry:RelV y u)
  (h:∀dx s',H dx=none→dx≠a→Inv X pins σ (upd (upd H dx (exd dx [(f,y)])) a (exo a C (some dx))) s'→Q () s'):wpAny (model X.prog X.w) A (setAttr (.ref a) f u) Q Z s:=by
 obtain⟨nm,q,N,bs,rs,sn,sub,ab,col,dd,k0,k1,k2,k3,k5,hC⟩:=T.cls;have ec:PySem.W.clsIn X.K C=some { name:=nm,bases:=bs,mro:=.ref C::ownB rs tl,ns:=N,qualname:=q,hasDict:=true,slotNames:=sn,subclasses:=sub,abstract:=ab,collection:=col,hasDel:=false }:=by unfold PySem.W.clsIn;rw[hC]<;>rfl
 obtain⟨t1,ho⟩:=exo_at I.hok e;obtain⟨hp,g,d,t,os⟩:=s;refine PySem.W.set_plain I.kIn (ox := { cls:=.ref C,dict:=none,data:=.fields #[.ref t1,.none,.none,.none,.bool false,.none] }) (od:=none) ⟨ho,rfl,rfl,trivial⟩ T.sa ?_
 refine zF6 b (rs:=C::rs) I.kIn ho ec rfl rfl hno (fun h' tk' dx k dn dne hx hn=>?_)
 have fd:H dx=none:=I.hok.fresh dn;have old:∀ {c:Addr}{o:Obj},hp.get? c=some o→c≠dx:=fun{c o} q=>JV (JA (Jp q) dn)
 have nota:∀ {c:Addr},H c=none→c≠a:=fun{c} n z=>by rw[z,e]at n;cases n
 have W1:Un X.fs [] H (upd (upd H dx (exd dx [(f,y)])) a (exo a C (some dx))) hp h' :=
  ⟨fun c o q n _ _=>k c o (nota n) q,fun c o q n _ _=>⟨o.slots,k c o (nota n) q⟩,fun c o q n _=>by rw[Jg (nota n),Jg (old q)];exact n,fun c o q _=>by
   by_cases hc:c=a
   ·exact⟨_,by rw[hc];exact hx⟩
   ·exact⟨o,k c o hc q⟩,fun c xs q=>by rw[Jg (at_ne e q exo_tup),Jg (JM q fd)];exact q,fun c o v q=>by rw[Jg (at_ne e q exo_frz),Jg (JM q fd)];exact q,
   fun c ps q=>⟨#[],by rw[Jg (at_ne e q exo_tbl),Jg (JM q fd),q];simp⟩⟩
 refine h dx _ fd dne (I.un (t':=tk') W1 fun c o q=>?_)
 by_cases hc:c=a
 ·subst hc;rw[Jf]at q;cases q;exact exo_ok hx
 ·rw[Jg hc]at q
  by_cases hd:c=dx
  ·subst hd;rw[Jf]at q;cases q;exact exd_ok hn (relO_put (fs:=[]) ry fun g=>True.intro)
  ·rw[Jg hd]at q
   exact(I.hok c o q).stay (fun z v hz m=>k z v (hz.elim (fun e=>by rw[e];exact hc) fun e2=>at_ne e e2 exo_own) m)
    (fun z hz=>by rw[Jg (at_ne e hz exo_own),Jg (JM hz fd)];exact hz) (fun z xs hz=>by rw[Jg (at_ne e hz exo_tup),Jg (JM hz fd)];exact hz)
theorem zH4(b:XB B newId initId tl) (T:OexG X.K C newId tl) (I:Inv X pins σ H s) (e:H a=some (exo a C (some dx))) (ed:H dx=some (exd dx fs)) (hl:fs.length≤900) (hno:PySem.W.findIn X.K (.ref C) f=some none) (ry:RelV y u)
  (h:∀s',Inv X pins σ (upd H dx (exd dx ((f,y)::fs))) s'→Q () s'):wpAny (model X.prog X.w) A (setAttr (.ref a) f u) Q Z s:=by
 obtain⟨nm,q,N,bs,rs,sn,sub,ab,col,dd,k0,k1,k2,k3,k5,hC⟩:=T.cls;have ec:PySem.W.clsIn X.K C=some { name:=nm,bases:=bs,mro:=.ref C::ownB rs tl,ns:=N,qualname:=q,hasDict:=true,slotNames:=sn,subclasses:=sub,abstract:=ab,collection:=col,hasDel:=false }:=by unfold PySem.W.clsIn;rw[hC]<;>rfl
 obtain⟨t1,ho⟩:=exo_at I.hok e;obtain⟨mA,hns,rel⟩:=exd_at I.hok ed;have wi:=within_of rel;obtain⟨hp,g,d,t,os⟩:=s;obtain⟨oD,_,_,hoD,_,_⟩:=hns.count wi;refine PySem.W.set_plain I.kIn (ox := { cls:=.ref C,dict:=some dx,data:=.fields #[.ref t1,.none,.none,.none,.bool false,.none] }) (od:=some oD) ⟨ho,rfl,rfl,hoD⟩ T.sa ?_
 refine zFp b (rs:=C::rs) I.kIn ho hns wi (by rw[Jr];omega) ec rfl rfl hno (fun h' tk' k hn=>?_)
 have there:∃o,h'.get? dx=some o:=by
  obtain⟨o,_,_,e',_⟩:=hn;exact⟨o,e'⟩
 exact h _ (I.write (t':=tk') (x:=dx) (e:=dx) (o:=exd dx ((f,y)::fs)) (by rw[ed];exact True.intro) (.inl rfl) k there (exd_ok hn (relO_put ry rel)))
def tGst(K:PySem.W.Frag) (newId:String) (tl:List Value) (f:Str) (to te:TE):TS:=fun D σ H=>te σ H fun y H1=>to σ H1 fun x H2=>∃a C:Addr,x=.ref a∧OexG K C newId tl∧PySem.W.findIn K (.ref C) f=some none ∧
 ((H2 a=some (exo a C none)∧∀dx,H2 dx=none→dx≠a→D.nx σ (upd (upd H2 dx (exd dx [(f,y)])) a (exo a C (some dx)))) ∨
  ∃(dx:Addr) (fs:List (Str×V)),H2 a=some (exo a C (some dx))∧H2 dx=some (exd dx fs)∧fs.length≤900∧D.nx σ (upd H2 dx (exd dx ((f,y)::fs))))
theorem zDh{o e:Expr}{to te:TE}{p' pos:Pos} (b:XB B newId initId tl) (ho:PE X o to) (he:PE X e te) (hs:swapsWith e (some (.Attribute o f p')) pos.line X.env=pure false:=by rfl):PS X (.Assign [.Attribute o f p'] e pos) (tGst X.K newId tl f to te):=by
 refine⟨fun pins s σ H D I h=>?_⟩
 refine plainObj_wpAny_Assign_Attribute (thn (he.run pins s σ H _ I h) fun v s1 ⟨y,H1,I1,r1,q1⟩=>thn (ho.run pins s1 σ H1 _ I1 q1) fun u s2 ⟨x,H2,I2,r2,a,C,ex,T,hno,q⟩=>?_) hs
 subst ex;obtain rfl:u=Value.ref a:=r2;rcases q with⟨ea,q⟩|⟨dx,fs,ea,ed,hl,q⟩
 ·exact zHe b T I2 ea hno r1 fun dx s' n ne J=>⟨σ,_,J,q dx n ne⟩
 ·exact zH4 b T I2 ea ed hl hno r1 fun s' J=>⟨σ,_,J,q⟩
end
end
section
open PySem.W (ksEnv ksFn kxs_mw)
section
open PySem.W PySem.Calls
variable {prog:Program}{w:World}{A:Around}{E:Value→Shared→Prop}{h:Heap}{g:Array GenState}{d:Drawn}{t:Nat}{os:OsState}
variable {nm q:Str}{C N:Addr}{bs bm:List Value}{hdct:Bool}{sn:List Str}{sub:List Value}{ab:Bool}{col:Option Bool}{dd:Option Addr}{k0 k1 k2 k3 k5:Option Value}
theorem zGR{B newId initId:String}{tl:List Value} (b:XB B newId initId tl){u e t0:Addr}{rest:List Value}{Q:Value→Shared→Prop}
  (hC:h.get? C=some (excClassObj nm q C N bs bm hdct sn sub ab col dd k0 k1 k2 k3 k5 newId)) (he:h.get? e=some (HandSPX.excO C t0)) (hu:h.get? u=some (kxs_mw initId e)) (hrest:rest.length≤sizeLine)
  (hq:∀h' t1,(∀b o,b≠e→h.get? b=some o→h'.get? b=some o)→h'.get? e=some (HandSPX.excO C t1)→Q .none ⟨h',g,d,t,os⟩) :
  wpAny (model prog w) A (call (.ref u) rest) Q E ⟨h,g,d,t,os⟩:=by
 refine Vx (VJ ?_);show wpAny _ A.in1 (callAny (.ref u) ⟨rest,[]⟩) _ _ _;simp only[callAny];refine JE (wpAny_load hu ?_);simp only[kxs_mw,show(Value.type "method-wrapper" == Value.type "method" || Value.type "method-wrapper" == Value.type "builtin_function_or_method" || Value.type "method-wrapper" == Value.type "method-wrapper")=true by decide,if_true]
 refine W.KFB.if_so (!0) ?_
 refine JE (check_bound_init b.F.toExcCallFacts hC he rfl ?_);refine JE (J6 (J6 ?_));refine⟨plainId_quiet b.F.init.plain _,codeAny_builtin b.F.initEntry ?_⟩;rw[Around.under_plainId b.F.init.plain _]
 wp_walk
 refine hq _ h.objs.size (fun b o hb ho=>?_) ?_
 ·rw[Heap.get?_update_other _ _ (VQ hb)];exact Jc _ ho
 ·rw[Ve _ (Jc _ he) rfl];rfl
end
structure SayG (B newId initId:String) (tl:List Value) (P:Program) (K:PySem.W.Frag) (mg:Str→Option Value) (C f cc cda:Addr) (name qual:Str) (params:Arguments) (body:List Stmt) (scope:Scope) (fd:FuncData):Prop where
 T:OexG K C newId tl
 lk:∃oc od dV kV doc pm an ct osl,fd=ksFn name qual params body scope dV kV doc pm an (.ref cda) ct cc∧K.lookup f=some ⟨oc,od,.func fd,osl⟩
 hcd:PySem.W.codeIn K (.ref cda) qual=true
 cell:∃cl0 cd0 csl,K.lookup cc=some ⟨cl0,cd0,.cell (some (.ref C)),csl⟩
 par:∃ar,(params.posonlyargs++params.args).head?=some ar∧ar.arg=("self" : Str)
 code:∃ccl cdd vs ccs file tf,K.lookup cda=some ⟨ccl,cdd,.fields vs,ccs⟩∧vs[2]?=some (.str file tf)∧((P.main.file:Str)==file)=true
 top:(P.main.scope.names.lookup ("super" : Str)).isSome=false
 sup:mg "super" = none
 along:PySem.W.ks_superIn K C C "__init__" = some (some (.builtin initId))
 self:PySem.W.mroIn K C (.ref C)=some true
 isB:PySem.W.subIn K (.ref C) (.type B)=some true
 opq:PySem.W.nsIn K PySem.cStatics "thirdparty.any" = some none
section
open PySem.W PySem.Calls
variable {P:Program}{w:World}{K:PySem.W.Frag}{mg:Str→Option Value}{base:Heap}{C f cc cda:Addr}{name qual:Str}{params:Arguments}{scope:Scope}{fd:FuncData}
theorem zDx{B newId initId:String}{tl:List Value} (b:XB B newId initId tl){ps ps':List Str}{k j:Nat}{p0 p1 p2 p3 p4 p5:Pos}{m:Str}{rest:List Stmt}{t:TS} (hps:ps=("self" : Str)::ps')
  (D:SayG B newId initId tl P K mg C f cc cda name qual params (.Expr (.Call (.Attribute (.Call (.Name "super" p0) [] [] p1) "__init__" p2) [.Constant (.str m) j p3] [] p4) p5::rest) scope fd) (S:zCf ps scope)
  {pl:Sem Bool} (he:∀L,eval (.Call (.Attribute (.Call (.Name "super" p0) [] [] p1) "__init__" p2) [.Constant (.str m) j p3] [] p4) (ksEnv qual scope L f (.ref cda) cc)=(do
   let ov ←attributeBase (.Call (.Name "super" p0) [] [] p1) "__init__" (ksEnv qual scope L f (.ref cda) cc) (eval (.Call (.Name "super" p0) [] [] p1) (ksEnv qual scope L f (.ref cda) cc))
   standAt p2.atName
   let (f',first) ←holding [ov] (getMethod ov "__init__" pl)
   callWith p4 f' first (backTo p4 (starEach [.Constant (.str m) j p3] (ksEnv qual scope L f (.ref cda) cc))) []))
  (hi:∀L,interactive (ksEnv qual scope L f (.ref cda) cc)=false) (hsw:∀L,swapsWith (.Call (.Attribute (.Call (.Name "super" p0) [] [] p1) "__init__" p2) [.Constant (.str m) j p3] [] p4) none p5.line (ksEnv qual scope L f (.ref cda) cc)=pure false)
  (hrest:∀(A:Around) (outer:List Env) (s:Shared) (H:Hp),PSs (ccx P w K mg base ps qual scope f cc (.ref cda) A outer s H) rest t):FnOk P w K mg base CX0 (k+1) f fd ps (zCs ps C t):=by
 refine⟨fun vs H Q E h=>h.1,fun A outer s H args us vs Q E hr e0 hb' r hsp=>?_⟩
 obtain⟨hl,a,ws,rfl,ea,ht⟩:=hsp;obtain⟨oc,od,dV,kV,doc,pm,an,ct,osl,rfl,lk⟩:=D.lk;obtain⟨cl0,cd0,csl,hcc⟩:=D.cell;obtain⟨ar,hpar,har⟩:=D.par;obtain⟨ccl,cdd,cvs,ccs,file,tf,hcode,hvs,hfile⟩:=D.code;have KX:K.In s.heap:=e0.mod.kin.keeps fun b o e=>(e0.bs b o e).1
 have lim:s.heap.NoLimit:=e0.mod.nolimit.keeps fun b o e=>(e0.bs b o e).1
 refine Vi (binds:=ps.zip us) hr.depth (KX _ _ lk) rfl lim (Vn KX D.hcd) rfl hb' S.nocell (fun y hy=>S.par _ (Vg hy).1) (fun h₁ hns kp=>?_) S.co S.gen S.kind
 have I:=zDK (w:=w) (mg:=mg) (qual:=qual) (f:=f) (cd:=.ref cda) (tk:=s.toks+(ps.zip us).length) S hr.hd e0 hl r hcc rfl hns kp
 have fin:∀ {σ':L2.St}{H':Hp}{v:V}{u:Value}{s':Shared},Inv (ccx P w K mg base ps qual scope f cc (.ref cda) A outer s H) [] σ' H' s'→L2.RelV v u→Q v H'→CE outer P w H s Q u s' :=
  fun{σ' H' v u s'} J rv q=>⟨v,H',J.os,J.bare,J.base,J.hok,rv,q⟩
 have fin2:∀(fl:Flow) (s':Shared),SP (ccx P w K mg base ps qual scope f cc (.ref cda) A outer s H) [] { nx:=fun _ H'=>Q .non H',rt:=Q } fl s'→CE outer P w H s Q (match fl with | .ret v=>v|_=>.none) s':=fun fl s' hs=>by
  cases fl with
  |ret u =>
   obtain⟨v,σ',H',J,rv,q⟩:=hs;exact fin J rv q
  |next =>
   obtain⟨σ',H',J,q⟩:=hs;exact fin (v:=V.non) (u:=Value.none) J rfl q
  |brk =>
   obtain⟨_,_,_,q⟩:=hs;exact False.elim q
  |cont =>
   obtain⟨_,_,_,q⟩:=hs;exact False.elim q
 refine Vy (PySem.ks_wpAt_Expr_any (Vz (VA (env:=ksEnv qual scope s.heap.objs.size f (.ref cda) cc) S.sup S.cls rfl rfl (I.kIn _ _ lk) rfl hpar rfl (I.kIn _ _ hcode) rfl hvs hfile D.top ?_) (he _)) (hi _) (hsw _));obtain⟨mb,b1,b2⟩:=I.mod.blt
 obtain⟨u0,ur,rfl,ru⟩:∃u0 ur,us=u0::ur∧L2.RelV (.ref a) u0:=by
  cases r with
  |cons r1 r2=>exact⟨_,_,rfl,r1⟩
 obtain rfl:u0=.ref a:=ru;obtain⟨nm,qn,N,bs,rs,sn,sub,ab,col,dd,k0,k1,k2,k3,k5,hCK⟩:=D.T.cls;have hC:=I.kIn _ _ hCK;obtain⟨t1,hea⟩:=exo_at I.hok ea;have hcl:PySem.W.clsIn K C=some { name:=nm,bases:=bs,mro:=.ref C::ownB rs tl,ns:=N,qualname:=qn,hasDict:=true,slotNames:=sn,subclasses:=sub,abstract:=ab,collection:=col,hasDel:=false }:=by unfold PySem.W.clsIn;rw[hCK]<;>rfl
 have lul:(Value.ref a::ur).length=ps.length:=by rw[←r.length];exact hl
 have hself:(ps.zip (Value.ref a::ur)).reverse.lookup ar.arg=some (.ref a):=by
  rw[har];exact zCU (i:=0) S.nd lul (by rw[hps];rfl) rfl
 refine Vl S.kind S.sup (Vf (env:=ksEnv qual scope s.heap.objs.size f (.ref cda) cc) (I.mod.glob.keeps I.bk) D.sup (b1.keeps I.bk) ((b2 "super" (!0)).trans PyProof.Rows.Boot.«super») ⟨rfl,?_⟩);refine wpAny_loadName_free S.kind S.cls rfl ⟨_,I.kIn _ _ hcc,rfl⟩ ?_
 refine wpAny_loadName_local S.kind (by rw[har];exact S.par _ (by rw[hps];exact Ji)) hns hself ?_
 refine Vs hC rfl ⟨rfl,?_⟩;refine Vt hC rfl hea rfl (fun c e=>by cases e) (Vj I.kIn D.self) (fun h' e k=>?_)
 have I2:Inv (ccx P w K mg base ps qual scope f cc (.ref cda) A outer s H) [] (L2.start ps (.ref a::ws)) H { s with heap:=h',toks:=s.toks+(ps.zip (Value.ref a::ur)).length }:=I.kept k
 have ia:PySem.W.InstAt h' a (PySem.HandSPX.excO C t1) C none:=⟨k _ _ hea,rfl,rfl,trivial⟩;have al:=D.along;unfold PySem.W.ks_superIn at al;rw[hcl]at al;refine PySem.W.kxs_getMethod b.X e (PySem.W.looks_opaque I2.kIn D.opq) (l₀:=.ref C::ownB rs tl) (fun A Q E s k q=>JE ((JO I2.kIn hcl) A _ E s k (J6 q))) rfl I2.kIn al (ia.type.andThen (PySem.W.looks_subIn I2.kIn D.isB)) (PySem.W.ks_ne I2.kIn ia hcl) (!0) ?_
 have hu:(h'.push (kxs_mw initId a)).get? h'.objs.size=some (kxs_mw initId a):=VB rfl rfl;have kk:∀b o,h'.get? b=some o→(h'.push (kxs_mw initId a)).get? b=some o:=fun b o e=>Jc _ e
 refine PySem.W.kxs_callWith (i:=initId) (x:=a) rfl ?_
 refine Vm (VC (VD (pos:=p3) (k:=j) (VE ⟨hu,?_⟩)));refine zGR b (kk _ _ (k _ _ hC)) (kk _ _ (k _ _ hea)) hu (by rw[Vh];show 1≤16777216;decide) fun h3 t3 k3 hx=>?_
 have J:=(I2.kept (t':=0) kk).write (t':=s.toks+(ps.zip (Value.ref a::ur)).length+1+1) (x:=a) (e:=a) (o:=exo a C none) (h':=h3) (by rw[ea];exact True.intro) (.inl rfl) k3 ⟨_,hx⟩ (exo_ok hx)
 have eu:upd H a (exo a C none)=H:=by
  funext b
  by_cases hb:b=a
  ·rw[hb,Jf,ea]
  ·rw[Jg hb]
 rw[eu]at J;refine wpAt_of_wpAny ?_
 refine Vv ((hrest A outer s H).run [] _ _ H _ J ht) (fun fl s' hs=>fin2 fl s' hs) fun e' s' hs=>hs.elim
end
end
section
open PySem.W (ksEnv ksFn kxs_mw)
section
variable {X:Cx}{B newId initId:String}{tl:List Value}{C fI:Addr}{k:Nat}{fd:FuncData}{ps:List Str}{sp:Sp}{CX:CXT}
theorem zER(b:XB B newId initId tl) (T:OexG X.K C newId tl) (iC:PySem.W.findIn X.K (.ref C) "__init__" = some (some (.ref fI))) (tI:PySem.W.typeIn X.K (.ref fI)=some (.type "function"))
  (F1:FnOk X.prog X.w X.K X.mg X.base CX k fI fd ps sp) (hr:Room (k+1) X.A) (hb:Binds X.K fd ps []) (hx:Passes CX X (fun _ _ _=>False)){pins:List (Addr×Obj)}{σ:L2.St}{H:Hp}{s:Shared}{vs:List V}{us:List Value}{Q:XK}
  (I:Inv X pins σ H s) (r:Vals vs us) (hz:vs.length≤1000)
  (q1:∀a,H a=none→sp (.ref a::vs) (upd H a (exo a C none)) (fun v H2=>v=.non∧∃(d:Addr) (fs:List (Str×V)),H2 a=some (exo a C (some d))∧H2 d=some (exd d fs)∧H d=none∧Q (.ref C) (some d) (upd (L2.del H2 a) d (.xd fs))) (fun _ _ _=>False)) :
  wpAny (model X.prog X.w) X.A (call (.ref C) us) (MkP X pins σ Q) X.xe s:=by
 obtain⟨nm,q,N,bs,rs,sn,sub,ab,col,dd,k0,k1,k2,k3,k5,hC⟩:=T.cls;obtain⟨hp,g,dr,tk,os⟩:=s;have up:hp.objs.size≤hp.objs.size+1:=Nat.le_succ _;have free:H (hp.objs.size+1)=none:=I.hok.fresh up;have hq:=q1 (hp.objs.size+1) free;have keep:∀c o,hp.get? c=some o→((hp.push (PySem.W.kdv_tup us)).push (PySem.HandSPX.excO C hp.objs.size)).get? c=some o:=fun c o e=>Jc _ (Jc _ e)
 have new:((hp.push (PySem.W.kdv_tup us)).push (PySem.HandSPX.excO C hp.objs.size)).get? (hp.objs.size+1)=some (PySem.HandSPX.excO C hp.objs.size):=by heap_get
 have J:Inv X pins σ (upd H (hp.objs.size+1) (exo (hp.objs.size+1) C none)) ⟨(hp.push (PySem.W.kdv_tup us)).push (PySem.HandSPX.excO C hp.objs.size),g,dr,tk,os⟩ :=
  I.laid (t':=tk) (a:=hp.objs.size+1) (o:=exo (hp.objs.size+1) C none) (h':=(hp.push (PySem.W.kdv_tup us)).push (PySem.HandSPX.excO C hp.objs.size)) keep up (exo_ok new)
 have r2:Vals (V.ref (hp.objs.size+1)::vs) (Value.ref (hp.objs.size+1)::us):=.cons rfl r
 have hl:(Value.ref (hp.objs.size+1)::us).length=ps.length:=by
  have e:=r2.length;rw[F1.len _ _ _ _ hq]at e;exact e.symm
 have hl':(Value.ref (hp.objs.size+1)::us++[]).length=ps.length:=by rw[JW];exact hl
 have small:us.length≤sizeLine:=by
  rw[←Paired.length r,Vh];omega
 refine Vx (PySem.HandSPX.call_own b.F (fun Y=>zDX rs tl Y) (I.kIn _ _ hC) (J1 I.kIn iC) (fun self=>VL I.kIn self tI) small
  (Vq (F1.run _ X.stack _ _ ⟨Value.ref (hp.objs.size+1)::us,[]⟩ (Value.ref (hp.objs.size+1)::us) _ _ (fun _ _ _=>False) (hr.make C us []) (J.env0.make C us []) (by
   have:=hb _ (Value.ref (hp.objs.size+1)::us) J.kIn hl'
   rwa [JW]at this) r2 hq) fun r s' hq'=>?_))
 cases r with
 |error er=>exact hx pins σ _ _ er s' J hq'
 |ok fl =>
  cases fl with
  |ret u =>
   obtain⟨v,H2,os2,bare2,un2,hok2,rv,ev,d,fs,ea,ed,hd1,q2⟩:=hq';subst ev;obtain⟨h2,g2,d2,t2,os'⟩:=s';exact⟨rv,mk_end (raises_own T.exC T.tyC) I up keep un2 hok2 os2 bare2 ea ed hd1 q2⟩
  |next=>exact False.elim hq'
  |brk=>exact False.elim hq'
  |cont=>exact False.elim hq'
theorem pmkG0{x:Str}{p pos:Pos} (b:XB B newId initId tl) (T:OexG X.K C newId tl) (iC:PySem.W.findIn X.K (.ref C) "__init__" = some (some (.ref fI))) (tI:PySem.W.typeIn X.K (.ref fI)=some (.type "function"))
  (F1:FnOk X.prog X.w X.K X.mg X.base CX k fI fd ps sp) (hr:Room (k+1) X.A) (hb:Binds X.K fd ps []) (hx:Passes CX X (fun _ _ _=>False)) (hg:Gl X x) (hm:X.mg x=some (.ref C))
  (hdb:(x==("__debug__" : Str))=false:=by decide):PMk X (.Call (.Name x p) [] [] pos) (tMkO C sp [] tNil):=by
 intro pins s σ H Q I h;refine Va (ld_glob I hg hm ?_ hdb);refine PySem.W.callWith_K0 I.kIn T.kC ?_
 exact zER b T iC tI F1 hr hb hx I .nil (by simp) fun a ha=>h.2 a ha
theorem pmkG1{x:Str}{e:Expr}{es:List Expr}{ta:TA}{p pos:Pos} (b:XB B newId initId tl) (T:OexG X.K C newId tl) (iC:PySem.W.findIn X.K (.ref C) "__init__" = some (some (.ref fI))) (tI:PySem.W.typeIn X.K (.ref fI)=some (.type "function"))
  (F1:FnOk X.prog X.w X.K X.mg X.base CX k fI fd ps sp) (hr:Room (k+1) X.A) (hb:Binds X.K fd ps []) (hx:Passes CX X (fun _ _ _=>False)) (hg:Gl X x) (hm:X.mg x=some (.ref C)) (ha:PA X (e::es) ta)
  (hdb:(x==("__debug__" : Str))=false:=by decide) (he:starEach (e::es) X.env=(false,eval e X.env)::starEach es X.env:=by rfl) (hpl:(backTo pos (starEach es X.env)).any (·.1)=false:=by rfl) :
  PMk X (.Call (.Name x p) (e::es) [] pos) (tMkO C sp [] ta):=by
 intro pins s σ H Q I h;refine Va (ld_glob I hg hm ?_ hdb);refine PySem.W.callWith_K (h₀:=X.base) I.ok.mod.kin T.kC (thn (ha.run pos pins s σ H _ I h) fun us s1 ⟨vs,H1,I1,r1,hz,q1⟩=>⟨I1.kIn,?_⟩) he hpl
 exact zER b T iC tI F1 hr hb hx I1 r1 hz fun a ha=>by
  have:=q1 a ha
  rwa [JW]at this
end
end
section
open PySem.W (ksEnv ksFn kxs_mw)
theorem zDB:XB "LookupError" "LookupError.__new__" "LookupError.__init__" [.type "LookupError",.type "Exception",.type "BaseException",.type "object"]:=⟨F.excBase_LookupError,F.store_LookupError,PySem.W.kxs_LookupError,⋯⟩
theorem zDZ:XB "IndexError" "IndexError.__new__" "IndexError.__init__" [.type "IndexError",.type "LookupError",.type "Exception",.type "BaseException",.type "object"]:=⟨F.excBase_IndexError,F.store_IndexError,PySem.W.kxs_IndexError,⋯⟩
def tGs0(newId:String) (tl:List Value) (K:PySem.W.Frag) (T:Str):TS:=tGst K newId tl "tag" (tVar 0) (tC (.str T))
def tGs1(newId:String) (tl:List Value) (K:PySem.W.Frag) (T g:Str):TS:=tSeq (tGst K newId tl "tag" (tVar 0) (tC (.str T))) (tGst K newId tl g (tVar 0) (tVar 1))
theorem zEl{newId:String}{tl:List Value}{K:PySem.W.Frag}{C:Addr}{T:Str}{H:Hp}{Q:XK} (O:OexG K C newId tl) (ht:PySem.W.findIn K (.ref C) "tag" = some none) (h:tExc C [("tag",.str T)] H Q){a:Addr} (ha:H a=none) :
  zCs ["self"] C (tGs0 newId tl K T) [.ref a] (upd H a (exo a C none)) (fun v H2=>v=.non∧∃(d:Addr) (fs:List (Str×V)),H2 a=some (exo a C (some d))∧H2 d=some (exd d fs)∧H d=none∧Q (.ref C) (some d) (upd (L2.del H2 a) d (.xd fs))) (fun _ _ _=>False):=by
 refine⟨rfl,a,[],rfl,Jf,⟨.ref a,rfl,a,C,rfl,O,ht,.inl ⟨Jf,fun d hd hne=>⟨rfl,d,[("tag",.str T)],Jf,?_,?_,?_⟩⟩⟩⟩
 ·rw[Jg hne,Jf]
 ·rwa [Jg hne]at hd
 ·rw[Jg hne]at hd;rw[zEO hne ha];exact h d hd
theorem zDr{newId:String}{tl:List Value}{K:PySem.W.Frag}{C:Addr}{T g:Str}{v:V}{H:Hp}{Q:XK}{pn:Str} (O:OexG K C newId tl) (ht:PySem.W.findIn K (.ref C) "tag" = some none) (hg:PySem.W.findIn K (.ref C) g=some none) (h:tExc C [(g,v),("tag",.str T)] H Q){a:Addr} (ha:H a=none) :
  zCs ["self",pn] C (tGs1 newId tl K T g) [.ref a,v] (upd H a (exo a C none)) (fun v H2=>v=.non∧∃(d:Addr) (fs:List (Str×V)),H2 a=some (exo a C (some d))∧H2 d=some (exd d fs)∧H d=none∧Q (.ref C) (some d) (upd (L2.del H2 a) d (.xd fs))) (fun _ _ _=>False):=by
 refine⟨rfl,a,[v],rfl,Jf,⟨.ref a,rfl,a,C,rfl,O,ht,.inl ⟨Jf,fun d hd hne=>⟨v,rfl,.ref a,rfl,a,C,rfl,O,hg,.inr ⟨d,[("tag",.str T)],Jf,?_,by simp,rfl,d,[(g,v),("tag",.str T)],?_,Jf,?_,?_⟩⟩⟩⟩⟩
 ·rw[Jg hne,Jf]
 ·rw[Jg (VQ hne),Jf]
 ·rwa [Jg hne]at hd
 ·rw[Jg hne]at hd
  have e:upd (L2.del (upd (upd (upd (upd H a (exo a C none)) d (exd d [("tag",V.str T)])) a (exo a C (some d))) d (exd d [(g,v),("tag",.str T)])) a) d (.xd [(g,v),("tag",.str T)])=upd H d (.xd [(g,v),("tag",.str T)]):=by
   funext b
   by_cases h:b=d
   ·subst h;rw[Jf,Jf]
   ·rw[Jg h,Jg h]
    by_cases h2:b=a
    ·subst h2;rw[del_same,ha]
    ·rw[del_ne h2,Jg h,Jg h2,Jg h,Jg h2]
  rw[e];exact h d hd
structure zH8 (P:Program) (w:World) (K:PySem.W.Frag) (mg:Str→Option Value) (base:Heap) (cl:Cls) (k c:Nat) (C:Addr) (T:Str):Prop where
 at_:cl[c]?=some (C,[("tag" : Str)])
 tag:PySem.W.findIn K (.ref C) "tag" = some none
 ex:∃B newId initId tl fI fd,XB B newId initId tl∧OexG K C newId tl∧PySem.W.findIn K (.ref C) "__init__" = some (some (.ref fI))∧PySem.W.typeIn K (.ref fI)=some (.type "function")∧FnOk P w K mg base CX0 k fI fd ["self"] (zCs ["self"] C (tGs0 newId tl K T))∧L2.Binds K fd ["self"] []
structure zCv (P:Program) (w:World) (K:PySem.W.Frag) (mg:Str→Option Value) (base:Heap) (cl:Cls) (k c:Nat) (C:Addr) (T f pn:Str):Prop where
 at_:cl[c]?=some (C,[f,("tag" : Str)])
 tag:PySem.W.findIn K (.ref C) "tag" = some none
 fld:PySem.W.findIn K (.ref C) f=some none
 ex:∃B newId initId tl fI fd,XB B newId initId tl∧OexG K C newId tl∧PySem.W.findIn K (.ref C) "__init__" = some (some (.ref fI))∧PySem.W.typeIn K (.ref fI)=some (.type "function")∧FnOk P w K mg base CX0 k fI fd ["self",pn] (zCs ["self",pn] C (tGs1 newId tl K T f))∧L2.Binds K fd ["self",pn] []
section
variable {K:PySem.W.Frag}{cl:Cls}{X:Cx}{Wx:WX}{E0:En}{ρ ρ':List Addr}{G G':Hp}{σ:Sg}{τ:L2.St}{st:List Cell}{H:Hp}{D:Ends}
theorem zH0{C:Addr}{k c:Nat}{tg x:Str}{p pos:Pos} (B:zH8 X.prog X.w X.K X.mg X.base cl k c C tg) (g:GX K X) (hr:Room (k+1) X.A) (hg:Gl X x) (hm:X.mg x=some (.ref C)) (hdb:(x==("__debug__" : Str))=false) :
  SE K cl X Wx (zCk c tg) (.Call (.Name x p) [] [] pos):=by
 obtain⟨hK,hc,_⟩:=g;subst hK;obtain⟨_,_,_,_,fI,fd,xb,og,h1,h2,h3,h4⟩:=B.ex;refine⟨fun E0 ρ G σ st τ H Q R S h=>T.of (pe_mk (pmkG0 xb og h1 h2 h3 hr h4 pass0 hg hm hdb)) ?_⟩
 have e:=zCr (vs:=[.str tg]) B.at_ rfl R (.cons (.str tg) .nil) h;exact⟨JY _,fun a ha=>zEl og B.tag e ha⟩
theorem zHi{C:Addr}{k c:Nat}{tg f pn x:Str}{p pos:Pos}{a:EM}{e:Expr} (B:zCv X.prog X.w X.K X.mg X.base cl k c C tg f pn) (g:GX K X) (hr:Room (k+1) X.A) (hg:Gl X x) (hm:X.mg x=some (.ref C)) (ha:SE K cl X Wx a e)
  (hdb:(x==("__debug__" : Str))=false) (he:starEach [e] X.env=(false,eval e X.env)::starEach [] X.env:=by rfl) (hpl:(backTo pos (starEach [] X.env)).any (·.1)=false:=by rfl) :
  SE K cl X Wx (zBR c a tg) (.Call (.Name x p) [e] [] pos):=by
 obtain⟨hK,hc,_⟩:=g;subst hK;obtain⟨_,_,_,_,fI,fd,xb,og,h1,h2,h3,h4⟩:=B.ex;refine⟨fun E0 ρ G σ st τ H Q R S h=>T.of (pe_mk (pmkG1 xb og h1 h2 h3 hr h4 pass0 hg hm (Vr T.pe pa_nil he) hdb he hpl)) ?_⟩
 refine ha.run E0 ρ G σ st τ H _ R S (Aft.seq h fun w st1 ρ1 G1 H1 v e1 p1 s1 R1 u1 h'=>?_)
 split at h'
 case h_2=>exact h'.elim
 have en:=zCr (vs:=[v,.str tg]) B.at_ rfl R1 (.cons u1 (.cons (.str tg) .nil)) h';exact⟨by simp,fun y hy=>zDr og B.tag B.fld en hy⟩
end
end
section
open PySem.W (ksFn ksEnv)
theorem zDw{tl:List Value}:∀ {l:List Value},zH3 l=tl→∃rs,l=ownB rs tl
 |[],h=>⟨[],h⟩
 | .ref c::r,h=>by
  obtain⟨rs,e⟩:=zDw (l:=r) h;exact⟨c::rs,by rw[e];rfl⟩
 | .none::_,h=>⟨[],h⟩
 | .ellipsis::_,h=>⟨[],h⟩
 | .notImplemented::_,h=>⟨[],h⟩
 | .bool _::_,h=>⟨[],h⟩
 | .int _ _::_,h=>⟨[],h⟩
 | .float _ _::_,h=>⟨[],h⟩
 | .str _ _::_,h=>⟨[],h⟩
 | .bytes _ _::_,h=>⟨[],h⟩
 | .type _::_,h=>⟨[],h⟩
 | .builtin _::_,h=>⟨[],h⟩
theorem zEP{newId:String}{tl:List Value}{K:PySem.W.Frag}{C:Addr} (h:zHV newId tl K C=true):OexG K C newId tl:=by
 unfold zHV at h;simp only[Jh,Jx]at h;obtain⟨⟨⟨⟨h1,h2⟩,h3⟩,h4⟩,h5⟩:=h;refine⟨?_,JJ h2,h3,h4,h5⟩;cases q:K.lookup C with
 |none=>rw[q]at h1;cases h1
 |some o =>
  rw[q]at h1;obtain⟨oc,od,dt,osl⟩:=o
  replace h1:zHb newId tl C oc dt osl.toList=true:=h1
  unfold zHb at h1;split at h1
  case h_2=>cases h1
  rename_i cd
  split at h1
  case h_2=>cases h1
  rename_i c bm k0 k1 k2 k3 n k5 hm hs
  simp only[Jh,Jx,Vc]at h1;obtain⟨⟨⟨⟨rfl,rfl⟩,g3⟩,g4⟩,g5⟩:=h1;obtain⟨c1,c2,c3,c4,c5,c6,c7,c8,c9,c10,c11⟩:=cd;dsimp only at hm g3 g4;subst hm g3 g4
  obtain rfl:osl = #[k0,k1,k2,k3,some (.builtin n),k5]:=by
   obtain⟨l⟩:=osl;simp only at hs;rw[hs]
  obtain⟨rs,rfl⟩:=zDw (beq_iff_eq.mp g5);exact⟨_,_,_,_,rs,_,_,_,_,_,_,_,_,_,_,rfl⟩
section
variable {P:Program}{w:World}{K:PySem.W.Frag}{mg:Str→Option Value}{base:Heap}{cl:Cls}{x z:Str}{g:Option Str}{B newId initId:String}{tl:List Value}
theorem zCx(pf:FileOf P z) (h:zA9 B newId initId tl K x z g=true){d:DefE} (hat:d.at_=fun K=>He.ma K (He.ga K x) "__init__") (hn:d.name = "__init__") (hclo:d.clo=[("__class__" : Str)]) (e:fnE K (d.at_ K)=d.val) (c:d.okB K=true) (hsup:mg "super" = none)
  (hpar:∃ar,(d.params.posonlyargs++d.params.args).head?=some ar∧ar.arg=("self" : Str)) :
  ∃(cc cda:Addr) (fd:FuncData),SayG B newId initId tl P K mg (He.ga K x) (He.ma K (He.ga K x) "__init__") cc cda "__init__" d.qual d.params d.body d.scope fd∧∃kV doc pm an cdv ct,fd=ksFn "__init__" d.qual d.params d.body d.scope .none kV doc pm an cdv ct cc:=by
 unfold zA9 at h;simp only[Jh,Jx]at h;obtain⟨⟨⟨⟨⟨⟨⟨⟨⟨⟨h1,h2⟩,h3⟩,h4⟩,h5⟩,h6⟩,h7⟩,h8⟩,h9⟩,h10⟩,h11⟩:=h;obtain⟨oc,od,osl,clo,dV,kV,doc,pm,cdv,ct,an,k1,k2,k3,k4,k5,k6⟩:=DefE.ex e c;rw[hclo]at k2;rw[hat]at k1 k3
 obtain⟨q,rfl,eq⟩:∃q:Str×Addr,clo=[q]∧q.1=("__class__" : Str):=by
  cases clo with
  |nil=>cases k2
  |cons q l =>
   cases l with
   |nil=>exact⟨q,rfl,by simpa using k2⟩
   |cons _ _=>simp at k2
 obtain⟨cn,cc⟩:=q;dsimp only at eq;subst eq;have k1:K.lookup (He.ma K (He.ga K x) "__init__")=_:=k1;unfold zGH at h7;rw[k1]at h7;obtain⟨cda,rfl⟩:=He.codeIn_ref k4;have h7:(zEe K cc (He.ga K x)&&zEc K cda z)=true:=h7;rw[Jh]at h7;obtain⟨h13,h12⟩:=h7
 obtain rfl:dV=.none:=by
  rcases k5 with⟨_,q⟩|⟨q,_⟩
  ·exact q
  ·exact absurd rfl q
 refine⟨cc,cda,_,⟨zEP h1,⟨oc,od,.none,kV,doc,pm,an,ct,osl,rfl,?_⟩,k4,?_,hpar,?_,pf.top,hsup,JJ h8,h9,h10,JJ h11⟩,kV,doc,pm,an,.ref cda,ct,rfl⟩
 ·rw[k1,hn]
 ·exact zEK h13
 ·obtain⟨o1,o2,vs,o3,tf,e1,e2⟩:=zEM h12;exact⟨o1,o2,vs,o3,z,tf,e1,e2,pf.file⟩
theorem zBl(h:zA9 B newId initId tl K x z g=true):OexG K (He.ga K x) newId tl∧XfC K (He.ga K x)∧PySem.W.findIn K (.ref (He.ga K x)) "tag" = some none∧(∀f,g=some f→(f==("tag" : Str))=false∧PySem.W.findIn K (.ref (He.ga K x)) f=some none) ∧
  PySem.W.findIn K (.ref (He.ga K x)) "__init__" = some (some (.ref (He.ma K (He.ga K x) "__init__")))∧PySem.W.typeIn K (.ref (He.ma K (He.ga K x) "__init__"))=some (.type "function"):=by
 unfold zA9 at h;simp only[Jh,Jx]at h;obtain⟨⟨⟨⟨⟨⟨⟨⟨⟨⟨h1,h2⟩,h3⟩,h4⟩,h5⟩,h6⟩,h7⟩,h8⟩,h9⟩,h10⟩,h11⟩:=h;refine⟨zEP h1,xfB_ok h2,JJ h3,fun f hf=>?_,JJ h5,h6⟩
 subst hf;have h4:(He.eqO (PySem.W.findIn K (.ref (He.ga K x)) f) (some none) && !(f==("tag" : Str)))=true:=h4;rw[Jh,Vc]at h4;exact⟨h4.2,JJ h4.1⟩
theorem zGe(xb:XB B newId initId tl){c j j2:Nat}{T m:Str}{p0 p1 p2 p3 p4 p5 q1 q2 q3 q4:Pos}{qual:Str}{params:Arguments}{scope:Scope} (pf:FileOf P z) (h:zA9 B newId initId tl K x z none=true) (hsup:mg "super" = none) (hC:cl[c]?=some (He.ga K x,[("tag" : Str)]))
  (dd:(⟨fun K=>He.ma K (He.ga K x) "__init__", "__init__",qual,params,[.Expr (zAN m j p0 p1 p2 p3 p4) p5,.Assign [.Attribute (.Name "self" q1) "tag" q2] (.Constant (.str T) j2 q3) q4],scope,[("__class__" : Str)]⟩:DefE).okB K=true)
  (de:fnE K (He.ma K (He.ga K x) "__init__")=(⟨fun K=>He.ma K (He.ga K x) "__init__", "__init__",qual,params,[.Expr (zAN m j p0 p1 p2 p3 p4) p5,.Assign [.Attribute (.Name "self" q1) "tag" q2] (.Constant (.str T) j2 q3) q4],scope,[("__class__" : Str)]⟩:DefE).val)
  (hpar:∃ar,(params.posonlyargs++params.args).head?=some ar∧ar.arg=("self" : Str)) (S:zCf ["self"] scope) (up:zDt qual scope m j p0 p1 p2 p3 p4 p5)
  (bd:∀(kV doc pm:Value) (an:Option Addr) (cdv ct:Value) (cc:Addr) (us:List Value),us.length=1→bindArgs (ksFn "__init__" qual params [.Expr (zAN m j p0 p1 p2 p3 p4) p5,.Assign [.Attribute (.Name "self" q1) "tag" q2] (.Constant (.str T) j2 q3) q4] scope .none kV doc pm an cdv ct cc) ⟨us,[]⟩=pure ([("self" : Str)].zip us))
  (hs:∀X:Cx,swapsWith (.Constant (.str T) j2 q3) (some (.Attribute (.Name "self" q1) "tag" q2)) q4.line X.env=pure false) :
  zH8 P w K mg base cl 1 c (He.ga K x) T:=by
 obtain⟨cc,cda,fd,D,kV,doc,pm,an,cdv,ct,rfl⟩:=zCx (mg:=mg) pf h rfl rfl rfl de dd hsup hpar;obtain⟨e1,e2,e3,e4,e5,e6⟩:=zBl h;obtain⟨pl,hup⟩:=up (He.ma K (He.ga K x) "__init__") cda cc;refine⟨hC,e3,_,_,_,_,_,_,xb,e1,e5,e6,zDx xb (k:=0) (pl:=pl) rfl D S (fun L=>(hup L).1) (fun L=>(hup L).2.1) (fun L=>(hup L).2.2) (fun A outer s H=>?_),.all fun us hl=>bd kV doc pm an cdv ct cc us hl⟩
 exact VS (zDh xb (VR (i:=0) rfl (.inl (S.par _ Ji)) ⋯ ⋯) pe_str (hs _))
theorem zGo(xb:XB B newId initId tl){c j j2:Nat}{T m f pn:Str}{p0 p1 p2 p3 p4 p5 q1 q2 q3 q4 q5 q6 q7 q8:Pos}{qual:Str}{params:Arguments}{scope:Scope} (pf:FileOf P z) (h:zA9 B newId initId tl K x z (some f)=true) (hsup:mg "super" = none) (hC:cl[c]?=some (He.ga K x,[f,("tag" : Str)]))
  (dd:(⟨fun K=>He.ma K (He.ga K x) "__init__", "__init__",qual,params,[.Expr (zAN m j p0 p1 p2 p3 p4) p5,.Assign [.Attribute (.Name "self" q1) "tag" q2] (.Constant (.str T) j2 q3) q4,.Assign [.Attribute (.Name "self" q5) f q6] (.Name pn q7) q8],scope,[("__class__" : Str)]⟩:DefE).okB K=true)
  (de:fnE K (He.ma K (He.ga K x) "__init__")=(⟨fun K=>He.ma K (He.ga K x) "__init__", "__init__",qual,params,[.Expr (zAN m j p0 p1 p2 p3 p4) p5,.Assign [.Attribute (.Name "self" q1) "tag" q2] (.Constant (.str T) j2 q3) q4,.Assign [.Attribute (.Name "self" q5) f q6] (.Name pn q7) q8],scope,[("__class__" : Str)]⟩:DefE).val)
  (hpar:∃ar,(params.posonlyargs++params.args).head?=some ar∧ar.arg=("self" : Str)) (S:zCf ["self",pn] scope) (up:zDt qual scope m j p0 p1 p2 p3 p4 p5) (d1:(pn==("__debug__" : Str))=false) (d2:(pn==("__classdict__" : Str))=false)
  (bd:∀(kV doc pm:Value) (an:Option Addr) (cdv ct:Value) (cc:Addr) (us:List Value),us.length=2→bindArgs (ksFn "__init__" qual params [.Expr (zAN m j p0 p1 p2 p3 p4) p5,.Assign [.Attribute (.Name "self" q1) "tag" q2] (.Constant (.str T) j2 q3) q4,.Assign [.Attribute (.Name "self" q5) f q6] (.Name pn q7) q8] scope .none kV doc pm an cdv ct cc) ⟨us,[]⟩=pure ([("self" : Str),pn].zip us))
  (hs:∀X:Cx,swapsWith (.Constant (.str T) j2 q3) (some (.Attribute (.Name "self" q1) "tag" q2)) q4.line X.env=pure false) (hs2:∀X:Cx,swapsWith (.Name pn q7) (some (.Attribute (.Name "self" q5) f q6)) q8.line X.env=pure false) :
  zCv P w K mg base cl 1 c (He.ga K x) T f pn:=by
 obtain⟨cc,cda,fd,D,kV,doc,pm,an,cdv,ct,rfl⟩:=zCx (mg:=mg) pf h rfl rfl rfl de dd hsup hpar;obtain⟨e1,e2,e3,e4,e5,e6⟩:=zBl h;obtain⟨pl,hup⟩:=up (He.ma K (He.ga K x) "__init__") cda cc;refine⟨hC,e3,(e4 f rfl).2,_,_,_,_,_,_,xb,e1,e5,e6,zDx xb (k:=0) (pl:=pl) rfl D S (fun L=>(hup L).1) (fun L=>(hup L).2.1) (fun L=>(hup L).2.2) (fun A outer s H=>?_),.all fun us hl=>bd kV doc pm an cdv ct cc us hl⟩
 have v0:∀p,PE (ccx P w K mg base ["self",pn] qual scope (He.ma K (He.ga K x) "__init__") cc (.ref cda) A outer s H) (.Name "self" p) (tVar 0):=fun p=>VR (i:=0) rfl (.inl (S.par _ Ji)) ⋯ ⋯
 have v1:∀p,PE (ccx P w K mg base ["self",pn] qual scope (He.ma K (He.ga K x) "__init__") cc (.ref cda) A outer s H) (.Name pn p) (tVar 1):=fun p=>VR (i:=1) rfl (.inl (S.par _ (Jy _ Ji))) d1 d2
 exact pss_cons (zDh xb (v0 _) pe_str (hs _)) (VS (zDh xb (v0 _) (v1 _) (hs2 _)))
end
end
section
open PySem.W PySem.Calls PySem.HandSPX Builtin Builtin.ObjectAttr
variable {M:Model}{prog:Program}{w:World}{A:Around}{Z:Value→Shared→Prop}{R:Result→Shared→Prop}{h:Heap}{g:Array GenState}{d:Drawn}{t:Nat}{os:OsState}
variable {nm q:Str}{C N:Addr}{bs bm bmB:List Value}{hdct:Bool}{sn:List Str}{sub:List Value}{ab:Bool}{col:Option Bool}{dd:Option Addr}{k0 k1 k2 k3 k5:Option Value}{B newId initId:String}{kn:Str}{kv:Value}
theorem zD0(F:ExcBaseFacts B newId initId bmB) (hT:∀X:String,bm.contains (.type X)=bmB.contains (.type X)){Q:Unit→Shared→Prop}
  (hC:h.get? C=some (excClassObj nm q C N bs bm hdct sn sub ab col dd k0 k1 k2 k3 k5 newId)) (hq:Q () ⟨h,g,d,t,os⟩):wpAny M A (checkBuiltinCall newId ⟨[.ref C],[(kn,kv)]⟩) Q Z ⟨h,g,d,t,os⟩:=by
 have has:(Value.ref C::bm).contains (.type B)=true:=by rw[JU,hT,F.hasB,Bool.or_true]
 have star:=F.noStar;simp only[checkBuiltinCall,F.newKind,F.newSplit,F.newRow]
 repeat (first|refine JF hC ?_|(refine Vk hC ?_;rw[has])|refine wpAny_staticBase_exc hC ?_|refine wpAny_madeBy_exc hC ?_|simp only[bne_self_eq_false,Bool.false_eq_true,if_false]|wp_step)
 exact hq
theorem kwNew(F:ExcBaseFacts B newId initId bmB) (hT:∀X:String,bm.contains (.type X)=bmB.contains (.type X))
  (hC:h.get? C=some (excClassObj nm q C N bs bm hdct sn sub ab col dd k0 k1 k2 k3 k5 newId))
  (hq:R (.ok (.ret (.ref (h.objs.size+1)))) ⟨(h.push { cls:=.type "tuple",data:=.seq #[] }).push { cls:=.ref C,data:=.fields #[.ref h.objs.size,.none,.none,.none,.bool false,.none] },g,d,t,os⟩) :
  codeAny (model prog w) A (.builtin newId ⟨[.ref C],[(kn,kv)]⟩) R ⟨h,g,d,t,os⟩:=by
 have ends:=F.ends;have y1:(Value.ref C::bm).contains (.type B)=true:=by rw[JU,hT,F.hasB,Bool.or_true]
 have y2:(Value.ref C::bm).contains (.type "AttributeError")=false:=by rw[JU,hT,F.noAttr];rfl
 have y3:(Value.ref C::bm).contains (.type "NameError")=false:=by rw[JU,hT,F.noName];rfl
 refine codeAny_builtinAt F.entry ?_
 unfold Builtin.«BaseException.__new__»;refine PySem.wpAt_bind ?_
 show PySem.wpAt _ _ _ (stack >>= _) _ _ _;refine PySem.wpAt_bind (PySem.wpAt_stack fun p below=>PySem.wpAt_of_wpAny ?_)
 wp_walk
 refine PySem.wpAt_of_wpAny ?_
 rw[F.owner]
 repeat (first|with_reducible refine wpAny_madeHere_exc F.canon hC ?_|with_reducible refine JF hC ?_|(with_reducible refine Vk hC ?_;first|rw[y1]|rw[y2]|rw[y3])|wp_step)
 show R _ _;rw[Heap.size_push];exact hq
theorem zGE{Q:Unit→Shared→Prop} (hC:h.get? C=some (excClassObj nm q C N bs bm hdct sn sub ab col dd k0 k1 k2 k3 k5 newId)) (hq:Q () ⟨h,g,d,t,os⟩):wpAny M A (checkBuiltinCall "type.__call__" ⟨[.ref C],[(kn,kv)]⟩) Q Z ⟨h,g,d,t,os⟩:=by
 have f3:=tc_sub;have ty:(⟨h,g,d,t,os⟩:Shared).TypeIs (.ref C) "type" := ⟨_,hC,rfl⟩;simp only[checkBuiltinCall,tc_kind,tc_split]
 repeat (any_goals (first|assumption|with_reducible refine JF hC ?_|with_reducible refine wpAny_onRaise ?_|with_reducible refine wpAny_map ?_|wp_step))
theorem zEi(F:ExcBaseFacts B newId initId bmB) (hT:∀X:String,bm.contains (.type X)=bmB.contains (.type X)){fI:Addr}{Q:Fin→Shared→Prop}
  (hC:h.get? C=some (excClassObj nm q C N bs bm hdct sn sub ab col dd k0 k1 k2 k3 k5 newId))
  (hi:W.Looks (model prog w) h (typeLookup (.ref C) "__init__") (some (.ref fI))) (hb:∀self,W.Looks (model prog w) h (bindSpecial (.ref fI) self) (.ref fI,[self]))
  (hq:codeAny (model prog w) A (.call (.ref fI) ⟨[.ref (h.objs.size+1)],[(kn,kv)]⟩)
   (fun r s'=>match r with | .ok (.ret v)=>v=.none∧Q (.done (.ret (.ref (h.objs.size+1)))) s' | .ok _=>False | .error e=>Z e s')
   ⟨(h.push (W.kdv_tup [])).push (excO C h.objs.size),g,d,t,os⟩) :
  wpAny (model prog w) A (Builtin.«type.__call__» ⟨[.ref C],[(kn,kv)]⟩) Q Z ⟨h,g,d,t,os⟩:=by
 repeat (first|with_reducible refine JF hC ?_|with_reducible refine wpAny_madeBy_exc hC ?_|wp_step)
 refine codeAny_call_builtin_code (Vp _ F.quiet) (zD0 F hT hC ?_);refine kwNew F hT hC ?_
 show wpAny _ _ _ _ _ _;have kp:∀b o,h.get? b=some o→((h.push (W.kdv_tup [])).push (excO C h.objs.size)).get? b=some o:=fun b o e=>Jc _ (Jc _ e)
 have hC1:=kp _ _ hC;have new:((h.push (W.kdv_tup [])).push (excO C h.objs.size)).get? (h.objs.size+1)=some (excO C h.objs.size):=by heap_get
 have self:(Value.ref C::bm).contains (.ref C)=true:=by simp
 have i1:=hi.keeps kp;have b1:=(hb (.ref (h.objs.size+1))).keeps kp;unfold isInstance
 repeat (first|with_reducible refine JF new ?_|(with_reducible refine Vk hC1 ?_;rw[self])|wp_step)
 show wpAny _ _ (typeLookup (.ref C) _) _ _ _;refine i1.at ?_
 refine wpAny_holding (JE (b1.at ?_));refine JE (Vx (Vq hq fun r s' z=>?_))
 rcases r with e|(v|_|_|_)<;>first|exact z|exact z.elim|skip
 obtain⟨rfl,z⟩:=z
 first
  |exact J6 (J6 z)
  |(wp_walk;exact z)
theorem kwCall(F:ExcBaseFacts B newId initId bmB) (hT:∀X:String,bm.contains (.type X)=bmB.contains (.type X)){fI:Addr}
  (hC:h.get? C=some (excClassObj nm q C N bs bm hdct sn sub ab col dd k0 k1 k2 k3 k5 newId))
  (hi:W.Looks (model prog w) h (typeLookup (.ref C) "__init__") (some (.ref fI))) (hb:∀self,W.Looks (model prog w) h (bindSpecial (.ref fI) self) (.ref fI,[self]))
  (hq:codeAny (model prog w) (A.under (.builtin "type.__call__" ⟨[.ref C],[(kn,kv)]⟩)) (.call (.ref fI) ⟨[.ref (h.objs.size+1)],[(kn,kv)]⟩) (W.InitBack (h.objs.size+1) R)
   ⟨(h.push (W.kdv_tup [])).push (excO C h.objs.size),g,d,t,os⟩) :
  codeAny (model prog w) A (.call (.ref C) ⟨[],[(kn,kv)]⟩) R ⟨h,g,d,t,os⟩:=by
 have f1:=tc_lookup;have f2:=tc_bind (.ref C);have ty:(⟨h,g,d,t,os⟩:Shared).TypeIs (.ref C) "type" := ⟨_,hC,rfl⟩;refine VJ ?_
 show wpAny _ _ (callAny (.ref C) _) _ _ _
 repeat (any_goals (first|assumption|with_reducible refine JF hC ?_|wp_step))
 refine⟨rfl,?_⟩;refine codeAny_call_builtin_at (Vp _ ⋯) entry_typeCall (zGE hC (zEi F hT hC hi hb ?_));refine Vq hq fun r s' z=>?_
 rcases r with e|(v|_|_|_)<;>exact z
end
section
open PySem.W (ksEnv ksFn kxs_mw)
theorem zAb:XB "ValueError" "ValueError.__new__" "ValueError.__init__" [.type "ValueError",.type "Exception",.type "BaseException",.type "object"]:=⟨JL,F.store_ValueError,PySem.W.kxs_ValueError,⋯⟩
abbrev KB1(K:PySem.W.Frag) (fd:FuncData) (pn:Str):Prop:=KBn K fd ["self",pn] 1 [pn] (fun us ws=>us++ws) (fun vs zs=>vs++zs)
theorem kb_of{K:PySem.W.Frag}{fd:FuncData}{pn:Str} (h:∀u v:Value,bindArgs fd ⟨[u],[(pn,v)]⟩=pure [(("self" : Str),u),(pn,v)]):KB1 K fd pn:=by
 refine⟨fun s us ws _ h1 h2=>?_,fun r1 r2=>r1.append r2⟩
 obtain⟨u,rfl⟩:∃u,us=[u]:=List.length_eq_one_iff.mp h1;obtain⟨v,rfl⟩:∃v,ws=[v]:=List.length_eq_one_iff.mp h2;refine L2.BindsTo.of_looks fun M=>?_
 show PySem.W.Looks M s.heap (bindArgs fd ⟨[u],[(pn,v)]⟩) [(("self" : Str),u),(pn,v)];rw[h u v];exact .now
structure zBx (P:Program) (w:World) (K:PySem.W.Frag) (mg:Str→Option Value) (base:Heap) (cl:Cls) (k c:Nat) (C:Addr) (T f pn:Str):Prop where
 at_:cl[c]?=some (C,[f,("tag" : Str)])
 tag:PySem.W.findIn K (.ref C) "tag" = some none
 fld:PySem.W.findIn K (.ref C) f=some none
 ex:∃B newId initId tl fI fd,XB B newId initId tl∧OexG K C newId tl∧PySem.W.findIn K (.ref C) "__init__" = some (some (.ref fI))∧PySem.W.typeIn K (.ref fI)=some (.type "function")∧FnOk P w K mg base CX0 k fI fd ["self",pn] (zCs ["self",pn] C (tGs1 newId tl K T f))∧L2.Binds K fd ["self",pn] []∧KB1 K fd pn
theorem zBx.to{P:Program}{w:World}{K:PySem.W.Frag}{mg:Str→Option Value}{base:Heap}{cl:Cls}{k c:Nat}{C:Addr}{T f pn:Str} (h:zBx P w K mg base cl k c C T f pn):zCv P w K mg base cl k c C T f pn:=by
 obtain⟨B,a,b,tl,fI,fd,h1,h2,h3,h4,h5,h6,_⟩:=h.ex;exact⟨h.at_,h.tag,h.fld,B,a,b,tl,fI,fd,h1,h2,h3,h4,h5,h6⟩
section
variable {P:Program}{w:World}{K:PySem.W.Frag}{mg:Str→Option Value}{base:Heap}{cl:Cls}{x z:Str}{g:Option Str}{B newId initId:String}{tl:List Value}
theorem zBS(xb:XB B newId initId tl){c j j2:Nat}{T m f pn:Str}{p0 p1 p2 p3 p4 p5 q1 q2 q3 q4 q5 q6 q7 q8:Pos}{qual:Str}{params:Arguments}{scope:Scope} (pf:FileOf P z) (h:zA9 B newId initId tl K x z (some f)=true) (hsup:mg "super" = none) (hC:cl[c]?=some (He.ga K x,[f,("tag" : Str)]))
  (dd:(⟨fun K=>He.ma K (He.ga K x) "__init__", "__init__",qual,params,[.Expr (zAN m j p0 p1 p2 p3 p4) p5,.Assign [.Attribute (.Name "self" q1) "tag" q2] (.Constant (.str T) j2 q3) q4,.Assign [.Attribute (.Name "self" q5) f q6] (.Name pn q7) q8],scope,[("__class__" : Str)]⟩:DefE).okB K=true)
  (de:fnE K (He.ma K (He.ga K x) "__init__")=(⟨fun K=>He.ma K (He.ga K x) "__init__", "__init__",qual,params,[.Expr (zAN m j p0 p1 p2 p3 p4) p5,.Assign [.Attribute (.Name "self" q1) "tag" q2] (.Constant (.str T) j2 q3) q4,.Assign [.Attribute (.Name "self" q5) f q6] (.Name pn q7) q8],scope,[("__class__" : Str)]⟩:DefE).val)
  (hpar:∃ar,(params.posonlyargs++params.args).head?=some ar∧ar.arg=("self" : Str)) (S:zCf ["self",pn] scope) (up:zDt qual scope m j p0 p1 p2 p3 p4 p5) (d1:(pn==("__debug__" : Str))=false) (d2:(pn==("__classdict__" : Str))=false)
  (bd:∀(kV doc pm:Value) (an:Option Addr) (cdv ct:Value) (cc:Addr) (us:List Value),us.length=2→bindArgs (ksFn "__init__" qual params [.Expr (zAN m j p0 p1 p2 p3 p4) p5,.Assign [.Attribute (.Name "self" q1) "tag" q2] (.Constant (.str T) j2 q3) q4,.Assign [.Attribute (.Name "self" q5) f q6] (.Name pn q7) q8] scope .none kV doc pm an cdv ct cc) ⟨us,[]⟩=pure ([("self" : Str),pn].zip us))
  (kb:∀(kV doc pm:Value) (an:Option Addr) (cdv ct:Value) (cc:Addr) (u v:Value),bindArgs (ksFn "__init__" qual params [.Expr (zAN m j p0 p1 p2 p3 p4) p5,.Assign [.Attribute (.Name "self" q1) "tag" q2] (.Constant (.str T) j2 q3) q4,.Assign [.Attribute (.Name "self" q5) f q6] (.Name pn q7) q8] scope .none kV doc pm an cdv ct cc) ⟨[u],[(pn,v)]⟩=pure [(("self" : Str),u),(pn,v)])
  (hs:∀X:Cx,swapsWith (.Constant (.str T) j2 q3) (some (.Attribute (.Name "self" q1) "tag" q2)) q4.line X.env=pure false) (hs2:∀X:Cx,swapsWith (.Name pn q7) (some (.Attribute (.Name "self" q5) f q6)) q8.line X.env=pure false) :
  zBx P w K mg base cl 1 c (He.ga K x) T f pn:=by
 obtain⟨cc,cda,fd,D,kV,doc,pm,an,cdv,ct,rfl⟩:=zCx (mg:=mg) pf h rfl rfl rfl de dd hsup hpar;obtain⟨e1,e2,e3,e4,e5,e6⟩:=zBl h;obtain⟨pl,hup⟩:=up (He.ma K (He.ga K x) "__init__") cda cc;refine⟨hC,e3,(e4 f rfl).2,_,_,_,_,_,_,xb,e1,e5,e6,zDx xb (k:=0) (pl:=pl) rfl D S (fun L=>(hup L).1) (fun L=>(hup L).2.1) (fun L=>(hup L).2.2) (fun A outer s H=>?_),.all fun us hl=>bd kV doc pm an cdv ct cc us hl,kb_of fun u v=>kb kV doc pm an cdv ct cc u v⟩
 have v0:∀p,PE (ccx P w K mg base ["self",pn] qual scope (He.ma K (He.ga K x) "__init__") cc (.ref cda) A outer s H) (.Name "self" p) (tVar 0):=fun p=>VR (i:=0) rfl (.inl (S.par _ Ji)) ⋯ ⋯
 have v1:∀p,PE (ccx P w K mg base ["self",pn] qual scope (He.ma K (He.ga K x) "__init__") cc (.ref cda) A outer s H) (.Name pn p) (tVar 1):=fun p=>VR (i:=1) rfl (.inl (S.par _ (Jy _ Ji))) d1 d2
 exact pss_cons (zDh xb (v0 _) pe_str (hs _)) (VS (zDh xb (v0 _) (v1 _) (hs2 _)))
end
section
variable {X:Cx}{B newId initId:String}{tl:List Value}{C fI:Addr}{k:Nat}{fd:FuncData}{sp:Sp}{CX:CXT}{pn:Str}
theorem zEV(b:XB B newId initId tl) (T:OexG X.K C newId tl) (iC:PySem.W.findIn X.K (.ref C) "__init__" = some (some (.ref fI))) (tI:PySem.W.typeIn X.K (.ref fI)=some (.type "function"))
  (F1:FnOk X.prog X.w X.K X.mg X.base CX k fI fd ["self",pn] sp) (hr:Room (k+1) X.A) (hb:KB1 X.K fd pn) (hx:Passes CX X (fun _ _ _=>False)){pins:List (Addr×Obj)}{σ:L2.St}{H:Hp}{s:Shared}{v:V}{u:Value}{Q:XK}
  (I:Inv X pins σ H s) (r:RelV v u)
  (q1:∀a,H a=none→sp [.ref a,v] (upd H a (exo a C none)) (fun v H2=>v=.non∧∃(d:Addr) (fs:List (Str×V)),H2 a=some (exo a C (some d))∧H2 d=some (exd d fs)∧H d=none∧Q (.ref C) (some d) (upd (L2.del H2 a) d (.xd fs))) (fun _ _ _=>False)) :
  wpAny (model X.prog X.w) X.A (call (.ref C) [] [(pn,u)]) (MkP X pins σ Q) X.xe s:=by
 obtain⟨nm,q,N,bs,rs,sn,sub,ab,col,dd,k0,k1,k2,k3,k5,hC⟩:=T.cls;obtain⟨hp,g,dr,tk,os⟩:=s;have up:hp.objs.size≤hp.objs.size+1:=Nat.le_succ _;have free:H (hp.objs.size+1)=none:=I.hok.fresh up;have hq:=q1 (hp.objs.size+1) free;have keep:∀c o,hp.get? c=some o→((hp.push (PySem.W.kdv_tup [])).push (PySem.HandSPX.excO C hp.objs.size)).get? c=some o:=fun c o e=>Jc _ (Jc _ e)
 have new:((hp.push (PySem.W.kdv_tup [])).push (PySem.HandSPX.excO C hp.objs.size)).get? (hp.objs.size+1)=some (PySem.HandSPX.excO C hp.objs.size):=by heap_get
 have J:Inv X pins σ (upd H (hp.objs.size+1) (exo (hp.objs.size+1) C none)) ⟨(hp.push (PySem.W.kdv_tup [])).push (PySem.HandSPX.excO C hp.objs.size),g,dr,tk,os⟩ :=
  I.laid (t':=tk) (a:=hp.objs.size+1) (o:=exo (hp.objs.size+1) C none) (h':=(hp.push (PySem.W.kdv_tup [])).push (PySem.HandSPX.excO C hp.objs.size)) keep up (exo_ok new)
 have r2:Vals [V.ref (hp.objs.size+1),v] [Value.ref (hp.objs.size+1),u]:=.cons rfl (.cons r .nil)
 refine Vx (kwCall b.F (fun Y=>zDX rs tl Y) (I.kIn _ _ hC) (J1 I.kIn iC) (fun self=>VL I.kIn self tI)
  (Vq (F1.run _ X.stack _ _ ⟨[Value.ref (hp.objs.size+1)],[(pn,u)]⟩ [Value.ref (hp.objs.size+1),u] _ _ (fun _ _ _=>False) (hr.make C [] [(pn,u)]) (J.env0.make C [] [(pn,u)]) (hb.to _ [Value.ref (hp.objs.size+1)] [u] J.kIn rfl rfl) r2 hq) fun r s' hq'=>?_))
 cases r with
 |error er=>exact hx pins σ _ _ er s' J hq'
 |ok fl =>
  cases fl with
  |ret u =>
   obtain⟨v,H2,os2,bare2,un2,hok2,rv,ev,d,fs,ea,ed,hd1,q2⟩:=hq';subst ev;obtain⟨h2,g2,d2,t2,os'⟩:=s';exact⟨rv,mk_end (raises_own T.exC T.tyC) I up keep un2 hok2 os2 bare2 ea ed hd1 q2⟩
  |next=>exact False.elim hq'
  |brk=>exact False.elim hq'
  |cont=>exact False.elim hq'
end
end
def tMkK(C:Addr) (sp:Sp) (ta:TA):L2.St→Hp→XK→Prop:=fun σ H Q=>ta σ H fun zs H1=>∃v,zs=[v]∧∀a,H1 a=none→sp [.ref a,v] (upd H1 a (exo a C none)) (fun v H2=>v=.non∧∃(d:Addr) (fs:List (Str×V)),H2 a=some (exo a C (some d))∧H2 d=some (exd d fs)∧H1 d=none∧Q (.ref C) (some d) (upd (L2.del H2 a) d (.xd fs))) (fun _ _ _=>False)
section
variable {X:Cx}{B newId initId:String}{tl:List Value}{C fI:Addr}{k:Nat}{fd:FuncData}{sp:Sp}{CX:CXT}{pn x:Str}{p pos:Pos}{kws:List Keyword}{ta:TA}
theorem pmkGK(b:XB B newId initId tl) (T:OexG X.K C newId tl) (iC:PySem.W.findIn X.K (.ref C) "__init__" = some (some (.ref fI))) (tI:PySem.W.typeIn X.K (.ref fI)=some (.type "function"))
  (F1:FnOk X.prog X.w X.K X.mg X.base CX k fI fd ["self",pn] sp) (hr:Room (k+1) X.A) (hb:KB1 X.K fd pn) (hx:Passes CX X (fun _ _ _=>False)) (hg:Gl X x) (hm:X.mg x=some (.ref C)) (hkw:PK X kws ta) (hdb:(x==("__debug__" : Str))=false)
  (hall:(backToKw pos (keywordEach kws X.env)).all (·.1.isSome)=true) (hks:(backToKw pos (keywordEach kws X.env)).filterMap (·.1)=[pn]) (hpl:((backTo pos (starEach [] X.env)).any (·.1)||(backToKw pos (keywordEach kws X.env)).any (·.1.isNone))=false) :
  PMk X (.Call (.Name x p) [] kws pos) (tMkK C sp ta):=by
 intro pins s σ H Q I h;refine Va (ld_glob I hg hm ?_ hdb);refine PySem.W.callWith_KW0 (h₀:=X.base) I.ok.mod.kin T.kC hall ?_ hpl;refine thn (hkw.run pos pins s σ H _ I h) fun ws s2 ⟨zs,H2,I2,rz,v,ez,q2⟩=>⟨I2.kIn,?_⟩
 rw[hks];subst ez
 match ws,rz with
 |_,.cons (b:=u) ru .nil=>exact zEV b T iC tI F1 hr hb hx I2 ru q2
end
section
variable {K:PySem.W.Frag}{cl:Cls}{X:Cx}{Wx:WX}
theorem zBk{C:Addr}{k c:Nat}{tg f pn x:Str}{p kp pos:Pos}{a:EM}{e:Expr} (B:zBx X.prog X.w X.K X.mg X.base cl k c C tg f pn) (g:GX K X) (hr:Room (k+1) X.A) (hg:Gl X x) (hm:X.mg x=some (.ref C)) (ha:SE K cl X Wx a e)
  (hdb:(x==("__debug__" : Str))=false)
  (hall:(backToKw pos (keywordEach [⟨some pn,e,kp⟩] X.env)).all (·.1.isSome)=true:=by rfl) (hks:(backToKw pos (keywordEach [⟨some pn,e,kp⟩] X.env)).filterMap (·.1)=[pn]:=by rfl) (hpl:((backTo pos (starEach [] X.env)).any (·.1)||(backToKw pos (keywordEach [⟨some pn,e,kp⟩] X.env)).any (·.1.isNone))=false:=by rfl) :
  SE K cl X Wx (zBR c a tg) (.Call (.Name x p) [] [⟨some pn,e,kp⟩] pos):=by
 obtain⟨hK,hc,_⟩:=g;subst hK;obtain⟨_,_,_,_,fI,fd,xb,og,h1,h2,h3,_,h4⟩:=B.ex;refine⟨fun E0 ρ G σ st τ H Q R S h=>T.of (pe_mk (pmkGK xb og h1 h2 h3 hr h4 pass0 hg hm (pk_cons T.pe pk_nil) hdb hall hks hpl)) ?_⟩
 refine ha.run E0 ρ G σ st τ H _ R S (Aft.seq h fun w st1 ρ1 G1 H1 v e1 p1 s1 R1 u1 h'=>?_)
 split at h'
 case h_2=>exact h'.elim
 have en:=zCr (vs:=[v,.str tg]) B.at_ rfl R1 (.cons u1 (.cons (.str tg) .nil)) h';exact⟨v,rfl,fun y hy=>zDr og B.tag B.fld en hy⟩
end
theorem zFm{K:PySem.W.Frag}{D:Addr} (h:zHP K D=true):ExcC K D:=by
 unfold zHP at h;simp only[Jh,Jx]at h;obtain⟨⟨⟨⟨⟨⟨⟨h1,h2⟩,h3⟩,h4⟩,h5⟩,h6⟩,h7⟩,h8⟩:=h;exact⟨JJ h1,JJ h2,h3,h4,JJ h5,JJ h6,h7,h8⟩
def isTb(l:List (Nat×Str)) (bs:List Bool):List (Nat×Bool):=(l.zip bs).map fun q=>(q.1.1,q.2)
theorem zAG{K:PySem.W.Frag}{cl:Cls}{l:List (Nat×Str)}{bs:List Bool}{cv:Value} (hc:∀q∈l,∃ns,cl[q.1]?=some (He.ga K q.2,ns)) (ha:zHM K l=true) (ht:zAL K l bs cv=true) :
  ∀q∈isTb l bs,∃C' ns,cl[q.1]?=some (C',ns)∧ExcC K C'∧PySem.W.kitOne K (.ref C') cv=some q.2:=by
 intro q hq;obtain⟨z,hz,rfl⟩:=List.mem_map.mp hq;have hl:=(Vg hz).1;obtain⟨ns,e⟩:=hc _ hl;exact⟨_,ns,e,zFm (Js.mp ha _ hl),JD (Js.mp ht _ hz)⟩
theorem zAR{K:PySem.W.Frag}{cl:Cls}{x z:Str}{g:Option Str}{c i:Nat}{fn:Str} (h:excB K x z g=true) (hC:cl[c]?=some (He.ga K x,nsOf g)) (hi:(nsOf g)[i]?=some fn):XfAt K cl fn c i:=by
 obtain⟨e1,e2,e3,e4,e5,e6⟩:=zCV h;refine⟨_,_,hC,?_,hi,e2,?_⟩
 ·cases g with
  |none=>simp[nsOf]
  |some f =>
   have:=(e4 f rfl).1
   simp[nsOf];intro e;rw[e]at this;simp at this
 ·cases g with
  |none =>
   match i,hi with
   |0,hi=>cases hi;exact e3
  |some f =>
   match i,hi with
   |0,hi=>cases hi;exact(e4 _ rfl).2
   |1,hi=>cases hi;exact e3
theorem zBA{K:PySem.W.Frag}{cl:Cls}{x z:Str}{g:Option Str}{c i:Nat}{fn:Str}{B newId initId:String}{tl:List Value} (h:zA9 B newId initId tl K x z g=true) (hC:cl[c]?=some (He.ga K x,nsOf g)) (hi:(nsOf g)[i]?=some fn):XfAt K cl fn c i:=by
 obtain⟨e1,e2,e3,e4,e5,e6⟩:=zBl h;refine⟨_,_,hC,?_,hi,e2,?_⟩
 ·cases g with
  |none=>simp[nsOf]
  |some f =>
   have:=(e4 f rfl).1
   simp[nsOf];intro e;rw[e]at this;simp at this
 ·cases g with
  |none =>
   match i,hi with
   |0,hi=>cases hi;exact e3
  |some f =>
   match i,hi with
   |0,hi=>cases hi;exact(e4 _ rfl).2
   |1,hi=>cases hi;exact e3
end Y
namespace YZ
open Y
section
variable {α β:Type}{st st1:List Cell}{σ:Sg}
@[simp]theorem Res.bind_ok(a:α) (st:List Cell) (k:α→List Cell→Res β):(Res.ok a st).bind k=k a st:=rfl
@[simp]theorem Res.bind_no(k:α→List Cell→Res β):(Res.no:Res α).bind k=.no:=rfl
@[simp]theorem Res.bind_exc(x:Exn) (st:List Cell) (k:α→List Cell→Res β):(Res.exc x st:Res α).bind k=.exc x st:=rfl
@[simp]theorem Res.nox_ok(a:α) (st:List Cell):(Res.ok a st).nox=.ok a st:=rfl
@[simp]theorem Res.nox_no:(Res.no:Res α).nox=.no:=rfl
@[simp]theorem Res.to_no(k:α→List Cell→SR):(Res.no:Res α).to σ k=.no:=rfl
@[simp]theorem SR.then_no(k:Sg→List Cell→SR):SR.no.then k=.no:=rfl
@[simp]theorem Res.to_ok(a:α) (st:List Cell) (k:α→List Cell→SR):(Res.ok a st).to σ k=k a st:=rfl
@[simp]theorem SR.then_nx(k:Sg→List Cell→SR):(SR.ok .nx σ st).then k=k σ st:=rfl
@[simp]theorem SR.then_rt(w:W) (k:Sg→List Cell→SR):(SR.ok (.rt w) σ st).then k=.ok (.rt w) σ st:=rfl
@[simp]theorem SR.then_bk(k:Sg→List Cell→SR):(SR.ok .bk σ st).then k=.ok .bk σ st:=rfl
@[simp]theorem SR.then_ct(k:Sg→List Cell→SR):(SR.ok .ct σ st).then k=.ok .ct σ st:=rfl
@[simp]theorem Res.bind_ite{c:Prop} [Decidable c] (a b:Res α) (k:α→List Cell→Res β):(if c then a else b).bind k=if c then a.bind k else b.bind k:=by split<;>rfl
@[simp]theorem Res.nox_ite{c:Prop} [Decidable c] (a b:Res α):(if c then a else b).nox=if c then a.nox else b.nox:=by split<;>rfl
@[simp]theorem Res.to_ite{c:Prop} [Decidable c] (a b:Res α) (k:α→List Cell→SR):(if c then a else b).to σ k=if c then a.to σ k else b.to σ k:=by split<;>rfl
@[simp]theorem SR.then_ite{c:Prop} [Decidable c] (a b:SR) (k:Sg→List Cell→SR):(if c then a else b).then k=if c then a.then k else b.then k:=by split<;>rfl
theorem zFK{a b:String}:Str.ofString a=Str.ofString b↔a=b:=by
 constructor
 ·intro h;rw[JR,JR]at h;have h2:a.toList.map Char.toNat=b.toList.map Char.toNat:=by simpa using h
  have h3:∀(l m:List Char),l.map Char.toNat=m.map Char.toNat→l=m:=by
   intro l
   induction l with
   |nil=>intro m e;cases m with
    |nil=>rfl
    |cons c m=>cases e
   |cons c l ih=>intro m e;cases m with
    |nil=>cases e
    |cons d m =>
     rw[JZ,JZ]at e;obtain⟨e1,e2⟩:=List.cons.inj e;rw[ih m e2]
     congr 1
     exact Char.ext (UInt32.toNat_inj.mp e1)
  exact String.toList_inj.mp (h3 _ _ h2)
 ·intro h;rw[h]
@[simp]theorem ofS_eq{a b:String}:(Str.ofString a=Str.ofString b)=(a=b):=propext zFK
@[simp]theorem ofS_beq{a b:String}:(Str.ofString a==Str.ofString b)=decide (a=b):=by
 by_cases h:a=b
 ·subst h;simp
 ·rw[VI h,J5];exact fun e=>h (zFK.mp e)
@[simp]theorem ofS_len{a:String}:(Str.ofString a).length=a.length:=by
 rw[JR];simp[Str.length,String.length_toList]
@[simp]theorem LIM_e:LIM=1000000:=rfl
def varF(o:Option (Option W)) (st:List Cell):Res W:=match o with
 |some (some w)=>.ok w st
 |_=>.no
@[simp]theorem varF_e(w:W):varF (some (some w)) st=.ok w st:=rfl
@[simp]theorem mVar_e(i:Nat):mVar i σ st=varF σ[i]? st:=rfl
@[simp]theorem mC_e(x:P):mC x σ st=.ok (.p x) st:=rfl
def binK(f:W→W→List Cell→Res W) (b:EM) (σ:Sg) (x:W) (st1:List Cell):Res W:=(b σ st1).bind (f x)
@[simp]theorem binK_e(f:W→W→List Cell→Res W) (b:EM) (x:W):binK f b σ x st=(b σ st).bind (f x):=rfl
@[simp]theorem mBin_e(f:W→W→List Cell→Res W) (a b:EM):mBin f a b σ st=(a σ st).bind (binK f b σ):=rfl
def truR(o:Option Bool) (st:List Cell):Res Bool:=match o with
 |some k=>.ok k st
 |none=>.no
@[simp]theorem truR_e(k:Bool):truR (some k) st=.ok k st:=rfl
def truK(w:W) (st1:List Cell):Res Bool:=truR (vTru st1 w) st1
@[simp]theorem truK_e(w:W):truK w st=truR (vTru st w) st:=rfl
@[simp]theorem mTru_e(m:EM):mTru m σ st=(m σ st).bind truK:=rfl
@[simp]theorem vTru_bl(b:Bool):vTru st (.p (.bl b))=some b:=rfl
@[simp]theorem vTru_int(b:Int):vTru st (.p (.int b))=some (b != 0):=rfl
@[simp]theorem vTru_lst(l:List P):vTru st (.p (.lst l))=some (!l.isEmpty):=rfl
@[simp]theorem vTru_tup(l:List P):vTru st (.p (.tup l))=some (!l.isEmpty):=rfl
def tstR(w:W) (st:List Cell):Res Bool:=match w with
 | .p (.bl k)=>.ok k st
 |_=>.no
@[simp]theorem tstR_e(k:Bool):tstR (.p (.bl k)) st=.ok k st:=rfl
@[simp]theorem mTst_e(m:EM):mTst m σ st=(m σ st).bind tstR:=rfl
def andK(b:TM) (σ:Sg) (c:Bool) (st1:List Cell):Res Bool:=if c=true then b σ st1 else .ok false st1
@[simp]theorem andK_e(b:TM) (c:Bool):andK b σ c st=if c=true then b σ st else .ok false st:=rfl
@[simp]theorem mAndT_e(a b:TM):zHG a b σ st=(a σ st).bind (andK b σ):=rfl
def orK(b:TM) (σ:Sg) (c:Bool) (st1:List Cell):Res Bool:=if c=true then .ok true st1 else b σ st1
@[simp]theorem orK_e(b:TM) (c:Bool):orK b σ c st=if c=true then .ok true st else b σ st:=rfl
@[simp]theorem mOrT_e(a b:TM):mOrT a b σ st=(a σ st).bind (orK b σ):=rfl
def notK(c:Bool) (st1:List Cell):Res Bool:=.ok (!c) st1
@[simp]theorem notK_e(c:Bool):notK c st=.ok (!c) st:=rfl
@[simp]theorem mNotT_e(a:TM):zGs a σ st=(a σ st).bind notK:=rfl
def zE6(b:EM) (σ:Sg) (c:Bool) (st1:List Cell):Res W:=if c=true then b σ st1 else .ok (.p (.bl false)) st1
@[simp]theorem andVK2_e(b:EM) (c:Bool):zE6 b σ c st=if c=true then b σ st else .ok (.p (.bl false)) st:=rfl
def andVK(b:EM) (σ:Sg) (w:W) (st1:List Cell):Res W:=(tstR w st1).bind (zE6 b σ)
@[simp]theorem andVK_e(b:EM) (w:W):andVK b σ w st=(tstR w st).bind (zE6 b σ):=rfl
@[simp]theorem mAndV_e(a b:EM):zEW a b σ st=(a σ st).bind (andVK b σ):=by
 unfold zEW
 congr 1;funext w st1
 cases w with
 |p x=>cases x<;>rfl
 |r i=>rfl
def ifK{α:Type} (a b:Sg→List Cell→α) (σ:Sg) (k:Bool) (st1:List Cell):α:=if k=true then a σ st1 else b σ st1
@[simp]theorem ifK_e{α:Type} (a b:Sg→List Cell→α) (k:Bool):ifK a b σ k st=if k=true then a σ st else b σ st:=rfl
@[simp]theorem mNil_e:mNil σ st=.ok [] st:=rfl
def zDg(w:W) (ws:List W) (st2:List Cell):Res (List W):=.ok (w::ws) st2
@[simp]theorem consK2_e(w:W) (ws:List W):zDg w ws st=.ok (w::ws) st:=rfl
def consK(r:AM) (σ:Sg) (w:W) (st1:List Cell):Res (List W):=(r σ st1).bind (zDg w)
@[simp]theorem consK_e(r:AM) (w:W):consK r σ w st=(r σ st).bind (zDg w):=rfl
@[simp]theorem mCons_e(a:EM) (r:AM):zAC a r σ st=(a σ st).bind (consK r σ):=rfl
@[simp]theorem pures_nil:pures []=some []:=rfl
@[simp]theorem zIC(x:P) (l:List W):pures (.p x::l)=(pures l).map (x :: ·):=rfl
@[simp]theorem pures_ref(i:Nat) (l:List W):pures (.r i::l)=none:=rfl
@[simp]theorem zEg(l:List P):pures (l.map W.p)=some l:=zFH l
def pR(f:List P→W) (o:Option (List P)) (st:List Cell):Res W:=match o with
 |some l=>.ok (f l) st
 |none=>.no
def pRL(f:List P→W) (o:Option (List P)) (st:List Cell):Res W:=match o with
 |some l=>if l.length≤1000000 then .ok (f l) st else .no
 |none=>.no
@[simp]theorem pRL_e(f:List P→W) (l:List P):pRL f (some l) st=if l.length≤1000000 then .ok (f l) st else .no:=rfl
@[simp]theorem pR_e(f:List P→W) (l:List P):pR f (some l) st=.ok (f l) st:=rfl
def tupK(ws:List W) (st1:List Cell):Res W:=pRL (fun l=>.p (.tup l)) (pures ws) st1
@[simp]theorem tupK_e(ws:List W):tupK ws st=pRL (fun l=>.p (.tup l)) (pures ws) st:=rfl
@[simp]theorem mTup_e(a:AM):mTup a σ st=(a σ st).bind tupK:=by
 unfold mTup;rfl
def lstK(ws:List W) (st1:List Cell):Res W:=pRL (fun l=>.p (.lst l)) (pures ws) st1
@[simp]theorem lstK_e(ws:List W):lstK ws st=pRL (fun l=>.p (.lst l)) (pures ws) st:=rfl
@[simp]theorem mLst_e(a:AM):mLst a σ st=(a σ st).bind lstK:=by
 unfold mLst;rfl
def lstCK(ws:List W) (st1:List Cell):Res W:=if ws.length≤1000000 then .ok (.r st1.length) (st1++[.lst ws])else .no
@[simp]theorem lstCK_e(ws:List W):lstCK ws st=if ws.length≤1000000 then .ok (.r st.length) (st++[.lst ws])else .no:=rfl
@[simp]theorem mLstC_e(a:AM):zHl a σ st=(a σ st).bind lstCK:=rfl
@[simp]theorem mCallV_e(f:List W→List Cell→Res W) (a:AM):zAk f a σ st=(a σ st).bind f:=rfl
def osR(w:W) (st:List Cell):Res (Option Int):=match w with
 | .p (.int i)=>.ok (some i) st
 |_=>.no
@[simp]theorem osR_e(i:Int):osR (.p (.int i)) st=.ok (some i) st:=rfl
@[simp]theorem oNone_e:zGQ σ st=.ok none st:=rfl
@[simp]theorem oSome_e(a:EM):zGp a σ st=(a σ st).bind osR:=rfl
def slK2(x:W) (l u:Option Int) (st3:List Cell):Res W:=vSl x l u st3
@[simp]theorem slK2_e(x:W) (l u:Option Int):slK2 x l u st=vSl x l u st:=rfl
def slK1(hi:OM) (σ:Sg) (x:W) (l:Option Int) (st2:List Cell):Res W:=(hi σ st2).bind (slK2 x l)
@[simp]theorem slK1_e(hi:OM) (x:W) (l:Option Int):slK1 hi σ x l st=(hi σ st).bind (slK2 x l):=rfl
def slK(lo hi:OM) (σ:Sg) (x:W) (st1:List Cell):Res W:=(lo σ st1).bind (slK1 hi σ x)
@[simp]theorem slK_e(lo hi:OM) (x:W):slK lo hi σ x st=(lo σ st).bind (slK1 hi σ x):=rfl
@[simp]theorem mSl_e(a:EM) (lo hi:OM):mSl a lo hi σ st=(a σ st).bind (slK lo hi σ):=rfl
def zDI(F:FM) (ws:List W) (st1:List Cell):Res W:=(zAI F ws st1).nox
@[simp]theorem callK_e(F:FM) (ws:List W):zDI F ws st=(zAI F ws st).nox:=rfl
@[simp]theorem mCallF_e(F:FM) (a:AM):zBV F a σ st=(a σ st).bind (zDI F):=rfl
def runR:SR→Res W
 | .ok .nx _ st1=>.ok (.p .non) st1
 | .ok (.rt w) _ st1=>.ok w st1
 |_=>.no
@[simp]theorem runR_nx:runR (.ok .nx σ st)=.ok (.p .non) st:=rfl
@[simp]theorem runR_rt(w:W):runR (.ok (.rt w) σ st)=.ok w st:=rfl
@[simp]theorem runR_no:runR .no=.no:=rfl
@[simp]theorem runR_ite{c:Prop} [Decidable c] (a b:SR):runR (if c then a else b)=if c then runR a else runR b:=by split<;>rfl
theorem zAK(np N:Nat) (m:SMm) (ws:List W):runF np N m ws st=if ws.length=np then runR (m (ws.map some++List.replicate (N-np) none) st)else .no:=by
 unfold runF;split
 ·generalize m (List.map some ws++List.replicate (N-np) none) st=r;cases r with
  |ok f _ _=>cases f<;>rfl
  |exc _ _ _=>rfl
  |no=>rfl
 ·rfl
@[simp]theorem sNx_e:sNx σ st=.ok .nx σ st:=rfl
@[simp]theorem sSeq_e(a b:SMm):sSeq a b σ st=(a σ st).then b:=rfl
def retK(σ:Sg) (w:W) (st1:List Cell):SR:=.ok (.rt w) σ st1
@[simp]theorem retK_e(w:W):retK σ w st=.ok (.rt w) σ st:=rfl
@[simp]theorem sRet_e(m:EM):sRet m σ st=(m σ st).to σ (retK σ):=rfl
def setK(i:Nat) (σ:Sg) (w:W) (st1:List Cell):SR:=.ok .nx (σ.set i (some w)) st1
@[simp]theorem setK_e(i:Nat) (w:W):setK i σ w st=.ok .nx (σ.set i (some w)) st:=rfl
@[simp]theorem sSet_e(i:Nat) (m:EM):sSet i m σ st=(m σ st).to σ (setK i σ):=rfl
@[simp]theorem sIf_e(c:TM) (a b:SMm):sIf c a b σ st=(c σ st).to σ (ifK a b σ):=rfl
@[simp]theorem put_nm(i:Nat) (w:W):Tg.put (.nm i) w σ=some (σ.set i (some w)):=by rw[Tg.put]
@[simp]theorem put_tp(ts:List Tg) (l:List P):Tg.put (.tp ts) (.p (.tup l)) σ=Tg.puts ts l σ:=by rw[Tg.put]
@[simp]theorem puts_nil:Tg.puts [] [] σ=some σ:=by rw[Tg.puts]
@[simp]theorem puts_cons(t:Tg) (ts:List Tg) (x:P) (l:List P):Tg.puts (t::ts) (x::l) σ=(Tg.put t (.p x) σ).bind fun σ'=>Tg.puts ts l σ':=by
 rw[Tg.puts];cases Tg.put t (.p x) σ<;>rfl
def ixR(σ:Sg) (x:W) (w k:W) (st3:List Cell):SR:=match w,k with
 | .r i,.p (.int n)=>match st3[i]? with
  |some (.lst l)=>match L2.ixN l.length n with
   |some j=>.ok .nx σ (st3.set i (.lst (l.set j x)))
   |none=>.no
  |_=>.no
 |_,_=>.no
def ixR2(σ:Sg) (st3:List Cell) (i:Nat) (x:W) (n:Int) (c:Option Cell):SR:=match c with
  |some (.lst l)=>match L2.ixN l.length n with
   |some j=>.ok .nx σ (st3.set i (.lst (l.set j x)))
   |none=>.no
  |_=>.no
def ixR3(σ:Sg) (st3:List Cell) (i:Nat) (x:W) (l:List W) (o:Option Nat):SR:=match o with
   |some j=>.ok .nx σ (st3.set i (.lst (l.set j x)))
   |none=>.no
@[simp]theorem ixR_e(x:W) (i:Nat) (n:Int):ixR σ x (.r i) (.p (.int n)) st=ixR2 σ st i x n st[i]?:=rfl
@[simp]theorem ixR2_e(x:W) (i:Nat) (n:Int) (l:List W):ixR2 σ st i x n (some (.lst l))=ixR3 σ st i x l (L2.ixN l.length n):=rfl
@[simp]theorem ixR3_e(x:W) (i j:Nat) (l:List W):ixR3 σ st i x l (some j)=.ok .nx σ (st.set i (.lst (l.set j x))):=rfl
def zHJ(σ:Sg) (x w k:W) (st3:List Cell):SR:=ixR σ x w k st3
@[simp]theorem sixK2_e(x w k:W):zHJ σ x w k st=ixR σ x w k st:=rfl
def zHc(ix:EM) (σ:Sg) (x w:W) (st3:List Cell):SR:=(ix σ st3).to σ (zHJ σ x w)
@[simp]theorem sixK1_e(ix:EM) (x w:W):zHc ix σ x w st=(ix σ st).to σ (zHJ σ x w):=rfl
def sixK(o ix:EM) (σ:Sg) (x:W) (st3:List Cell):SR:=(o σ st3).to σ (zHc ix σ x)
@[simp]theorem sixK_e(o ix:EM) (x:W):sixK o ix σ x st=(o σ st).to σ (zHc ix σ x):=rfl
@[simp]theorem sSetIx_e(o ix m:EM):zC3 o ix m σ st=(m σ st).to σ (sixK o ix σ):=rfl
@[simp]theorem ixN_nat(n j:Nat) (h:j<n):L2.ixN n ((j:Nat):Int)=some j:=by
 unfold L2.ixN;rw[JN ∅,JN ∅];simp
def isiR(T:String) (o:Option String) (st:List Cell):Res W:=match o with
 |some t=>.ok (.p (.bl (zDQ t T))) st
 |none=>.no
@[simp]theorem isiR_e(T t:String):isiR T (some t) st=.ok (.p (.bl (zDQ t T))) st:=rfl
def isiK(T:String) (w:W) (st1:List Cell):Res W:=isiR T (zB2 st1 w) st1
@[simp]theorem isiK_e(T:String) (w:W):isiK T w st=isiR T (zB2 st w) st:=rfl
@[simp]theorem mIsi_e(T:String) (a:EM):mIsi T a σ st=(a σ st).bind (isiK T):=rfl
@[simp]theorem zIE:zB2 st (.p .non)=some "NoneType" := rfl
@[simp]theorem tyName_bl(b:Bool):zB2 st (.p (.bl b))=some "bool" := rfl
@[simp]theorem zII(b:Int):zB2 st (.p (.int b))=some "int" := rfl
@[simp]theorem zIG(b:Str):zB2 st (.p (.str b))=some "str" := rfl
@[simp]theorem zIP(b:List P):zB2 st (.p (.tup b))=some "tuple" := rfl
@[simp]theorem zIM(b:List P):zB2 st (.p (.lst b))=some "list" := rfl
@[simp]theorem tyName_dk(k:List Key) (b:List P):zB2 st (.p (.dk k b))=some "dict" := rfl
@[simp]theorem kitTab_e(t T:String):zDQ t T=(decide (t=T)||(decide (t = "bool")&&decide (T = "int"))):=rfl
end
section
variable {α β:Type}{st st1:List Cell}{σ:Sg}
@[simp]theorem vLt_e(i j:Int):vLt (.p (.int i)) (.p (.int j)) st=.ok (.p (.bl (decide (i<j)))) st:=rfl
@[simp]theorem vGt_e(i j:Int):vGt (.p (.int i)) (.p (.int j)) st=.ok (.p (.bl (decide (j<i)))) st:=rfl
@[simp]theorem vGe_e(i j:Int):vGe (.p (.int i)) (.p (.int j)) st=.ok (.p (.bl (decide (j≤i)))) st:=rfl
@[simp]theorem vAdd_e(i j:Int):vAdd (.p (.int i)) (.p (.int j)) st=.ok (.p (.int (i+j))) st:=rfl
@[simp]theorem vMulI_e(i j:Int):zDi (.p (.int i)) (.p (.int j)) st=if zCl i j=true then .ok (.p (.int (i*j))) st else .no:=rfl
@[simp]theorem vFdv_e(i j:Int):vFdv (.p (.int i)) (.p (.int j)) st=if 0<j∧j.natAbs.log2<9000 then .ok (.p (.int (i/j))) st else .no:=by
 unfold vFdv vI2;simp
@[simp]theorem vMod_e(i j:Int):vMod (.p (.int i)) (.p (.int j)) st=if 0<j then .ok (.p (.int (i%j))) st else .no:=by
 unfold vMod vI2;simp
@[simp]theorem vPow_e(i j:Int):vPow (.p (.int i)) (.p (.int j)) st=if 0≤j∧j≤1000∧i.natAbs<1000 then .ok (.p (.int (i^j.toNat))) st else .no:=by
 unfold vPow vI2;simp
def Sm(i:Int):Prop:=i.natAbs<2^200000
theorem log2_lt{n k:Nat} (h:n<2^k) (hk:0<k):n.log2<k:=by
 rcases Nat.eq_zero_or_pos n with rfl|hn
 ·simpa using hk
 ·exact(Nat.log2_lt ∅).mpr h
theorem mulOk_of{i j:Int} (h:Sm i) (h2:Sm j):zCl i j=true:=by
 unfold zCl;have a:=log2_lt h (!0);have b:=log2_lt h2 (!0);exact decide_eq_true ∅
theorem zEa{k:Nat} (h:k≤200000):2^k≤2^200000:=Nat.pow_le_pow_right (!0) h
theorem Sm.lt{i:Int} (k:Nat) (h:i.natAbs<2^k) (hk:k≤200000):Sm i:=JA h (zEa hk)
theorem two64:(2:Nat)^64=18446744073709551616:=rfl
theorem Sm.small{i:Int} (h:i.natAbs<18446744073709551616):Sm i:=Sm.lt 64 (by rw[two64];exact h) (!0)
theorem atI_nat{l:List α}{i:Int} (h0:0≤i):L2.atI l i=l[i.toNat]?:=by
 unfold L2.atI L2.ixN;rw[JN h0]
 by_cases h:i<l.length
 ·rw[JN h];rfl
 ·rw[J9 h,Jw ∅];rfl
@[simp]theorem atI_lit{l:List α} (n:Nat):L2.atI l (no_index (OfNat.ofNat n):Int)=l[(OfNat.ofNat n:Nat)]?:=by
 rw[atI_nat (by exact Vb n)];rfl
@[simp]theorem atI_cast{l:List α} (n:Nat):L2.atI l (n:Int)=l[n]?:=by
 rw[atI_nat (Vb n)];rfl
theorem zHo{f:α→β}{l:List α}{i:Int}:L2.atI (l.map f) i=(L2.atI l i).map f:=by
 unfold L2.atI;rw[Jr];cases L2.ixN l.length i with
 |none=>rfl
 |some j=>show(l.map f)[j]?=_;rw[Jn];rfl
@[simp]theorem ixN_lit(n j:Nat):L2.ixN n (no_index (OfNat.ofNat j):Int)=if(OfNat.ofNat j:Nat)<n then some (OfNat.ofNat j:Nat)else none:=by
 show L2.ixN n ((j:Nat):Int)=if j<n then some j else none
 unfold L2.ixN;rw[JN ∅]
 by_cases h:j<n
 ·rw[JN ∅,JN h];simp
 ·rw[J9 ∅,J9 h]
def ixP(o:Option P) (st:List Cell):Res W:=match o with
 |some z=>.ok (.p z) st
 |none=>.no
@[simp]theorem ixP_e(z:P):ixP (some z) st=.ok (.p z) st:=rfl
def ixW(o:Option W) (st:List Cell):Res W:=match o with
 |some z=>.ok z st
 |none=>.no
@[simp]theorem ixW_e(z:W):ixW (some z) st=.ok z st:=rfl
@[simp]theorem vIx_tup(l:List P) (i:Int):vIx (.p (.tup l)) (.p (.int i)) st=ixP (L2.atI l i) st:=rfl
@[simp]theorem vIx_lst(l:List P) (i:Int):vIx (.p (.lst l)) (.p (.int i)) st=ixP (L2.atI l i) st:=by
 unfold vIx;show(match zDd st (.p (.lst l))with|some l=>(match L2.atI l i with|some z=>Res.ok z st|none=>.no)|none=>.no)=_
 unfold zDd;show(match L2.atI (l.map W.p) i with|some z=>Res.ok z st|none=>.no)=_
 rw[zHo];cases L2.atI l i<;>rfl
def ixC(i:Int) (c:Option Cell) (st:List Cell):Res W:=match c with
 |some (.lst l)=>ixW (L2.atI l i) st
 |_=>.no
@[simp]theorem ixC_e(i:Int) (l:List W):ixC i (some (.lst l)) st=ixW (L2.atI l i) st:=rfl
@[simp]theorem vIx_r(j:Nat) (i:Int):vIx (.r j) (.p (.int i)) st=ixC i st[j]? st:=by
 unfold vIx ixC zDd;dsimp only;cases st[j]? with
 |none=>rfl
 |some c=>cases c<;>rfl
@[simp]theorem vIx_str(s:Str) (i:Int):vIx (.p (.str s)) (.p (.int i)) st=if s.length≤1000000 then ixP ((L2.atI s.cps.toList i).map fun c=>.str ⟨#[c]⟩) st else .no:=by
 unfold vIx;dsimp only
 by_cases h:s.length≤1000000
 ·rw[JN h,JN (show s.length≤LIM from h)]
  cases L2.atI s.cps.toList i<;>rfl
 ·rw[J9 h,J9 (show ¬s.length≤LIM from h)]
@[simp]theorem vLen_tup(l:List P):vLen [.p (.tup l)] st=.ok (.p (.int l.length)) st:=rfl
@[simp]theorem vLen_lst(l:List P):vLen [.p (.lst l)] st=.ok (.p (.int l.length)) st:=by
 unfold vLen zDd;simp
@[simp]theorem vLen_str(s:Str):vLen [.p (.str s)] st=if s.length≤1000000 then .ok (.p (.int s.length)) st else .no:=rfl
@[simp]theorem vLen_dk(ks:List Key) (l:List P):vLen [.p (.dk ks l)] st=.ok (.p (.int ks.length)) st:=rfl
def lenC(c:Option Cell) (st:List Cell):Res W:=match c with
 |some (.lst l)=>.ok (.p (.int l.length)) st
 |some (.dk ks _)=>.ok (.p (.int ks.length)) st
 |_=>.no
@[simp]theorem lenC_e(l:List W):lenC (some (.lst l)) st=.ok (.p (.int l.length)) st:=rfl
@[simp]theorem vLen_r(i:Nat):vLen [.r i] st=lenC st[i]? st:=by
 unfold vLen lenC zDd;dsimp only;cases st[i]? with
 |none=>rfl
 |some c=>cases c<;>rfl
theorem zFd{l:List α}{i:Int} (h:0≤i):cutL l (some i) none=l.drop i.toNat:=by
 obtain⟨n,rfl⟩:=VF h;unfold cutL;rw[HT.sIx_nat,HT.sIx_none,JQ (by simp)]
 rcases Nat.le_total n l.length with h|h
 ·rw[Nat.min_eq_left h];rfl
 ·rw[Nat.min_eq_right h,JS (Ju _),JS (by simpa using h)]
theorem cut_to{l:List α}{i:Int} (h:0≤i):cutL l none (some i)=l.take i.toNat:=by
 obtain⟨n,rfl⟩:=VF h;unfold cutL;rw[HT.sIx_nat,HT.sIx_none,Vd,Nat.sub_zero];rcases Nat.le_total n l.length with h|h
 ·rw[Nat.min_eq_left h];rfl
 ·rw[Nat.min_eq_right h,JQ (Ju _),JQ (by simpa using h)]
@[simp]theorem zG7{l:List α} (n:Nat):cutL l (some (no_index (OfNat.ofNat n):Int)) none=l.drop (OfNat.ofNat n:Nat):=by
 rw[zFd (by exact Vb n)];rfl
@[simp]theorem zID{l:List α} (n:Nat):cutL l none (some (no_index (OfNat.ofNat n):Int))=l.take (OfNat.ofNat n:Nat):=by
 rw[cut_to (by exact Vb n)];rfl
@[simp]theorem vSl_tup(l:List P) (lo hi:Option Int):vSl (.p (.tup l)) lo hi st=.ok (.p (.tup (cutL l lo hi))) st:=rfl
@[simp]theorem vSl_lst(l:List P) (lo hi:Option Int):vSl (.p (.lst l)) lo hi st=.ok (.p (.lst (cutL l lo hi))) st:=rfl
@[simp]theorem vSl_scr(l:List Int) (lo hi:Option Int):vSl (.p (.scr l)) lo hi st=.ok (.p (.lst ((cutL l lo hi).map .int))) st:=rfl
@[simp]theorem vSl_str(z:Str) (lo hi:Option Int):vSl (.p (.str z)) lo hi st=if z.length≤1000000 then .ok (.p (.str (cutS z lo hi))) st else .no:=rfl
@[simp]theorem zEf{α:Type} (g:α→P) (l:List α):pures (l.map (W.p∘g))=some (l.map g):=by rw[←List.map_map,zEg]
@[simp]theorem zIB{α:Type} (g:α→P) (l:List α):pures (l.map fun x=>W.p (g x))=some (l.map g):=zEf g l
@[simp]theorem unC_p(x:P):unC st (.p x)=some x:=rfl
@[simp]theorem zFt(l:List P):seqP st (.p (.lst l))=some l:=rfl
@[simp]theorem zGi(l:List P):seqP st (.p (.tup l))=some l:=rfl
def seqC(c:Option Cell):Option (List P):=match c with
 |some (.lst l)=>pures l
 |_=>none
@[simp]theorem seqC_e(l:List W):seqC (some (.lst l))=pures l:=rfl
@[simp]theorem seqP_r(i:Nat):seqP st (.r i)=seqC st[i]?:=by
 unfold seqP seqC unC;dsimp only;cases st[i]? with
 |none=>rfl
 |some c=>cases c with
  |lst l=>simp only;cases pures l<;>rfl
  |_=>rfl
@[simp]theorem zIJ:intsOf []=some []:=rfl
@[simp]theorem zHO(i:Int) (l:List P):intsOf (.int i::l)=(intsOf l).map (i :: ·):=by
 rw[intsOf];cases intsOf l<;>rfl
@[simp]theorem zD4{α:Type} (l:List α) (f:α→Int):intsOf (l.map fun x=>P.int (f x))=some (l.map f):=by
 have:=zDL (l.map f)
 rwa [List.map_map]at this
@[simp]theorem zHC{α:Type} (l:List α) (f:α→Int):intsOf (l.map (P.int∘f))=some (l.map f):=zD4 l f
@[simp]theorem zHY(l:List Int):intsOf (l.map P.int)=some l:=zDL l
@[simp]theorem trusF_nil:zBm []=some []:=rfl
theorem zEx(l:List Bool):zBm (l.map P.bl)=some l:=by
 induction l with
 |nil=>rfl
 |cons b l ih=>rw[JZ,zBm,ih];rfl
@[simp]theorem zEZ{α:Type} (l:List α) (f:α→Bool):zBm (l.map fun x=>P.bl (f x))=some (l.map f):=by
 have:=zEx (l.map f)
 rwa [List.map_map]at this
@[simp]theorem zIF{α:Type} (l:List α) (f:α→Bool):zBm (l.map (P.bl∘f))=some (l.map f):=zEZ l f
@[simp]theorem trusF_bl(b:Bool) (l:List P):zBm (.bl b::l)=(zBm l).map (b :: ·):=by
 rw[zBm];unfold truF;simp only;cases zBm l<;>rfl
@[simp]theorem trusF_int(b:Int) (l:List P):zBm (.int b::l)=(zBm l).map ((b != 0) :: ·):=by
 rw[zBm];unfold truF;simp only;cases zBm l<;>rfl
def sumR(o:Option (List Int)) (st:List Cell):Res W:=match o with
 |some l=>.ok (.p (.int l.sum)) st
 |none=>.no
@[simp]theorem sumR_e(l:List Int):sumR (some l) st=.ok (.p (.int l.sum)) st:=rfl
@[simp]theorem vSumS_e(w:W):zE2 [w] st=sumR ((seqP st w).bind intsOf) st:=by unfold zE2 sumR;rfl
def anyR(f:List Bool→Bool) (o:Option (List Bool)) (st:List Cell):Res W:=match o with
 |some bs=>.ok (.p (.bl (f bs))) st
 |none=>.no
@[simp]theorem anyR_e(f:List Bool→Bool) (bs:List Bool):anyR f (some bs) st=.ok (.p (.bl (f bs))) st:=rfl
@[simp]theorem vAnyG_e(f:List Bool→Bool) (w:W):zEw f [w] st=anyR f ((seqP st w).bind zBm) st:=by unfold zEw anyR;rfl
@[simp]theorem vInt_int(i:Int):vInt [.p (.int i)] st=.ok (.p (.int i)) st:=rfl
@[simp]theorem vInt_bl(k:Bool):vInt [.p (.bl k)] st=.ok (.p (.int (if k then 1 else 0))) st:=rfl
def lstR(o:Option (List P)) (st:List Cell):Res W:=match o with
 |some l=>.ok (.p (.lst l)) st
 |none=>.no
@[simp]theorem lstR_e(l:List P):lstR (some l) st=.ok (.p (.lst l)) st:=rfl
@[simp]theorem vLstOf_e(w:W):zDo [w] st=lstR (seqP st w) st:=by unfold zDo lstR;rfl
def tyC(c:Option Cell):Option String:=match c with
  |some (.lst _)=>some "list"
  |some (.dk _ _)=>some "dict"
  |_=>none
@[simp]theorem tyC_e(l:List W):tyC (some (.lst l))=some "list" := rfl
@[simp]theorem SR.nox_ok(f:Fl):(SR.ok f σ st).nox=.ok f σ st:=rfl
@[simp]theorem SR.nox_no:SR.no.nox=.no:=rfl
@[simp]theorem vEqB_int(n:Bool) (i j:Int):vEqB n (.p (.int i)) (.p (.int j)) st=.ok (.p (.bl (if n=true then !(i==j)else(i==j)))) st:=rfl
@[simp]theorem vEqB_bl(n:Bool) (i j:Bool):vEqB n (.p (.bl i)) (.p (.bl j)) st=.ok (.p (.bl (if n=true then !(i==j)else(i==j)))) st:=rfl
@[simp]theorem vEqB_str(n:Bool) (i j:Str):vEqB n (.p (.str i)) (.p (.str j)) st=.ok (.p (.bl (if n=true then !(i==j)else(i==j)))) st:=rfl
@[simp]theorem vIsN_non(n:Bool):vIsN n (.p .non) (.p .non) st=.ok (.p (.bl (!n))) st:=rfl
@[simp]theorem vIsN_bl(n b:Bool):vIsN n (.p (.bl b)) (.p .non) st=.ok (.p (.bl n)) st:=rfl
@[simp]theorem vIsN_int(n:Bool) (b:Int):vIsN n (.p (.int b)) (.p .non) st=.ok (.p (.bl n)) st:=rfl
@[simp]theorem vIsN_str(n:Bool) (b:Str):vIsN n (.p (.str b)) (.p .non) st=.ok (.p (.bl n)) st:=rfl
@[simp]theorem vIsN_tup(n:Bool) (b:List P):vIsN n (.p (.tup b)) (.p .non) st=.ok (.p (.bl n)) st:=rfl
@[simp]theorem vIsN_lst(n:Bool) (b:List P):vIsN n (.p (.lst b)) (.p .non) st=.ok (.p (.bl n)) st:=rfl
@[simp]theorem vIsN_obj(n:Bool) (c:Nat) (b:List P):vIsN n (.p (.obj c b)) (.p .non) st=.ok (.p (.bl n)) st:=rfl
@[simp]theorem vIsN_r(n:Bool) (i:Nat):vIsN n (.r i) (.p .non) st=.ok (.p (.bl n)) st:=rfl
@[simp]theorem vInB_tup(n:Bool) (x:Str) (l:List P) (h:l.all zCO=true):vInB n (.p (.str x)) (.p (.tup l)) st=.ok (.p (.bl (if n=true then !inP (.str x) l else inP (.str x) l))) st:=by
 unfold vInB;simp only[zGi];rw[JN ⟨rfl,h⟩]
@[simp]theorem zEI(n:Bool) (x:Str) (l:List P) (h:l.all zCO=true):vInB n (.p (.str x)) (.p (.lst l)) st=.ok (.p (.bl (if n=true then !inP (.str x) l else inP (.str x) l))) st:=by
 unfold vInB;simp only[zFt];rw[JN ⟨rfl,h⟩]
@[simp]theorem flatP_str(s:Str):zCO (.str s)=true:=rfl
@[simp]theorem flatP_int(s:Int):zCO (.int s)=true:=rfl
@[simp]theorem flatP_bl(s:Bool):zCO (.bl s)=true:=rfl
@[simp]theorem flatP_non:zCO .non=true:=rfl
@[simp]theorem inP_nil(x:P):inP x []=false:=rfl
@[simp]theorem inP_cons(x y:P) (l:List P):inP x (y::l)=(eqF y x||inP x l):=rfl
@[simp]theorem eqF_str(x y:Str):eqF (.str x) (.str y)=(x==y):=rfl
@[simp]theorem eqF_int(x y:Int):eqF (.int x) (.int y)=(x==y):=rfl
@[simp]theorem vAdd_lst(l m:List P):vAdd (.p (.lst l)) (.p (.lst m)) st=if l.length+m.length≤1000000 then .ok (.p (.lst (l++m))) st else .no:=rfl
@[simp]theorem vAdd_tup(l m:List P):vAdd (.p (.tup l)) (.p (.tup m)) st=if l.length+m.length≤1000000 then .ok (.p (.tup (l++m))) st else .no:=rfl
@[simp]theorem vAdd_str(l m:Str):vAdd (.p (.str l)) (.p (.str m)) st=if l.length+m.length≤1000000 then .ok (.p (.str (l++m))) st else .no:=rfl
@[simp]theorem Str.len_append(a b:Str):(a++b).length=a.length+b.length:=by
 show(a.cps++b.cps).size=_;rw[Array.size_append];rfl
@[simp]theorem Str.len_empty:Str.empty.length=0:=rfl
def okP:Nat→P→Bool
 |_,.non=>true
 |_,.bl _=>true
 |_,.int _=>true
 |_,.str s=>PyData.strOk s
 |n+1,.tup l=>l.all (okP n)
 |n+1,.lst l=>l.all (okP n)
 |_,_=>false
theorem zD5{n:Nat} (ih:∀x,okP n x=true→∃d,toD x=some d∧d.canLay0=true∧d.depth≤n):∀ {l:List P},l.all (okP n)=true→∃ds,toDs l=some ds∧PyData.canLayAll0 ds=true∧PyData.depthAll ds≤n∧ds.length=l.length
 |[],_=>⟨[],rfl,rfl,JY _,rfl⟩
 |x::l,h=>by
  rw[VO,Jh]at h;obtain⟨d,e1,e2,e3⟩:=ih x h.1;obtain⟨ds,f1,f2,f3,f4⟩:=zD5 ih h.2;refine⟨d::ds,by rw[toDs,e1,f1],?_,?_,by simp[f4]⟩
  ·rw[PyData.canLayAll0,e2,f2];rfl
  ·rw[PyData.depthAll];exact Nat.max_le.mpr ⟨e3,f3⟩
theorem zD8:∀(n:Nat) (x:P),okP n x=true→∃d,toD x=some d∧d.canLay0=true∧d.depth≤n
 |n,.non,_=>⟨.none,by rw[toD],by rw[PyData.canLay0],by rw[PyData.depth];exact JY _⟩
 |n,.bl b,_=>⟨.bool b,by rw[toD],by rw[PyData.canLay0],by rw[PyData.depth];exact JY _⟩
 |n,.int i,_=>⟨.int i,by rw[toD],by rw[PyData.canLay0],by rw[PyData.depth];exact JY _⟩
 |n,.str s,h=>⟨.str s,by rw[toD],by
   rw[PyData.canLay0];cases n<;>(rw[okP]at h;exact h),by rw[PyData.depth];exact JY _⟩
 |0,.tup l,h=>by rw[okP]at h<;>first|cases h|(intros;contradiction)
 |0,.lst l,h=>by rw[okP]at h<;>first|cases h|(intros;contradiction)
 |n+1,.tup l,h=>by
  rw[okP]at h;obtain⟨ds,f1,f2,f3,f4⟩:=zD5 (zD8 n) h;refine⟨.tuple ds,by rw[toD,f1],by rw[PyData.canLay0];exact f2,?_⟩
  rw[PyData.depth];omega
 |n+1,.lst l,h=>by
  rw[okP]at h;obtain⟨ds,f1,f2,f3,f4⟩:=zD5 (zD8 n) h;refine⟨.list ds,by rw[toD,f1],by rw[PyData.canLay0];exact f2,?_⟩
  rw[PyData.depth];omega
 |n,.scr _,h=>by cases n<;>(rw[okP]at h<;>first|cases h|(intros;contradiction))
 |n,.dk _ _,h=>by cases n<;>(rw[okP]at h<;>first|cases h|(intros;contradiction))
 |n,.obj _ _,h=>by cases n<;>(rw[okP]at h<;>first|cases h|(intros;contradiction))
 |n,.exn _ _,h=>by cases n<;>(rw[okP]at h<;>first|cases h|(intros;contradiction))
 |n,.lam _ _,h=>by cases n<;>(rw[okP]at h<;>first|cases h|(intros;contradiction))
 |n,.cls _,h=>by cases n<;>(rw[okP]at h<;>first|cases h|(intros;contradiction))
 |n,.fd _ _,h=>by cases n<;>(rw[okP]at h<;>first|cases h|(intros;contradiction))
 |n,.fn _ _,h=>by cases n<;>(rw[okP]at h<;>first|cases h|(intros;contradiction))
mutual
def pEq:P→P→Bool
 | .non,.non=>true
 | .bl a,.bl b=>a==b
 | .bl a,.int j=>(if a then 1 else 0)==j
 | .int i,.bl b=>i==(if b then 1 else 0)
 | .int i,.int j=>i==j
 | .str x,.str y=>x==y
 | .lst l,.lst m=>pEqs l m
 | .tup l,.tup m=>pEqs l m
 |_,_=>false
def pEqs:List P→List P→Bool
 |[],[]=>true
 |x::l,y::m=>pEq x y&&pEqs l m
 |_,_=>false
end
@[simp]theorem okP_non(n:Nat):okP n .non=true:=by cases n<;>rfl
@[simp]theorem okP_bl(n:Nat) (b:Bool):okP n (.bl b)=true:=by cases n<;>rfl
@[simp]theorem okP_int(n:Nat) (b:Int):okP n (.int b)=true:=by cases n<;>rfl
@[simp]theorem okP_str(n:Nat) (b:Str):okP n (.str b)=PyData.strOk b:=by cases n<;>rfl
@[simp]theorem okP_tup{n:Nat} (h:0<n) (l:List P):okP n (.tup l)=l.all (okP (n-1)):=by
 cases n with
 |zero=>omega
 |succ n=>rfl
@[simp]theorem okP_lst{n:Nat} (h:0<n) (l:List P):okP n (.lst l)=l.all (okP (n-1)):=by
 cases n with
 |zero=>omega
 |succ n=>rfl
@[simp]theorem strOk_ofS(a:String):PyData.strOk (Str.ofString a)=true:=by
 rw[JR];unfold PyData.strOk;simp only[List.all_toArray,List.all_map,Js];intro c _;have h:=c.valid;simp only[Function.comp_apply,Jx];show c.val.toNat<_;rcases h with h|⟨_,h⟩
 ·have:c.val.toNat<55296:=h
  omega
 ·have:c.val.toNat<1114112:=h
  omega
@[simp]theorem pEqs_nil:pEqs [] []=true:=by rw[pEqs]
@[simp]theorem zFb(x y:P) (l m:List P):pEqs (x::l) (y::m)=(pEq x y&&pEqs l m):=by rw[pEqs]
@[simp]theorem pEqs_nc(y:P) (m:List P):pEqs [] (y::m)=false:=by rw[pEqs]<;>simp
@[simp]theorem pEqs_cn(y:P) (m:List P):pEqs (y::m) []=false:=by rw[pEqs]<;>simp
@[simp]theorem pEq_int(i j:Int):pEq (.int i) (.int j)=(i==j):=by rw[pEq]
@[simp]theorem pEq_str(i j:Str):pEq (.str i) (.str j)=(i==j):=by rw[pEq]
@[simp]theorem pEq_bl(i j:Bool):pEq (.bl i) (.bl j)=(i==j):=by rw[pEq]
@[simp]theorem zHk(i j:List P):pEq (.tup i) (.tup j)=pEqs i j:=by rw[pEq]
@[simp]theorem zH9(i j:List P):pEq (.lst i) (.lst j)=pEqs i j:=by rw[pEq]
theorem zDP{n:Nat} (hn:n≤64){x:P} (h:okP n x=true):∃d,toD x=some d∧SeqAt.shaped d=true:=by
 obtain⟨d,e1,e2,e3⟩:=zD8 n x h;exact⟨d,e1,by unfold SeqAt.shaped;rw[e2,decide_eq_true (VH e3 hn)];rfl⟩
mutual
theorem zFU:∀ {x y:P}{d e:PyData},toD x=some d→toD y=some e→PyData.eqv d e=pEq x y
 |x,y,d,e,hx,hy=>by
  cases x with
  |non=>rw[toD]at hx;cases hx;cases y<;>simp only[toD]at hy<;>first|(cases hy;rw[PyData.eqv,pEq]<;>simp)|(split at hy<;>cases hy<;>(rw[PyData.eqv,pEq]<;>simp))|cases hy
  |bl b=>rw[toD]at hx;cases hx;cases y<;>simp only[toD]at hy<;>first|(cases hy;rw[PyData.eqv,pEq]<;>simp)|(split at hy<;>cases hy<;>(rw[PyData.eqv,pEq]<;>simp))|cases hy
  |int i=>rw[toD]at hx;cases hx;cases y<;>simp only[toD]at hy<;>first|(cases hy;rw[PyData.eqv,pEq]<;>simp)|(split at hy<;>cases hy<;>(rw[PyData.eqv,pEq]<;>simp))|cases hy
  |str z=>rw[toD]at hx;cases hx;cases y<;>simp only[toD]at hy<;>first|(cases hy;rw[PyData.eqv,pEq]<;>simp)|(split at hy<;>cases hy<;>(rw[PyData.eqv,pEq]<;>simp))|cases hy
  |tup l =>
   rw[toD]at hx;split at hx
   ·rename_i ds e1
    cases hx;cases y with
    |tup m =>
     rw[toD]at hy;split at hy
     ·rename_i es e2
      cases hy;rw[PyData.eqv,pEq,zDW e1 e2]
     ·cases hy
    |lst m=>rw[toD]at hy;split at hy<;>cases hy;rw[PyData.eqv,pEq]<;>simp
    |non=>rw[toD]at hy;cases hy;rw[PyData.eqv,pEq]<;>simp
    |bl b=>rw[toD]at hy;cases hy;rw[PyData.eqv,pEq]<;>simp
    |int b=>rw[toD]at hy;cases hy;rw[PyData.eqv,pEq]<;>simp
    |str b=>rw[toD]at hy;cases hy;rw[PyData.eqv,pEq]<;>simp
    |scr b=>rw[toD]at hy;cases hy
    |dk b c=>rw[toD]at hy;cases hy
    |obj b c=>rw[toD]at hy;cases hy
    |exn b c=>rw[toD]at hy;cases hy
    |lam b c=>rw[toD]at hy;cases hy
    |cls b=>rw[toD]at hy;cases hy
    |fd _ _=>rw[toD]at hy;cases hy
    |fn _ _=>rw[toD]at hy;cases hy
   ·cases hx
  |lst l =>
   rw[toD]at hx;split at hx
   ·rename_i ds e1
    cases hx;cases y with
    |lst m =>
     rw[toD]at hy;split at hy
     ·rename_i es e2
      cases hy;rw[PyData.eqv,pEq,zDW e1 e2]
     ·cases hy
    |tup m=>rw[toD]at hy;split at hy<;>cases hy;rw[PyData.eqv,pEq]<;>simp
    |non=>rw[toD]at hy;cases hy;rw[PyData.eqv,pEq]<;>simp
    |bl b=>rw[toD]at hy;cases hy;rw[PyData.eqv,pEq]<;>simp
    |int b=>rw[toD]at hy;cases hy;rw[PyData.eqv,pEq]<;>simp
    |str b=>rw[toD]at hy;cases hy;rw[PyData.eqv,pEq]<;>simp
    |scr b=>rw[toD]at hy;cases hy
    |dk b c=>rw[toD]at hy;cases hy
    |obj b c=>rw[toD]at hy;cases hy
    |exn b c=>rw[toD]at hy;cases hy
    |lam b c=>rw[toD]at hy;cases hy
    |cls b=>rw[toD]at hy;cases hy
    |fd _ _=>rw[toD]at hy;cases hy
    |fn _ _=>rw[toD]at hy;cases hy
   ·cases hx
  |scr _=>rw[toD]at hx;cases hx
  |dk _ _=>rw[toD]at hx;cases hx
  |obj _ _=>rw[toD]at hx;cases hx
  |exn _ _=>rw[toD]at hx;cases hx
  |lam _ _=>rw[toD]at hx;cases hx
  |cls _=>rw[toD]at hx;cases hx
  |fd _ _=>rw[toD]at hx;cases hx
  |fn _ _=>rw[toD]at hx;cases hx
theorem zDW:∀ {l m:List P}{ds es:List PyData},toDs l=some ds→toDs m=some es→PyData.eqvAll ds es=pEqs l m
 |[],[],ds,es,h1,h2=>by rw[toDs]at h1 h2;cases h1;cases h2;rw[PyData.eqvAll,pEqs]
 |[],y::m,ds,es,h1,h2=>by
  rw[toDs]at h1;rw[toDs]at h2;cases h1;split at h2
  ·cases h2;rw[PyData.eqvAll,pEqs]<;>simp
  ·cases h2
 |x::l,[],ds,es,h1,h2=>by
  rw[toDs]at h1;rw[toDs]at h2;cases h2;split at h1
  ·cases h1;rw[PyData.eqvAll,pEqs]<;>simp
  ·cases h1
 |x::l,y::m,ds,es,h1,h2=>by
  rw[toDs]at h1;rw[toDs]at h2;split at h1
  ·rename_i d ds' e1 e2
   cases h1;split at h2
   ·rename_i e es' f1 f2
    cases h2;rw[PyData.eqvAll,pEqs,zFU e1 f1,zDW e2 f2]
   ·cases h2
  ·cases h1
end
theorem zFP{n:Bool}{x y:P} (h:okP 64 x=true) (h2:okP 64 y=true):vEqB n (.p x) (.p y) st=.ok (.p (.bl (if n=true then !pEq x y else pEq x y))) st:=by
 obtain⟨d,e1,e2⟩:=zDP (Ju _) h;obtain⟨e,f1,f2⟩:=zDP (Ju _) h2;unfold vEqB;cases hs:eqW (.p x) (.p y)with
 |some k =>
  have:pEq x y=k:=by
   have hs:eqS x y=some k:=hs;cases x<;>cases y<;>first|(unfold eqS at hs;cases hs;done)|(cases hs;rw[pEq]<;>simp)
  rw[this]
 |none =>
  unfold unD;simp only[unC_p,Option.bind_some,e1,f1];rw[JN ⟨e2,f2⟩,zFU e1 f1]
def forL(t:Tg) (b:SMm):List W→Sg→List Cell→SR
 |[],σ,st=>.ok .nx σ st
 |w::l,σ,st=>match t.put w σ with
  |none=>.no
  |some σ1=>match b σ1 st with
    | .ok .nx σ2 st2=>forL t b l σ2 st2
    | .ok .ct σ2 st2=>forL t b l σ2 st2
    | .ok .bk σ2 st2=>.ok .nx σ2 st2
    |r=>r
theorem zFI{l:List W} (get:List Cell→Nat→Option (Option W)) (t:Tg) (b:SMm) (n0:Nat) (hg:∀st i,i≤l.length→get st i=some l[i]?):∀(n i:Nat) (σ:Sg) (st:List Cell),i≤l.length→l.length-i<n→forF ⟨get,n0⟩ t b n i σ st=forL t b (l.drop i) σ st:=by
 intro n
 induction n with
 |zero=>intro i σ st hi h;omega
 |succ n ih =>
  intro i σ st hi h;rw[forF];show(match get st i with|none=>SR.no|some none=>.ok .nx σ st|some (some w)=>_)=_
  rw[hg st i hi]
  by_cases hl:i<l.length
  ·rw[Jk hl,Vu hl,forL];simp only;cases t.put l[i] σ with
   |none=>rfl
   |some σ1 =>
    simp only;have e:∀σ2 st2,forF ⟨get,n0⟩ t b n (i+1) σ2 st2=forL t b (l.drop (i+1)) σ2 st2:=fun σ2 st2=>ih (i+1) σ2 st2 ∅ ∅
    cases b σ1 st with
    |ok f σ2 st2=>cases f<;>simp only[e]
    |exc _ _ _=>rfl
    |no=>rfl
  ·rw[Jw ∅,JS ∅,forL]
theorem zEt(l:List W) (t:Tg) (b:SMm) (σ:Sg) (st:List Cell):forF (srcL l) t b (l.length+1) 0 σ st=forL t b l σ st:=by
 have:=zFI (l:=l) (fun _ i=>some l[i]?) t b l.length (fun _ _ _=>rfl) (l.length+1) 0 σ st ∅ ∅
 rw[Vd]at this;exact this
theorem zFJ(l:List W) (t:Tg) (b:SMm) (σ:Sg) (st:List Cell):forF (srcZ l) t b (l.length+1) 0 σ st=forL t b l σ st:=by
 have:=zFI (l:=l) (fun _ i=>if i≤l.length then some l[i]? else none) t b l.length (fun _ i hi=>JN hi) (l.length+1) 0 σ st ∅ ∅
 rw[Vd]at this;exact this
@[simp]theorem zG9(l:List W):(srcL l).n=l.length:=rfl
@[simp]theorem zG5(l:List W):(srcZ l).n=l.length:=rfl
def zFn(t:Tg) (b:SMm) (σ:Sg) (src:Src) (st1:List Cell):SR:=forF src t b (src.n+1) 0 σ st1
theorem zFT(t:Tg) (b:SMm) (src:Src):zFn t b σ src st=forF src t b (src.n+1) 0 σ st:=rfl
@[simp]theorem sFor_e(m:IM) (t:Tg) (b:SMm):sFor m t b σ st=(m σ st).to σ (zFn t b σ):=rfl
def forK(t:Tg) (b:SMm) (l:List W) (r:SR):SR:=match r with
    | .ok .nx σ2 st2=>forL t b l σ2 st2
    | .ok .ct σ2 st2=>forL t b l σ2 st2
    | .ok .bk σ2 st2=>.ok .nx σ2 st2
    |r=>r
def forP(t:Tg) (b:SMm) (l:List W) (st:List Cell) (o:Option Sg):SR:=match o with
 |none=>.no
 |some σ1=>forK t b l (b σ1 st)
@[simp]theorem forL_nil(t:Tg) (b:SMm):forL t b [] σ st=.ok .nx σ st:=rfl
@[simp]theorem zFW(t:Tg) (b:SMm) (w:W) (l:List W):forL t b (w::l) σ st=forP t b l st (t.put w σ):=by
 rw[forL];unfold forP forK;rfl
@[simp]theorem forP_e(t:Tg) (b:SMm) (l:List W):forP t b l st (some σ)=forK t b l (b σ st):=rfl
@[simp]theorem forK_nx(t:Tg) (b:SMm) (l:List W):forK t b l (.ok .nx σ st)=forL t b l σ st:=rfl
@[simp]theorem forK_ct(t:Tg) (b:SMm) (l:List W):forK t b l (.ok .ct σ st)=forL t b l σ st:=rfl
@[simp]theorem forK_bk(t:Tg) (b:SMm) (l:List W):forK t b l (.ok .bk σ st)=.ok .nx σ st:=rfl
@[simp]theorem forK_rt(t:Tg) (b:SMm) (l:List W) (w:W):forK t b l (.ok (.rt w) σ st)=.ok (.rt w) σ st:=rfl
@[simp]theorem forK_no(t:Tg) (b:SMm) (l:List W):forK t b l .no=.no:=rfl
@[simp]theorem forK_ite(t:Tg) (b:SMm) (l:List W){c:Prop} [Decidable c] (x y:SR):forK t b l (if c then x else y)=if c then forK t b l x else forK t b l y:=by split<;>rfl
def zHN(b:SMm) (st:List Cell) (o:Option Sg):SR:=match o with
 |some σ1=>b σ1 st
 |none=>.no
@[simp]theorem zHr(b:SMm):zHN b st (some σ)=b σ st:=rfl
def zD7(t:Tg) (b:SMm) (w:W) (σ:Sg) (st:List Cell):SR:=zHN b st (t.put w σ)
@[simp]theorem stepS_nm(i:Nat) (b:SMm) (w:W):zD7 (.nm i) b w σ st=b (σ.set i (some w)) st:=by unfold zD7;simp
@[simp]theorem stepS_tp(ts:List Tg) (b:SMm) (l:List P):zD7 (.tp ts) b (.p (.tup l)) σ st=zHN b st (Tg.puts ts l σ):=by unfold zD7;simp
def Sq(I:Sg→List Cell→Prop) (F:SR→Prop) (r:SR):Prop:=match r with
 | .ok .nx σ st=>I σ st
 | .ok .ct σ st=>I σ st
 | .ok .bk σ st=>F (.ok .nx σ st)
 | .ok (.rt w) σ st=>F (.ok (.rt w) σ st)
 |_=>False
@[simp]theorem Sq_nx(I:Sg→List Cell→Prop) (F:SR→Prop):Sq I F (.ok .nx σ st)=I σ st:=rfl
@[simp]theorem Sq_ct(I:Sg→List Cell→Prop) (F:SR→Prop):Sq I F (.ok .ct σ st)=I σ st:=rfl
@[simp]theorem Sq_bk(I:Sg→List Cell→Prop) (F:SR→Prop):Sq I F (.ok .bk σ st)=F (.ok .nx σ st):=rfl
@[simp]theorem Sq_rt(I:Sg→List Cell→Prop) (F:SR→Prop) (w:W):Sq I F (.ok (.rt w) σ st)=F (.ok (.rt w) σ st):=rfl
@[simp]theorem Sq_no(I:Sg→List Cell→Prop) (F:SR→Prop):Sq I F .no=False:=rfl
@[simp]theorem Sq_ite(I:Sg→List Cell→Prop) (F:SR→Prop){c:Prop} [Decidable c] (a b:SR):Sq I F (if c then a else b)=if c then Sq I F a else Sq I F b:=by split<;>rfl
theorem zFV{t:Tg}{b:SMm} (F:SR→Prop) (I:Nat→Sg→List Cell→Prop):∀ {l:List W}{σ:Sg}{st:List Cell},I 0 σ st →
  (∀(i:Nat) (w:W) σ st,l[i]?=some w→I i σ st→Sq (I (i+1)) F (zD7 t b w σ st))→(∀σ st,I l.length σ st→F (.ok .nx σ st))→F (forL t b l σ st):=by
 have go:∀ {l:List W}{k:Nat}{σ:Sg}{st:List Cell},I k σ st→(∀(i:Nat) (w:W) σ st,l[i]?=some w→I (k+i) σ st→Sq (I (k+i+1)) F (zD7 t b w σ st))→(∀σ st,I (k+l.length) σ st→F (.ok .nx σ st))→F (forL t b l σ st):=by
  intro l
  induction l with
  |nil=>intro k σ st h _ e;exact e σ st h
  |cons w l ih =>
   intro k σ st h s e;have s0:=s 0 w σ st rfl h;rw[zFW];unfold zD7 at s0;cases ep:t.put w σ with
   |none=>rw[ep]at s0;exact s0.elim
   |some σ1 =>
    rw[ep,zHr]at s0;rw[forP_e]
    have nxt:∀σ2 st2,I (k+0+1) σ2 st2→F (forL t b l σ2 st2):=fun σ2 st2 h2=>ih (k:=k+0+1) h2
     (fun i w' σ' st' g g2=>by
      have:=s (i+1) w' σ' st' (by simpa using g) (by rw[show k+(i+1)=k+0+1+i by omega];exact g2)
      rw[show k+(i+1)+1=k+0+1+i+1 by omega]at this
      exact this)
     (fun σ' st' g=>e σ' st' (by rw[List.length_cons,show k+(l.length+1)=k+0+1+l.length by omega];exact g))
    cases hr:b σ1 st with
    |ok f σ2 st2 =>
     rw[hr]at s0;cases f with
     |nx=>exact nxt σ2 st2 s0
     |ct=>exact nxt σ2 st2 s0
     |bk=>exact s0
     |rt v=>exact s0
    |exc _ _ _=>rw[hr]at s0;exact s0.elim
    |no=>rw[hr]at s0;exact s0.elim
 intro l σ st h s e;refine go (k:=0) h (fun i w σ st g g2=>?_) (fun σ st g=>e σ st (by rw[Nat.zero_add]at g;exact g))
 rw[Nat.zero_add]at g2 ⊢;exact s i w σ st g g2
def lcL(t:Tg) (c:TM) (e:EM) (σ0:Sg):List W→List Cell→Res (List W)
 |[],st=>.ok [] st
 |w::l,st=>match t.put w σ0 with
   |none=>.no
   |some σ1=>(c σ1 st).nox.bind fun k st1=>if k=true then(e σ1 st1).nox.bind fun w st2=>(lcL t c e σ0 l st2).bind fun ws st3=>.ok (w::ws) st3 else lcL t c e σ0 l st1
theorem zG3{l:List W} (get:List Cell→Nat→Option (Option W)) (t:Tg) (c:TM) (e:EM) (σ0:Sg) (n0:Nat) (hg:∀st i,i≤l.length→get st i=some l[i]?):∀(n i:Nat) (st:List Cell),i≤l.length→l.length-i<n→lcF ⟨get,n0⟩ t c e σ0 n i st=lcL t c e σ0 (l.drop i) st:=by
 intro n
 induction n with
 |zero=>intro i st hi h;omega
 |succ n ih =>
  intro i st hi h;rw[lcF];show(match get st i with|none=>Res.no|some none=>.ok [] st|some (some w)=>_)=_
  rw[hg st i hi]
  by_cases hl:i<l.length
  ·rw[Jk hl,Vu hl,lcL];simp only;cases t.put l[i] σ0 with
   |none=>rfl
   |some σ1 =>
    simp only
    congr 1;funext k st1
    rw[ih (i+1) st1 ∅ ∅]
    by_cases hk:k=true
    ·rw[JN hk,JN hk]
     congr 1;funext w st2
     rw[ih (i+1) st2 ∅ ∅]
    ·rw[J9 hk,J9 hk]
  ·rw[Jw ∅,JS ∅,lcL]
theorem zFi(l:List W) (t:Tg) (c:TM) (e:EM) (σ0:Sg) (st:List Cell):lcF (srcL l) t c e σ0 (l.length+1) 0 st=lcL t c e σ0 l st:=by
 have:=zG3 (l:=l) (fun _ i=>some l[i]?) t c e σ0 l.length (fun _ _ _=>rfl) (l.length+1) 0 st ∅ ∅
 rw[Vd]at this;exact this
theorem zGY(l:List W) (t:Tg) (c:TM) (e:EM) (σ0:Sg) (st:List Cell):lcF (srcZ l) t c e σ0 (l.length+1) 0 st=lcL t c e σ0 l st:=by
 have:=zG3 (l:=l) (fun _ i=>if i≤l.length then some l[i]? else none) t c e σ0 l.length (fun _ i hi=>JN hi) (l.length+1) 0 st ∅ ∅
 rw[Vd]at this;exact this
def lcK(t:Tg) (vs:List Nat) (c:TM) (e:EM) (fin:List W→List Cell→Res W) (σ:Sg) (src:Src) (st1:List Cell):Res W:=if src.n≤1000000 then(lcF src t c e (zB5 σ vs) (src.n+1) 0 st1).bind fin else .no
theorem lcK_e(t:Tg) (vs:List Nat) (c:TM) (e:EM) (fin:List W→List Cell→Res W) (src:Src):lcK t vs c e fin σ src st=if src.n≤1000000 then(lcF src t c e (zB5 σ vs) (src.n+1) 0 st).bind fin else .no:=rfl
@[simp]theorem mLc_e(m:IM) (t:Tg) (vs:List Nat) (c:TM) (e:EM) (fin:List W→List Cell→Res W):mLc m t vs c e fin σ st=(m σ st).bind (lcK t vs c e fin σ):=rfl
@[simp]theorem lcK_L(t:Tg) (vs:List Nat) (c:TM) (e:EM) (fin:List W→List Cell→Res W) (l:List W):lcK t vs c e fin σ (srcL l) st=if l.length≤1000000 then(lcL t c e (zB5 σ vs) l st).bind fin else .no:=by
 rw[lcK_e,zG9,zFi]
@[simp]theorem lcK_Z(t:Tg) (vs:List Nat) (c:TM) (e:EM) (fin:List W→List Cell→Res W) (l:List W):lcK t vs c e fin σ (srcZ l) st=if l.length≤1000000 then(lcL t c e (zB5 σ vs) l st).bind fin else .no:=by
 rw[lcK_e,zG5,zGY]
@[simp]theorem sforK_L(t:Tg) (b:SMm) (l:List W):zFn t b σ (srcL l) st=forL t b l σ st:=by
 rw[zFT,zG9,zEt]
@[simp]theorem sforK_Z(t:Tg) (b:SMm) (l:List W):zFn t b σ (srcZ l) st=forL t b l σ st:=by
 rw[zFT,zG5,zFJ]
@[simp]theorem mYes_e:mYes σ st=.ok true st:=rfl
@[simp]theorem wipeS_nil:zB5 σ []=σ:=rfl
@[simp]theorem zIL(v:Nat) (vs:List Nat):zB5 σ (v::vs)=(zB5 σ vs).set v none:=rfl
@[simp]theorem finP_e(ws:List W):finP ws st=pR (fun l=>.p (.lst l)) (pures ws) st:=by unfold finP pR;rfl
def lcP(t:Tg) (c:TM) (e:EM) (σ0:Sg) (l:List W) (st:List Cell) (o:Option Sg):Res (List W):=match o with
 |none=>.no
 |some σ1=>(c σ1 st).nox.bind fun k st1=>if k=true then(e σ1 st1).nox.bind fun w st2=>(lcL t c e σ0 l st2).bind fun ws st3=>.ok (w::ws) st3 else lcL t c e σ0 l st1
@[simp]theorem lcL_nil(t:Tg) (c:TM) (e:EM) (σ0:Sg):lcL t c e σ0 [] st=.ok [] st:=rfl
@[simp]theorem zF7(t:Tg) (c:TM) (e:EM) (σ0:Sg) (w:W) (l:List W):lcL t c e σ0 (w::l) st=lcP t c e σ0 l st (t.put w σ0):=by
 rw[lcL];unfold lcP;rfl
def lcC2(t:Tg) (c:TM) (e:EM) (σ0:Sg) (l:List W) (w:W) (st2:List Cell):Res (List W):=(lcL t c e σ0 l st2).bind (zDg w)
@[simp]theorem lcC2_e(t:Tg) (c:TM) (e:EM) (σ0:Sg) (l:List W) (w:W):lcC2 t c e σ0 l w st=(lcL t c e σ0 l st).bind (zDg w):=rfl
def lcC(t:Tg) (c:TM) (e:EM) (σ0:Sg) (l:List W) (σ:Sg) (k:Bool) (st1:List Cell):Res (List W):=if k=true then(e σ st1).nox.bind (lcC2 t c e σ0 l)else lcL t c e σ0 l st1
@[simp]theorem lcC_e(t:Tg) (c:TM) (e:EM) (σ0:Sg) (l:List W) (k:Bool):lcC t c e σ0 l σ k st=if k=true then(e σ st).nox.bind (lcC2 t c e σ0 l)else lcL t c e σ0 l st:=rfl
@[simp]theorem lcP_e(t:Tg) (c:TM) (e:EM) (σ0:Sg) (l:List W):lcP t c e σ0 l st (some σ)=(c σ st).nox.bind (lcC t c e σ0 l σ):=rfl
theorem zEQ{α:Type}{l:List α}{f:α→W}{t:Tg}{e:EM}{σ0:Sg}{st:List Cell} (g:α→P) (H:∀x∈l,∃σ1,t.put (f x) σ0=some σ1∧e σ1 st=.ok (.p (g x)) st):lcL t mYes e σ0 (l.map f) st=.ok (l.map fun x=>.p (g x)) st:=by
 induction l with
 |nil=>rfl
 |cons x l ih =>
  obtain⟨σ1,e1,e2⟩:=H x Ji;rw[JZ,zF7,e1,lcP_e,mYes_e];simp only[Res.nox_ok,Res.bind_ok,lcC_e,if_true,e2,lcC2_e];rw[ih fun y m=>H y (Jy _ m)]
  rfl
def srcR(o:Option Src) (st:List Cell):Res Src:=match o with
 |some s=>.ok s st
 |none=>.no
@[simp]theorem srcR_e(s:Src):srcR (some s) st=.ok s st:=rfl
def srcK(w:W) (st1:List Cell):Res Src:=srcR (vSrc st1 w) st1
@[simp]theorem srcK_e(w:W):srcK w st=srcR (vSrc st w) st:=rfl
@[simp]theorem mSrc_e(m:EM):mSrc m σ st=(m σ st).bind srcK:=rfl
@[simp]theorem vSrc_lst(l:List P):vSrc st (.p (.lst l))=some (srcL (l.map .p)):=rfl
@[simp]theorem vSrc_tup(l:List P):vSrc st (.p (.tup l))=some (srcL (l.map .p)):=rfl
@[simp]theorem vSrc_str(z:Str):vSrc st (.p (.str z))=some (srcL (zDf z)):=rfl
def zipR(x y:Option (List P)) (st:List Cell):Res Src:=match x,y with
 |some l,some m=>.ok (srcZ (zipL l m)) st
 |_,_=>.no
@[simp]theorem zipR_e(l m:List P):zipR (some l) (some m) st=.ok (srcZ (zipL l m)) st:=rfl
def zHg(x y:W) (st1:List Cell):Res Src:=zipR (zB6 x) (zB6 y) st1
@[simp]theorem zipK2_e(x y:W):zHg x y st=zipR (zB6 x) (zB6 y) st:=rfl
def zipK(b:EM) (σ:Sg) (x:W) (st1:List Cell):Res Src:=(b σ st1).bind (zHg x)
@[simp]theorem zipK_e(b:EM) (x:W):zipK b σ x st=(b σ st).bind (zHg x):=rfl
@[simp]theorem mZipA_e(a b:EM):zH1 a b σ st=(a σ st).bind (zipK b σ):=rfl
@[simp]theorem zIO(l:List P):zB6 (.p (.lst l))=some l:=rfl
@[simp]theorem zIK(l:List P):zB6 (.p (.tup l))=some l:=rfl
@[simp]theorem zIH(z:Str):zB6 (.p (.str z))=some (z.cps.toList.map fun c=>.str ⟨#[c]⟩):=rfl
@[simp high] theorem zIN:zB6 (.p (.str (Str.ofString "abc")))=some [.str (Str.ofString "a"),.str (Str.ofString "b"),.str (Str.ofString "c")]:=rfl
@[simp]theorem zFG(x y:P) (l m:List P):zipL (x::l) (y::m)=.p (.tup [x,y])::zipL l m:=rfl
@[simp]theorem zipL_nil(m:List P):zipL [] m=[]:=by unfold zipL;rfl
@[simp]theorem zipL_nil2(m:List P):zipL m []=[]:=by cases m<;>rfl
@[simp]theorem chars_abc:zDf (Str.ofString "abc")=[.p (.str (Str.ofString "a")),.p (.str (Str.ofString "b")),.p (.str (Str.ofString "c"))]:=by
 unfold zDf;rfl
def Gv(r:Res W) (x:P):Prop:=match r with
 | .ok w _=>w=.p x
 |_=>False
@[simp]theorem Gv_ok(w:W) (x:P):Gv (.ok w st) x=(w=.p x):=rfl
@[simp]theorem Gv_no(x:P):Gv .no x=False:=rfl
@[simp]theorem Gv_ite{c:Prop} [Decidable c] (a b:Res W) (x:P):Gv (if c then a else b) x=if c then Gv a x else Gv b x:=by split<;>rfl
theorem Gv.ex{r:Res W}{x:P} (h:Gv r x):∃st',r=.ok (.p x) st':=by
 unfold Gv at h;split at h
 ·subst h;exact⟨_,rfl⟩
 ·exact h.elim
def Pu(F:FM) (xs:List P) (r:P):Prop:=Gv (F (xs.map W.p) []) r
theorem zB3:∀(xs:List P),zAY (xs.map W.p)=[]
 |[]=>rfl
 |x::xs=>by show zAY (xs.map W.p)=[];exact zB3 xs
theorem zCW:∀(xs:List P) (k:Nat),zCa k (xs.map W.p)=xs.map W.p
 |[],_=>rfl
 |x::xs,k=>by show W.p x::zCa k (xs.map W.p)=_;rw[zCW xs k];rfl
theorem Pu.call{F:FM}{xs:List P}{r:P} (h:Pu F xs r) (st:List Cell):zAI F (xs.map W.p) st=.ok (.p r) st:=by
 obtain⟨st',h⟩:=Gv.ex h;unfold zAI;rw[zB3,zCW,JN List.nodup_nil];show callEnd 0 [] st (F (xs.map W.p) [])=_;rw[h];simp[Y.callEnd,Y.putCells]
theorem Pu.of1{F:FM}{x r:P} (h:Gv (F [.p x] []) r):Pu F [x] r:=h
theorem Pu.of2{F:FM}{x y r:P} (h:Gv (F [.p x,.p y] []) r):Pu F [x,y] r:=h
theorem Pu.call1{F:FM}{x r:P} (h:Pu F [x] r) (st:List Cell):zAI F [.p x] st=.ok (.p r) st:=h.call st
theorem Pu.call2{F:FM}{x y r:P} (h:Pu F [x,y] r) (st:List Cell):zAI F [.p x,.p y] st=.ok (.p r) st:=h.call st
end
def bagC(ns:List Int) (a b s:Int):Cell:=.lst [.p (.lst (ns.map .int)),.p (.int a),.p (.int b),.p (.int s)]
def GB(c:Cell):Prop:=∃ns a b s,c=bagC ns a b s∧0≤a∧0≤b∧0≤s∧s<2147483587
theorem GB.plain{c:Cell} (h:GB c):zBi c=true:=by
 obtain⟨ns,a,b,s,rfl,_⟩:=h;rfl
def Gb(R:P→Prop) (r:Res W):Prop:=match r with
 | .ok (.p x) (c::_)=>GB c∧R x
 |_=>False
@[simp]theorem Gb_ok(R:P→Prop) (x:P) (c:Cell) (l:List Cell):Gb R (.ok (.p x) (c::l))=(GB c∧R x):=rfl
@[simp]theorem Gb_ite{R:P→Prop}{c:Prop} [Decidable c] (a b:Res W):Gb R (if c then a else b)=if c then Gb R a else Gb R b:=by split<;>rfl
@[simp]theorem Gb_no(R:P→Prop):Gb R .no=False:=rfl
theorem Gb.ex{R:P→Prop}{r:Res W} (h:Gb R r):∃x c l,r=.ok (.p x) (c::l)∧GB c∧R x:=by
 unfold Gb at h;split at h
 ·exact⟨_,_,_,rfl,h.1,h.2⟩
 ·exact h.elim
def Bg(F:FM) (xs:List P) (R:P→Prop):Prop:=∀c,GB c→Gb R (F (.r 0::xs.map W.p) [c])
theorem Bg.call{F:FM}{xs:List P}{R:P→Prop} (h:Bg F xs R){c:Cell} (g:GB c) (rest:List Cell):∃x c',zAI F (.r 0::xs.map W.p) (c::rest)=.ok (.p x) (c'::rest)∧GB c'∧R x:=by
 obtain⟨x,c',l,e,g',hr⟩:=Gb.ex (h c g);refine⟨x,c',?_,g',hr⟩;have e1:zAY (.r 0::xs.map W.p)=[0]:=by show 0::zAY (xs.map W.p)=_;rw[zB3]
 have e2:zCa 0 (.r 0::xs.map W.p)=.r 0::xs.map W.p:=by show W.r 0::zCa 1 (xs.map W.p)=_;rw[zCW]
 unfold zAI;rw[e1,JN (by simp),e2]
 simp[Y.getCells,g.plain,e,Y.callEnd,Y.putCells,g'.plain]
theorem Bg.call1{F:FM}{y:P}{R:P→Prop} (h:Bg F [y] R){c:Cell} (g:GB c) (rest:List Cell):∃x c',zAI F [.r 0,.p y] (c::rest)=.ok (.p x) (c'::rest)∧GB c'∧R x:=h.call g rest
theorem Bg.call2{F:FM}{y z:P}{R:P→Prop} (h:Bg F [y,z] R){c:Cell} (g:GB c) (rest:List Cell):∃x c',zAI F [.r 0,.p y,.p z] (c::rest)=.ok (.p x) (c'::rest)∧GB c'∧R x:=h.call g rest
end YZ
namespace YS
open Y YZ
def zBJ:FM:=runF 1 3 (sSeq (sSet 1 (mC (.int 3845)))
  (sSeq (sFor (mSrc (mSl (mVar 0) zGQ (zGp (mC (.int 63))))) (.nm 2) (sSet 1 (mBin vMod (zAk vInt %[(mBin vAdd (mBin vAdd (mBin zDi (mVar 1) (mC (.int 48611))) (mBin vMod (zAk vInt %[(mVar 2)|0]) (mC (.int 2147483423)))) (mC (.int 31)))|0]) (mC (.int 2147483587)))))
  (sRet (zHl %[(zAk zDo %[(mSl (mVar 0) zGQ (zGp (mC (.int 63))))|0]),(mC (.int 0)),(mC (.int 0)),(mVar 1)|0]))))
def zAq:FM:=runF 2 5 (sSeq (sIf (zHG (mTst (mBin (vEqB false) (mBin vIx (mVar 0) (mC (.int 2))) (mC (.int 0)))) (mTst (mBin vLt (mBin vIx (mVar 0) (mC (.int 1))) (zAk vLen %[(mBin vIx (mVar 0) (mC (.int 0)))|0])))) (sSeq (sSet 3 (mBin vIx (mBin vIx (mVar 0) (mC (.int 0))) (mBin vIx (mVar 0) (mC (.int 1)))))
  (sSeq (zC3 (mVar 0) (mC (.int 1)) (mBin vAdd (mBin vIx (mVar 0) (mC (.int 1))) (mC (.int 1))))
  (sIf (mTst (mBin vGe (mVar 3) (mBin vPow (mC (.int 10)) (mC (.int 18))))) (zC3 (mVar 0) (mC (.int 2)) (mVar 3)) (zC3 (mVar 0) (mC (.int 3)) (mBin vMod (zAk vInt %[(mBin vAdd (mBin vAdd (mBin zDi (mBin vIx (mVar 0) (mC (.int 3))) (mC (.int 45989))) (mBin zDi (mBin vMod (zAk vInt %[(mVar 3)|0]) (mC (.int 2147483423))) (mC (.int 1409)))) (mC (.int 23)))|0]) (mC (.int 2147483587))))))) sNx)
  (sSeq (sIf (mTst (mBin vGt (mBin vIx (mVar 0) (mC (.int 2))) (mC (.int 0)))) (sSeq (sSet 4 (mBin vMod (zAk vInt %[(mBin vIx (mVar 0) (mC (.int 2)))|0]) (mVar 1)))
  (sSeq (zC3 (mVar 0) (mC (.int 2)) (mBin vFdv (mBin vIx (mVar 0) (mC (.int 2))) (mVar 1)))
  (sRet (mVar 4)))) sNx)
  (sSeq (sSet 2 (mBin vIx (mVar 0) (mC (.int 3))))
  (sSeq (zC3 (mVar 0) (mC (.int 3)) (mBin vMod (zAk vInt %[(mBin vAdd (mBin vAdd (mBin zDi (mVar 2) (mVar 2)) (mBin zDi (mVar 2) (mC (.int 31013)))) (mC (.int 1400033)))|0]) (mC (.int 2147483587))))
  (sRet (mBin vMod (zAk vInt %[(mBin vAdd (mBin vFdv (mBin vIx (mVar 0) (mC (.int 3))) (mC (.int 71))) (mBin zDi (mBin vMod (zAk vInt %[(mBin vIx (mVar 0) (mC (.int 3)))|0]) (mC (.int 8087))) (mC (.int 61))))|0]) (mVar 1)))))))
def zB9:FM:=runF 2 2 (sRet (mBin vIx (mVar 1) (zBV zAq %[(mVar 0),(zAk vLen %[(mVar 1)|0])|0])))
theorem zES{n:Int} (h0:0<n) (z:Int):0≤z%n∧z%n<n:=⟨Int.emod_nonneg _ ∅,Int.emod_lt_of_pos _ h0⟩
theorem GB.mk{ns:List Int}{a b s:Int} (ha:0≤a) (hb:0≤b) (hs:0≤s∧s<2147483587):GB (Cell.lst [W.p (P.lst (List.map P.int ns)),W.p (P.int a),W.p (P.int b),W.p (P.int s)]):=⟨ns,a,b,s,rfl,ha,hb,hs.1,hs.2⟩
theorem zHh{n:Int} (h0:0<n) (h1:n.natAbs.log2<9000):Bg zAq [.int n] fun x=>∃k:Int,x=.int k∧0≤k∧k<n:=by
 rintro c ⟨ns,a,b,s,rfl,ha,hb,hs,hs2⟩;have m1:zCl s 45989=true:=mulOk_of (Sm.small ∅) (Sm.small ∅);have m2:∀z:Int,zCl (z%2147483423) 1409=true:=fun z=>mulOk_of (Sm.small ∅) (Sm.small ∅)
 have m3:∀z:Int,zCl (z%2147483587) (z%2147483587)=true:=fun z=>mulOk_of (Sm.small ∅) (Sm.small ∅)
 have m4:∀z:Int,zCl (z%2147483587) 31013=true:=fun z=>mulOk_of (Sm.small ∅) (Sm.small ∅)
 have m5:∀z:Int,zCl (z%8087) 61=true:=fun z=>mulOk_of (Sm.small ∅) (Sm.small ∅)
 have m6:zCl s s=true:=mulOk_of (Sm.small ∅) (Sm.small ∅);have m7:zCl s 31013=true:=mulOk_of (Sm.small ∅) (Sm.small ∅);have l71:Nat.log2 71<9000:=by decide
 have pm:=zES h0;have p7:=zES (n:=2147483587) (!0);have qn:0≤b/n:=Int.ediv_nonneg hb ∅
 by_cases hc:b=0∧a<ns.length
 ·obtain⟨rfl,hl⟩:=hc
  have hx:L2.atI (ns.map P.int) a=some (.int (ns[a.toNat]'(by omega))):=by
   rw[atI_nat ha,Jn,Jk ∅];rfl
  generalize ns[a.toNat]'(by omega)=x at hx
  by_cases hb2:(1000000000000000000:Int)≤x
  ·have hx0:0<x:=by omega
   have hxn:0≤x/n:=Int.ediv_nonneg ∅ ∅;simp[zAq,zAK,bagC,hl,hx,hb2,hx0,h0,h1,GB.mk (show 0≤a+1 by omega) hxn ⟨hs,hs2⟩,pm]
  ·simp[zAq,zAK,bagC,hl,hx,hb2,m1,m2,m3,m4,m5,l71,h0,h1,GB.mk (show 0≤a+1 by omega) (Int.le_refl 0) (p7 _),pm]
 ·have hc':b=0→¬a<ns.length:=fun e h=>hc ⟨e,h⟩
  by_cases hb0:b=0
  ·subst hb0;simp[zAq,zAK,bagC,hc' rfl,m6,m7,m5,l71,h0,h1,GB.mk ha (Int.le_refl 0) (p7 _),pm]
  ·have hb1:0<b:=by omega
   simp[zAq,zAK,bagC,hb0,hb1,h0,h1,GB.mk ha qn ⟨hs,hs2⟩,pm]
theorem zF9(ns:List Int):∃c,zAI zBJ [.p (.scr ns)] []=.ok (.r 0) [c]∧GB c:=by
 have e2:∃s,zBJ [.p (.scr ns)] []=.ok (.r 0) [bagC (ns.take 63) 0 0 s]∧0≤s∧s<2147483587:=by
  simp[zBJ,zAK];refine zFV (fun r=>∃s:Int,runR (r.then _)=Res.ok (W.r 0) [bagC (List.take 63 ns) 0 0 s]∧0≤s∧s<2147483587) (fun _ σ st=>∃s x,σ=[some (.p (.scr ns)),some (.p (.int s)),x]∧st=[]∧0≤s∧s<2147483587) ⟨3845,none,rfl,rfl,!0,!0⟩ ?_ ?_
  ·rintro i w σ st hw ⟨s,x,rfl,rfl,h1,h2⟩;have hm:=List.mem_of_mem_take (Jj hw);obtain⟨z,hz,rfl⟩:=List.mem_map.mp hm;have m1:zCl s 48611=true:=mulOk_of (Sm.small ∅) (Sm.small ∅)
   conv=>arg 3;simp[m1]
   exact⟨_,_,rfl,rfl,∅,∅⟩
  ·rintro σ st ⟨s,x,rfl,rfl,h1,h2⟩;refine⟨s,?_,h1,h2⟩;simp[bagC]
 obtain⟨s,e2,h1,h2⟩:=e2;refine⟨bagC (ns.take 63) 0 0 s,?_,ns.take 63,0,0,s,rfl,!0,!0,h1,h2⟩;unfold zAI;simp[zAY,zCa,Y.getCells,e2,Y.callEnd,Y.putCells,bagC,zBi,content]
theorem zEp{n:Int} (h0:0≤n) (h:n≤1000000000):n.natAbs.log2<9000:=Nat.lt_trans (log2_lt (k:=30) (by have:(2:Nat)^30=1073741824:=rfl;omega) (!0)) (!0)
theorem of_bg{l:List P} (h:l≠[]) (h1:l.length≤1000000):Bg zB9 [.lst l] fun x=>x∈l:=by
 intro c hc;have hl:0<l.length:=List.length_pos_iff.mpr h;obtain⟨r,c',e,hc',k,rfl,k0,k1⟩:=(zHh (n:=l.length) ∅ (zEp ∅ ∅)).call1 hc [];have hk:L2.atI l k=some (l[k.toNat]'(by omega)):=by rw[atI_nat k0,Jk ∅]
 simp[zB9,zAK,e,hk,hc']
def zAJ:Nat→FM
 |0=>fun _ _=>.no
 |n+1=>runF 2 4 (sSeq (sIf (mOrT (mTru (mIsi "list" (mVar 1))) (mTru (mIsi "tuple" (mVar 1)))) (sSeq (sIf (mOrT (mTst (mBin (vEqB true) (mIsi "list" (mVar 0)) (mIsi "list" (mVar 1)))) (mTst (mBin (vEqB true) (mIsi "tuple" (mVar 0)) (mIsi "tuple" (mVar 1))))) (sRet (mC (.bl false))) sNx)
  (sRet (zEW (mBin (vEqB false) (zAk vLen %[(mVar 0)|0]) (zAk vLen %[(mVar 1)|0])) (zAk (zEw fun bs=>bs.all id) %[(mLc (zH1 (mVar 0) (mVar 1)) (.tp [(.nm 2),(.nm 3)]) [2,3] mYes (zBV (zAJ n) %[(mVar 2),(mVar 3)|0]) finP)|0])))) sNx)
  (sSeq (sIf (mOrT (mTst (mBin (vIsN false) (mVar 1) (mC .non))) (mTst (mBin (vIsN false) (mVar 0) (mC .non)))) (sRet (zEW (mBin (vIsN false) (mVar 1) (mC .non)) (mBin (vIsN false) (mVar 0) (mC .non)))) sNx)
  (sSeq (sIf (mOrT (mTst (mBin (vEqB true) (mIsi "bool" (mVar 0)) (mIsi "bool" (mVar 1)))) (mTst (mBin (vEqB true) (mIsi "int" (mVar 0)) (mIsi "int" (mVar 1))))) (sRet (mC (.bl false))) sNx)
  (sRet (zEW (mBin (vEqB false) (mIsi "str" (mVar 0)) (mIsi "str" (mVar 1))) (mBin (vEqB false) (mVar 0) (mVar 1)))))))
def datP:Nat→P→Bool
 |_,.non=>true
 |_,.bl _=>true
 |_,.int _=>true
 |_,.str _=>true
 |n+1,.tup l=>decide (l.length≤100000)&&l.all (datP n)
 |n+1,.lst l=>decide (l.length≤100000)&&l.all (datP n)
 |_,_=>false
theorem zC5:∀l:List P,zipL l l=l.map fun x=>.p (.tup [x,x])
 |[]=>rfl
 |x::l=>by rw[zFG,zC5 l];rfl
theorem same_refl:∀(n:Nat) (x:P),datP n x=true→∀st,zAI (zAJ (n+1)) [.p x,.p x] st=.ok (.p (.bl true)) st:=by
 intro n
 induction n with
 |zero =>
  intro x h st;refine Pu.call2 (Pu.of2 ?_) st;cases x with
  |non=>simp[zAJ,zAK]
  |bl b=>simp[zAJ,zAK]
  |int b=>simp[zAJ,zAK]
  |str b=>simp[zAJ,zAK]
  |tup l=>rw[datP]at h<;>first|cases h|(intros;contradiction)
  |lst l=>rw[datP]at h<;>first|cases h|(intros;contradiction)
  |scr l=>rw[datP]at h<;>first|cases h|(intros;contradiction)
  |dk _ _=>rw[datP]at h<;>first|cases h|(intros;contradiction)
  |obj _ _=>rw[datP]at h<;>first|cases h|(intros;contradiction)
  |exn _ _=>rw[datP]at h<;>first|cases h|(intros;contradiction)
  |lam _ _=>rw[datP]at h<;>first|cases h|(intros;contradiction)
  |cls _=>rw[datP]at h<;>first|cases h|(intros;contradiction)
  |fd _ _=>rw[datP]at h<;>first|cases h|(intros;contradiction)
  |fn _ _=>rw[datP]at h<;>first|cases h|(intros;contradiction)
 |succ n ih =>
  intro x h st;refine Pu.call2 (Pu.of2 ?_) st;cases x with
  |non=>simp[zAJ,zAK]
  |bl b=>simp[zAJ,zAK]
  |int b=>simp[zAJ,zAK]
  |str b=>simp[zAJ,zAK]
  |tup l =>
   rw[datP,Jh]at h;have hl:=JD h.1;rw[zAJ,zAK];simp[zC5,show l.length≤1000000 by omega]
   rw[zEQ (fun _=>.bl true) (fun x mx=>⟨_,by simp;rfl,by simp[ih x (Js.mp h.2 x mx)]⟩)]
   simp
  |lst l =>
   rw[datP,Jh]at h;have hl:=JD h.1;rw[zAJ,zAK];simp[zC5,show l.length≤1000000 by omega]
   rw[zEQ (fun _=>.bl true) (fun x mx=>⟨_,by simp;rfl,by simp[ih x (Js.mp h.2 x mx)]⟩)]
   simp
  |scr l=>rw[datP]at h<;>first|cases h|(intros;contradiction)
  |dk _ _=>rw[datP]at h<;>first|cases h|(intros;contradiction)
  |obj _ _=>rw[datP]at h<;>first|cases h|(intros;contradiction)
  |exn _ _=>rw[datP]at h<;>first|cases h|(intros;contradiction)
  |lam _ _=>rw[datP]at h<;>first|cases h|(intros;contradiction)
  |cls _=>rw[datP]at h<;>first|cases h|(intros;contradiction)
  |fd _ _=>rw[datP]at h<;>first|cases h|(intros;contradiction)
  |fn _ _=>rw[datP]at h<;>first|cases h|(intros;contradiction)
end YS
namespace YZ
open Y
section
variable {σ:Sg}{st:List Cell}{α β:Type}
@[simp]theorem Res.nox_exc(x:Exn):(Res.exc x st:Res α).nox=.no:=rfl
@[simp]theorem Res.to_exc(x:Exn) (k:α→List Cell→SR):(Res.exc x st:Res α).to σ k=.exc x σ st:=rfl
@[simp]theorem SR.then_exc(x:Exn) (k:Sg→List Cell→SR):(SR.exc x σ st).then k=.exc x σ st:=rfl
@[simp]theorem SR.nox_exc(x:Exn):(SR.exc x σ st).nox=.no:=rfl
@[simp]theorem forK_exc(t:Tg) (b:SMm) (l:List W) (x:Exn):forK t b l (.exc x σ st)=.exc x σ st:=rfl
end
section
variable {st:List Cell}
theorem zCz:∀ {l:List P},(∀x∈l,pEq x x=true)→pEqs l l=true
 |[],_=>by simp
 |x::l,h=>by rw[zFb,h x Ji,zCz fun y m=>h y (Jy _ m)];rfl
theorem zDS:∀(n:Nat) (x:P),okP n x=true→pEq x x=true
 |n,.non,_=>by rw[pEq]
 |n,.int i,_=>by simp
 |n,.str i,_=>by simp
 |n,.bl i,_=>by simp
 |0,.tup l,h=>by rw[okP]at h<;>first|cases h|(intros;contradiction)
 |0,.lst l,h=>by rw[okP]at h<;>first|cases h|(intros;contradiction)
 |n+1,.tup l,h=>by
  rw[okP,Js]at h;rw[zHk];exact zCz fun x m=>zDS n x (h x m)
 |n+1,.lst l,h=>by
  rw[okP,Js]at h;rw[zH9];exact zCz fun x m=>zDS n x (h x m)
 |n,.scr _,h=>by cases n<;>(rw[okP]at h<;>first|cases h|(intros;contradiction))
 |n,.obj _ _,h=>by cases n<;>(rw[okP]at h<;>first|cases h|(intros;contradiction))
 |n,.exn _ _,h=>by cases n<;>(rw[okP]at h<;>first|cases h|(intros;contradiction))
 |n,.lam _ _,h=>by cases n<;>(rw[okP]at h<;>first|cases h|(intros;contradiction))
 |n,.cls _,h=>by cases n<;>(rw[okP]at h<;>first|cases h|(intros;contradiction))
 |n,.fd _ _,h=>by cases n<;>(rw[okP]at h<;>first|cases h|(intros;contradiction))
 |n,.fn _ _,h=>by cases n<;>(rw[okP]at h<;>first|cases h|(intros;contradiction))
 |n,.dk _ _,h=>by cases n<;>(rw[okP]at h<;>first|cases h|(intros;contradiction))
theorem zCS{n:Bool}{x:P} (h:okP 64 x=true):vEqB n (.p x) (.p x) st=.ok (.p (.bl (!n))) st:=by
 rw[zFP h h,zDS 64 x h];cases n<;>rfl
end
section
variable {σ:Sg}{st:List Cell}
def zH6(j:Nat) (c:Option Cell):Option Src:=match c with
 |some (.lst l)=>some (srcC j l.length)
 |_=>none
@[simp]theorem srcCO_e(j:Nat) (l:List W):zH6 j (some (.lst l))=some (srcC j l.length):=rfl
@[simp]theorem vSrc_r(j:Nat):vSrc st (.r j)=zH6 j st[j]?:=by
 show(match st[j]? with|some (.lst l)=>some (srcC j l.length)|_=>none)=_
 unfold zH6;rfl
end
section
@[simp]theorem put_tp2(i j:Nat) (x y:P) (σ:Sg):(Tg.tp [.nm i,.nm j]).put (.p (.tup [x,y])) σ=some ((σ.set i (some (.p x))).set j (some (.p y))):=by simp
variable {σ:Sg}{st:List Cell}
end
section
variable {σ σ0:Sg}{st:List Cell}
@[simp]theorem vMulL_e(l:List P) (n:Int):zDm (.p (.lst l)) (.p (.int n)) st=if 0≤n∧n≤1000∧l.length≤1000 then .ok (.p (.lst (List.replicate n.toNat l).flatten)) st else .no:=rfl
end
section
variable {σ σ0:Sg}{st:List Cell}{ys:List P}
@[simp]theorem GR.then_nx(k:Sg→List Cell→List P→GR):(GR.ok .nx σ st ys).then k=k σ st ys:=rfl
@[simp]theorem GR.then_rt(w:W) (k:Sg→List Cell→List P→GR):(GR.ok (.rt w) σ st ys).then k=.ok (.rt w) σ st ys:=rfl
@[simp]theorem GR.then_bk(k:Sg→List Cell→List P→GR):(GR.ok .bk σ st ys).then k=.ok .bk σ st ys:=rfl
@[simp]theorem GR.then_ct(k:Sg→List Cell→List P→GR):(GR.ok .ct σ st ys).then k=.ok .ct σ st ys:=rfl
@[simp]theorem GR.then_exc(x:Exn) (k:Sg→List Cell→List P→GR):(GR.exc x σ st).then k=.exc x σ st:=rfl
@[simp]theorem GR.then_no(k:Sg→List Cell→List P→GR):GR.no.then k=.no:=rfl
@[simp]theorem GR.then_ite{c:Prop} [Decidable c] (a b:GR) (k:Sg→List Cell→List P→GR):(if c then a else b).then k=if c then a.then k else b.then k:=by split<;>rfl
@[simp]theorem SR.gr_ok(f:Fl):(SR.ok f σ st).gr ys=.ok f σ st ys:=rfl
@[simp]theorem SR.gr_exc(x:Exn):(SR.exc x σ st).gr ys=.exc x σ st:=rfl
@[simp]theorem SR.gr_no:SR.no.gr ys=.no:=rfl
@[simp]theorem Res.gto_ok{α:Type} (a:α) (k:α→List Cell→GR):(Res.ok a st).gto σ k=k a st:=rfl
@[simp]theorem Res.gto_exc{α:Type} (x:Exn) (k:α→List Cell→GR):(Res.exc x st:Res α).gto σ k=.exc x σ st:=rfl
@[simp]theorem Res.gto_no{α:Type} (k:α→List Cell→GR):(Res.no:Res α).gto σ k=.no:=rfl
@[simp]theorem pj_id(x:P):Pjk.pj .id x=some x:=rfl
@[simp]theorem pj_fst'(a b:P):Pjk.pj .fst (.tup [a,b])=some a:=rfl
end
end YZ
namespace YS
open Y YZ NS
def ord(l:List P):List P:=srtD (ddK l)
def pos(l:List P) (x:P):Nat:=(ord l).findIdx fun y=>decide (nkOf y=nkOf x)
section
open Y YZ
abbrev Arcs:=List (Int×Int)
end
section
open Y YZ
def tb:Nat→Nat
 |0=>60
 |n+1=>4*tb n+40
end
section
open Y YZ
def fl(x:Int):Int:=if 0<x then 1 else 0
end
section
open Y YZ
inductive Wy where
 |heard|counted|two|marked
end
section
open Y YZ
def sOf(l:List Nat):Str:=⟨l.toArray⟩
end
section
open Y YZ
def nxt(n i:Nat):Int:=Int.ofNat ((i+1)%n)
end
section
open Y YZ
def srcs(A:Arcs) (v:Int):List Int:=(A.filter fun q=>decide (q.2=v)).map (·.1)
end
section
open Y YZ
def tw(n:Nat):Int:=(2:Int)^n
def ex(S:Int) (n:Nat):Int:=if S%tw n=0 then 1 else 0
theorem l2:Nat.log2 2<9000:=by decide +kernel
end
section
open Y YZ
def bl(m:Int):Nat:=if m=0 then 0 else m.natAbs.log2+1
end
section
open Y YZ
abbrev AZ:=List ((Int×Int)×Int)
end
section
open Y YZ
def ix(o:List Int) (v:Int):Nat:=o.idxOf v
def gt(s:Str) (v:Int):Nat:=s.cps.toList.getD v.toNat 0
def mv(o:List Int) (s:Str):Str:=sOf (o.map (gt s))
def mQ(o:List Int) (q:Int×Int):Int×Int:=((ix o q.1:Nat),(ix o q.2:Nat))
def mA(o:List Int) (A:Arcs):Arcs:=A.map (mQ o)
def bk(n:Nat) (o:List Int):List Int:=(List.range n).map fun(i:Nat)=>((ix o (i:Int):Nat):Int)
end
section
open Y YZ
def hOf(L:Arcs) (u:Int):Int:=((L.find? fun q=>decide (q.1=u)).map Prod.snd).getD 0
def dif(L:Arcs) (q:(Int×Int)×Int):Int:=hOf L q.1.1+q.2-hOf L q.1.2
end
section
open Y YZ
inductive Pw (Z:AZ) (u:Int):Int→Int→Prop
 |nil:Pw Z u u 0
 |step {v w x z:Int}:Pw Z u v x→((v,w),z)∈Z→Pw Z u w (x+z)
theorem Pw.trans{Z:AZ}{u v w x y:Int} (h:Pw Z u v x) (k:Pw Z v w y):Pw Z u w (x+y):=by
 induction k with
 |nil=>rw[Int.add_zero];exact h
 |@step a b y z _ m ih =>
  rw[show x+(y+z)=(x+y)+z by omega]
  exact .step ih m
def nd(k:Nat) (v i:Int):Int:=v*k+i
def Lp(k:Nat) (Z:AZ) (x:Int):Prop:=∃y,Pw Z 0 0 y∧(k:Int)∣x-y
theorem Lp.zero(k:Nat) (Z:AZ):Lp k Z 0:=⟨0,.nil,⟨0,by simp⟩⟩
end
section
open Y YZ
abbrev Tri:=Int×Int×Int
def hT(k:Nat) (q:Int×Int):Tri:=(q.1/k,q.2/k,q.2%k)
end
section
open Y YZ
def outs(A:Arcs) (v:Int):Nat:=(A.filter fun q=>decide (q.1=v)).length
def kn:Wy→Bool
 | .counted=>true
 | .marked=>true
 |_=>false
def mk(w:Wy) (s:Str) (A:Arcs) (v:Nat):P:=.tup [match s.cps.toList[v]? with|some c=>.str ⟨#[c]⟩|none=>.non,.int (if kn w=true then outs A v else 0)]
end
def at0(N:List Int) (v:Int):Int:=(N[v.toNat]?).getD 0
def cntR(m:Nat) (T:List Int):List Int:=(List.range m).map fun(k:Nat)=>(((T.filter fun x=>decide (x=(k:Int))).length:Nat):Int)
def bR(A:Arcs) (m:Nat) (N:List Int):List (List Int):=(List.range m).map fun(j:Nat)=>cntR m ((sortI (srcs A (ix N (j:Int):Nat))).map (at0 N))
section
variable {w:Wy}{s:Str}{A:Arcs}
@[simp]theorem nox_ok(f:Fl) (σ:Sg) (st:List Cell):SR.nox (.ok f σ st)=.ok f σ st:=rfl
end
theorem zGu{x:P} (h:datP 11 x=true) (st:List Cell):zAI (zAJ 12) [.p x,.p x] st=.ok (.p (.bl true)) st:=same_refl 11 x h st
end YS
namespace K74
open Y YZ YS NS
def zAD:List (Nat×Str):=[(17, "InvalidLetters"),(18, "InvalidArc"),(19, "NotConnected"),(20, "InvalidNode"),(21, "InvalidOrder"),(22, "InvalidWay"),(23, "NotOfWay"),(24, "InvalidRounds"),(25, "NotKnown"),(26, "InvalidShifts"),(27, "InvalidSheets"),(28, "InvalidCounts"),(29, "InvalidQuestion"),(30, "TooMany"),(31, "InvalidText"),(32, "TooWide"),(33, "NotAnswered"),(34, "InvalidRules"),(35, "TooLong"),(36, "InvalidName"),(37, "DuplicateName"),(38, "WrongKind"),(39, "CapacityExceeded"),(40, "InvalidLimit"),(41, "InvalidCommand"),(42, "ParseError"),(43, "UnknownName"),(44, "NothingLeft")]
def zAW:FM:=runF 1 5 (sSeq (sSet 1 (mLst %[(zBR 20 (mVar 0) "InvalidNode"),(zBR 22 (mVar 0) "InvalidWay"),(zBR 23 (mVar 0) "NotOfWay"),(zBR 24 (mVar 0) "InvalidRounds"),(zBR 27 (mVar 0) "InvalidSheets"),(zBR 33 (mVar 0) "NotAnswered")|0]))
  (sSeq (sSet 2 (mLst %[(zBR 36 (mVar 0) "InvalidName"),(zBR 37 (mVar 0) "DuplicateName"),(zBR 38 (mVar 0) "WrongKind"),(zBR 43 (mVar 0) "UnknownName")|0]))
  (sSeq (sSet 3 (mLst %[(zBR 39 (mVar 0) "CapacityExceeded"),(zBR 40 (mVar 0) "InvalidLimit"),(zBR 41 (mVar 0) "InvalidCommand"),(zBR 42 (mVar 0) "ParseError")|0]))
  (sSeq (sSet 4 (mLst %[(zCk 17 "InvalidLetters"),(zCk 19 "NotConnected"),(zCk 21 "InvalidOrder"),(zCk 25 "NotKnown"),(zCk 26 "InvalidShifts"),(zCk 28 "InvalidCounts"),(zCk 29 "InvalidQuestion"),(zCk 31 "InvalidText"),(zCk 44 "NothingLeft")|0]))
  (sRet (mLst %[(mVar 1),(mLst %[(zBR 18 (mVar 0) "InvalidArc"),(zBR 34 (mVar 0) "InvalidRules")|0]),(mVar 2),(mLst %[(zBR 30 (mVar 0) "TooMany"),(zBR 32 (mVar 0) "TooWide"),(zBR 35 (mVar 0) "TooLong")|0]),(mVar 3),(mVar 4)|0]))))))
def zAA:FM:=runF 1 3 (sSeq (sSet 1 (mLst %[(mIsX (isTb zAD [false,false,false,true,false,false,false,false,false,false,false,false,false,false,false,false,false,false,false,false,false,false,false,false,false,false,false,false]) (mVar 0)),(mIsX (isTb zAD [false,false,false,false,false,true,false,false,false,false,false,false,false,false,false,false,false,false,false,false,false,false,false,false,false,false,false,false]) (mVar 0)),(mIsX (isTb zAD [false,false,false,false,false,false,true,false,false,false,false,false,false,false,false,false,false,false,false,false,false,false,false,false,false,false,false,false]) (mVar 0)),(mIsX (isTb zAD [false,false,false,false,false,false,false,true,false,false,false,false,false,false,false,false,false,false,false,false,false,false,false,false,false,false,false,false]) (mVar 0)),(mIsX (isTb zAD [false,false,false,false,false,false,false,false,false,false,true,false,false,false,false,false,false,false,false,false,false,false,false,false,false,false,false,false]) (mVar 0)),(mIsX (isTb zAD [false,false,false,false,false,false,false,false,false,false,false,false,false,false,false,false,true,false,false,false,false,false,false,false,false,false,false,false]) (mVar 0))|0]))
  (sSeq (sSet 1 (mBin vAdd (mVar 1) (mLst %[(mIsX (isTb zAD [false,true,false,false,false,false,false,false,false,false,false,false,false,false,false,false,false,false,false,false,false,false,false,false,false,false,false,false]) (mVar 0)),(mIsX (isTb zAD [false,false,false,false,false,false,false,false,false,false,false,false,false,false,false,false,false,true,false,false,false,false,false,false,false,false,false,false]) (mVar 0)),(mIsX (isTb zAD [false,false,false,false,false,false,false,false,false,false,false,false,false,false,false,false,false,false,false,true,false,false,false,false,false,false,false,false]) (mVar 0)),(mIsX (isTb zAD [false,false,false,false,false,false,false,false,false,false,false,false,false,false,false,false,false,false,false,false,true,false,false,false,false,false,false,false]) (mVar 0)),(mIsX (isTb zAD [false,false,false,false,false,false,false,false,false,false,false,false,false,false,false,false,false,false,false,false,false,true,false,false,false,false,false,false]) (mVar 0)),(mIsX (isTb zAD [false,false,false,false,false,false,false,false,false,false,false,false,false,false,false,false,false,false,false,false,false,false,false,false,false,false,true,false]) (mVar 0))|0])))
  (sSeq (sSet 1 (mBin vAdd (mVar 1) (mLst %[(mIsX (isTb zAD [false,false,false,false,false,false,false,false,false,false,false,false,false,true,false,false,false,false,false,false,false,false,false,false,false,false,false,false]) (mVar 0)),(mIsX (isTb zAD [false,false,false,false,false,false,false,false,false,false,false,false,false,false,false,true,false,false,false,false,false,false,false,false,false,false,false,false]) (mVar 0)),(mIsX (isTb zAD [false,false,false,false,false,false,false,false,false,false,false,false,false,false,false,false,false,false,true,false,false,false,false,false,false,false,false,false]) (mVar 0)),(mIsX (isTb zAD [false,false,false,false,false,false,false,false,false,false,false,false,false,false,false,false,false,false,false,false,false,false,true,false,false,false,false,false]) (mVar 0)),(mIsX (isTb zAD [false,false,false,false,false,false,false,false,false,false,false,false,false,false,false,false,false,false,false,false,false,false,false,true,false,false,false,false]) (mVar 0)),(mIsX (isTb zAD [false,false,false,false,false,false,false,false,false,false,false,false,false,false,false,false,false,false,false,false,false,false,false,false,true,false,false,false]) (mVar 0))|0])))
  (sSeq (sSet 1 (mBin vAdd (mVar 1) (mLst %[(mIsX (isTb zAD [false,false,false,false,false,false,false,false,false,false,false,false,false,false,false,false,false,false,false,false,false,false,false,false,false,true,false,false]) (mVar 0)),(mIsX (isTb zAD [true,false,false,false,false,false,false,false,false,false,false,false,false,false,false,false,false,false,false,false,false,false,false,false,false,false,false,false]) (mVar 0)),(mIsX (isTb zAD [false,false,true,false,false,false,false,false,false,false,false,false,false,false,false,false,false,false,false,false,false,false,false,false,false,false,false,false]) (mVar 0)),(mIsX (isTb zAD [false,false,false,false,true,false,false,false,false,false,false,false,false,false,false,false,false,false,false,false,false,false,false,false,false,false,false,false]) (mVar 0)),(mIsX (isTb zAD [false,false,false,false,false,false,false,false,true,false,false,false,false,false,false,false,false,false,false,false,false,false,false,false,false,false,false,false]) (mVar 0)),(mIsX (isTb zAD [false,false,false,false,false,false,false,false,false,true,false,false,false,false,false,false,false,false,false,false,false,false,false,false,false,false,false,false]) (mVar 0))|0])))
  (sSeq (sSet 1 (mBin vAdd (mVar 1) (mLst %[(mIsX (isTb zAD [false,false,false,false,false,false,false,false,false,false,false,true,false,false,false,false,false,false,false,false,false,false,false,false,false,false,false,false]) (mVar 0)),(mIsX (isTb zAD [false,false,false,false,false,false,false,false,false,false,false,false,true,false,false,false,false,false,false,false,false,false,false,false,false,false,false,false]) (mVar 0)),(mIsX (isTb zAD [false,false,false,false,false,false,false,false,false,false,false,false,false,false,true,false,false,false,false,false,false,false,false,false,false,false,false,false]) (mVar 0)),(mIsX (isTb zAD [false,false,false,false,false,false,false,false,false,false,false,false,false,false,false,false,false,false,false,false,false,false,false,false,false,false,false,true]) (mVar 0))|0])))
  (sRet (zAk zE2 %[(mLc (mSrc (mVar 1)) (.nm 2) [2] mYes (zAk vInt %[(mVar 2)|0]) finP)|0])))))))
def sm_law:FM:=runF 1 14 (sSeq (sSet 1 (zBV zBJ %[(mVar 0)|0]))
  (sSeq (sSet 2 (zBV zB9 %[(mVar 1),(mLst %[(mC (.int 3)),(mC .non),(mC (.str "x")),(mTup %[(mC (.int 1)),(mC (.int 2))|0]),(mBin vPow (mC (.int 10)) (mC (.int 20)))|0])|0]))
  (sSeq (zGK [(.nm 3),(.nm 4),(.nm 5),(.nm 6),(.nm 7),(.nm 8)] (zBV zAW %[(mVar 2)|0]))
  (sSeq (sSet 9 (mBin vAdd (mBin vAdd (mBin vAdd (mLc (mSrc (mVar 3)) (.nm 13) [13] mYes (mXf [(20,0),(22,0),(23,0),(24,0),(27,0),(33,0)] (mVar 13)) finP) (mLc (mSrc (mVar 4)) (.nm 13) [13] mYes (mXf [(18,0),(34,0)] (mVar 13)) finP)) (mLc (mSrc (mVar 5)) (.nm 13) [13] mYes (mXf [(36,0),(37,0),(38,0),(43,0)] (mVar 13)) finP)) (mLc (mSrc (mVar 6)) (.nm 13) [13] mYes (mXf [(30,0),(32,0),(35,0)] (mVar 13)) finP)))
  (sSeq (sSet 9 (mBin vAdd (mVar 9) (mLst %[(mXf [(39,0),(40,0)] (mBin vIx (mVar 7) (mC (.int 0)))),(mXf [(39,0),(40,0)] (mBin vIx (mVar 7) (mC (.int 1)))),(mXf [(41,0)] (mBin vIx (mVar 7) (mC (.int 2)))),(mXf [(42,0)] (mBin vIx (mVar 7) (mC (.int 3))))|0])))
  (sSeq (sIf (zGs (mTru (zBV (zAJ 12) %[(mVar 9),(mBin zDm (mLst %[(mVar 2)|0]) (mC (.int 19)))|0]))) (sRet (mC (.bl false))) sNx)
  (sSeq (sSet 10 (mBin vAdd (mBin vAdd (mBin vAdd (mBin vAdd (mBin vAdd (mVar 3) (mVar 4)) (mVar 5)) (mVar 6)) (mVar 7)) (mVar 8)))
  (sSeq (sSet 11 (mLst %[(mC (.str "InvalidNode")),(mC (.str "InvalidWay")),(mC (.str "NotOfWay")),(mC (.str "InvalidRounds"))|0]))
  (sSeq (sSet 11 (mBin vAdd (mVar 11) (mLst %[(mC (.str "InvalidSheets")),(mC (.str "NotAnswered")),(mC (.str "InvalidArc")),(mC (.str "InvalidRules"))|0])))
  (sSeq (sSet 11 (mBin vAdd (mVar 11) (mLst %[(mC (.str "InvalidName")),(mC (.str "DuplicateName"))|0])))
  (sSeq (sSet 11 (mBin vAdd (mVar 11) (mLst %[(mC (.str "WrongKind")),(mC (.str "UnknownName")),(mC (.str "TooMany")),(mC (.str "TooWide")),(mC (.str "TooLong"))|0])))
  (sSeq (sSet 11 (mBin vAdd (mVar 11) (mLst %[(mC (.str "CapacityExceeded")),(mC (.str "InvalidLimit")),(mC (.str "InvalidCommand")),(mC (.str "ParseError"))|0])))
  (sSeq (sSet 11 (mBin vAdd (mVar 11) (mLst %[(mC (.str "InvalidLetters"))|0])))
  (sSeq (sSet 11 (mBin vAdd (mVar 11) (mLst %[(mC (.str "NotConnected")),(mC (.str "InvalidOrder")),(mC (.str "NotKnown")),(mC (.str "InvalidShifts"))|0])))
  (sSeq (sSet 11 (mBin vAdd (mVar 11) (mLst %[(mC (.str "InvalidCounts")),(mC (.str "InvalidQuestion")),(mC (.str "InvalidText")),(mC (.str "NothingLeft"))|0])))
  (sSeq (sIf (mTst (mBin (vEqB true) (mLc (mSrc (mVar 10)) (.nm 13) [13] mYes (mXf [(17,0),(18,1),(19,0),(20,1),(21,0),(22,1),(23,1),(24,1),(25,0),(26,0),(27,1),(28,0),(29,0),(30,1),(31,0),(32,1),(33,1),(34,1),(35,1),(36,1),(37,1),(38,1),(39,1),(40,1),(41,1),(42,1),(43,1),(44,0)] (mVar 13)) finP) (mVar 11))) (sRet (mC (.bl false))) sNx)
  (sSeq (sIf (mTst (mBin (vEqB true) (mLc (mSrc (mVar 10)) (.nm 13) [13] mYes (zBV zAA %[(mVar 13)|0]) finP) (mBin zDm (mLst %[(mC (.int 1))|0]) (zAk vLen %[(mVar 10)|0])))) (sRet (mC (.bl false))) sNx)
  (sSeq (sIf (mTst (mBin (vEqB true) (mLc (mSrc (mVar 10)) (.nm 13) [13] mYes (mIsX (isTb zAD [true,true,true,true,true,true,true,true,true,true,true,true,true,true,true,true,true,true,true,true,true,true,true,true,true,true,false,false]) (mVar 13)) finP) (mLc (mSrc (mVar 10)) (.nm 13) [13] mYes (mBin (vInB true) (mXf [(17,0),(18,1),(19,0),(20,1),(21,0),(22,1),(23,1),(24,1),(25,0),(26,0),(27,1),(28,0),(29,0),(30,1),(31,0),(32,1),(33,1),(34,1),(35,1),(36,1),(37,1),(38,1),(39,1),(40,1),(41,1),(42,1),(43,1),(44,0)] (mVar 13)) (mLst %[(mC (.str "UnknownName")),(mC (.str "NothingLeft"))|0])) finP))) (sRet (mC (.bl false))) sNx)
  (sSeq (sIf (mTst (mBin (vEqB true) (mLc (mSrc (mVar 10)) (.nm 13) [13] mYes (mIsX (isTb zAD [true,true,true,true,true,true,true,true,true,true,true,true,true,true,true,true,true,true,true,true,true,true,true,true,true,true,false,false]) (mVar 13)) finP) (mLc (mSrc (mVar 10)) (.nm 13) [13] mYes (mIsX (isTb zAD [true,true,true,true,true,true,true,true,true,true,true,true,true,true,true,true,true,true,true,true,true,true,true,true,true,true,false,false]) (mVar 13)) finP))) (sRet (mC (.bl false))) sNx)
  (sSeq (sSet 12 (mLst %[(mIsX (isTb zAD [false,false,false,false,false,false,false,false,false,false,false,false,false,false,false,false,false,false,false,false,false,false,false,false,false,false,true,false]) (mBin vIx (mVar 5) (mC (.int 3)))),(mIsX (isTb zAD [false,false,false,false,false,false,false,false,false,false,false,false,false,false,false,false,false,false,false,false,false,false,false,false,false,false,true,true]) (mBin vIx (mVar 5) (mC (.int 3))))|0]))
  (sSeq (sSet 12 (mBin vAdd (mVar 12) (mLst %[(mIsX (isTb zAD [false,false,false,false,false,false,false,false,false,false,false,false,false,false,false,false,false,false,false,false,false,false,false,false,false,false,false,true]) (mBin vIx (mVar 8) (mC (.int 8)))),(mIsX (isTb zAD [false,false,false,false,false,false,false,false,false,false,false,false,false,false,false,false,false,false,false,false,false,false,false,false,false,false,true,false]) (mBin vIx (mVar 8) (mC (.int 8))))|0])))
  (sRet (mBin (vEqB false) (mVar 12) (mLst %[(mC (.bl true)),(mC (.bl true)),(mC (.bl true)),(mC (.bl false))|0]))))))))))))))))))))))))
def bR:SMm:=(sSeq (zGK [(.nm 3),(.nm 4),(.nm 5),(.nm 6),(.nm 7),(.nm 8)] (zBV zAW %[(mVar 2)|0])) (sSeq (sSet 9 (mBin vAdd (mBin vAdd (mBin vAdd (mLc (mSrc (mVar 3)) (.nm 13) [13] mYes (mXf [(20 ,0),(22 ,0),(23 ,0),(24 ,0),(27 ,0),(33 ,0)] (mVar 13)) finP) (mLc (mSrc (mVar 4)) (.nm 13) [13] mYes (mXf [(18 ,0),(34 ,0)] (mVar 13)) finP)) (mLc (mSrc (mVar 5)) (.nm 13) [13] mYes (mXf [(36 ,0),(37 ,0),(38 ,0),(43 ,0)] (mVar 13)) finP)) (mLc (mSrc (mVar 6)) (.nm 13) [13] mYes (mXf [(30 ,0),(32 ,0),(35 ,0)] (mVar 13)) finP))) (sSeq (sSet 9 (mBin vAdd (mVar 9) (mLst %[(mXf [(39 ,0),(40 ,0)] (mBin vIx (mVar 7) (mC (.int 0)))),(mXf [(39 ,0),(40 ,0)] (mBin vIx (mVar 7) (mC (.int 1)))),(mXf [(41 ,0)] (mBin vIx (mVar 7) (mC (.int 2)))),(mXf [(42 ,0)] (mBin vIx (mVar 7) (mC (.int 3))))|0]))) (sSeq (sIf (zGs (mTru (zBV (zAJ 12) %[(mVar 9),(mBin zDm (mLst %[(mVar 2)|0]) (mC (.int 19)))|0]))) (sRet (mC (.bl false))) sNx) (sSeq (sSet 10 (mBin vAdd (mBin vAdd (mBin vAdd (mBin vAdd (mBin vAdd (mVar 3) (mVar 4)) (mVar 5)) (mVar 6)) (mVar 7)) (mVar 8))) (sSeq (sSet 11 (mLst %[(mC (.str "InvalidNode")),(mC (.str "InvalidWay")),(mC (.str "NotOfWay")),(mC (.str "InvalidRounds"))|0])) (sSeq (sSet 11 (mBin vAdd (mVar 11) (mLst %[(mC (.str "InvalidSheets")),(mC (.str "NotAnswered")),(mC (.str "InvalidArc")),(mC (.str "InvalidRules"))|0]))) (sSeq (sSet 11 (mBin vAdd (mVar 11) (mLst %[(mC (.str "InvalidName")),(mC (.str "DuplicateName"))|0]))) (sSeq (sSet 11 (mBin vAdd (mVar 11) (mLst %[(mC (.str "WrongKind")),(mC (.str "UnknownName")),(mC (.str "TooMany")),(mC (.str "TooWide")),(mC (.str "TooLong"))|0]))) (sSeq (sSet 11 (mBin vAdd (mVar 11) (mLst %[(mC (.str "CapacityExceeded")),(mC (.str "InvalidLimit")),(mC (.str "InvalidCommand")),(mC (.str "ParseError"))|0]))) (sSeq (sSet 11 (mBin vAdd (mVar 11) (mLst %[(mC (.str "InvalidLetters"))|0]))) (sSeq (sSet 11 (mBin vAdd (mVar 11) (mLst %[(mC (.str "NotConnected")),(mC (.str "InvalidOrder")),(mC (.str "NotKnown")),(mC (.str "InvalidShifts"))|0]))) (sSeq (sSet 11 (mBin vAdd (mVar 11) (mLst %[(mC (.str "InvalidCounts")),(mC (.str "InvalidQuestion")),(mC (.str "InvalidText")),(mC (.str "NothingLeft"))|0]))) (sSeq (sIf (mTst (mBin (vEqB true) (mLc (mSrc (mVar 10)) (.nm 13) [13] mYes (mXf [(17 ,0),(18 ,1),(19 ,0),(20 ,1),(21 ,0),(22 ,1),(23 ,1),(24 ,1),(25 ,0),(26 ,0),(27 ,1),(28 ,0),(29 ,0),(30 ,1),(31 ,0),(32 ,1),(33 ,1),(34 ,1),(35 ,1),(36 ,1),(37 ,1),(38 ,1),(39 ,1),(40 ,1),(41 ,1),(42 ,1),(43 ,1),(44 ,0)] (mVar 13)) finP) (mVar 11))) (sRet (mC (.bl false))) sNx) (sSeq (sIf (mTst (mBin (vEqB true) (mLc (mSrc (mVar 10)) (.nm 13) [13] mYes (zBV zAA %[(mVar 13)|0]) finP) (mBin zDm (mLst %[(mC (.int 1))|0]) (zAk vLen %[(mVar 10)|0])))) (sRet (mC (.bl false))) sNx) (sSeq (sIf (mTst (mBin (vEqB true) (mLc (mSrc (mVar 10)) (.nm 13) [13] mYes (mIsX (isTb zAD [true,true,true,true,true,true,true,true,true,true,true,true,true,true,true,true,true,true,true,true,true,true,true,true,true,true,false,false]) (mVar 13)) finP) (mLc (mSrc (mVar 10)) (.nm 13) [13] mYes (mBin (vInB true) (mXf [(17 ,0),(18 ,1),(19 ,0),(20 ,1),(21 ,0),(22 ,1),(23 ,1),(24 ,1),(25 ,0),(26 ,0),(27 ,1),(28 ,0),(29 ,0),(30 ,1),(31 ,0),(32 ,1),(33 ,1),(34 ,1),(35 ,1),(36 ,1),(37 ,1),(38 ,1),(39 ,1),(40 ,1),(41 ,1),(42 ,1),(43 ,1),(44 ,0)] (mVar 13)) (mLst %[(mC (.str "UnknownName")),(mC (.str "NothingLeft"))|0])) finP))) (sRet (mC (.bl false))) sNx) (sSeq (sIf (mTst (mBin (vEqB true) (mLc (mSrc (mVar 10)) (.nm 13) [13] mYes (mIsX (isTb zAD [true,true,true,true,true,true,true,true,true,true,true,true,true,true,true,true,true,true,true,true,true,true,true,true,true,true,false,false]) (mVar 13)) finP) (mLc (mSrc (mVar 10)) (.nm 13) [13] mYes (mIsX (isTb zAD [true,true,true,true,true,true,true,true,true,true,true,true,true,true,true,true,true,true,true,true,true,true,true,true,true,true,false,false]) (mVar 13)) finP))) (sRet (mC (.bl false))) sNx) (sSeq (sSet 12 (mLst %[(mIsX (isTb zAD [false,false,false,false,false,false,false,false,false,false,false,false,false,false,false,false,false,false,false,false,false,false,false,false,false,false,true,false]) (mBin vIx (mVar 5) (mC (.int 3)))),(mIsX (isTb zAD [false,false,false,false,false,false,false,false,false,false,false,false,false,false,false,false,false,false,false,false,false,false,false,false,false,false,true,true]) (mBin vIx (mVar 5) (mC (.int 3))))|0])) (sSeq (sSet 12 (mBin vAdd (mVar 12) (mLst %[(mIsX (isTb zAD [false,false,false,false,false,false,false,false,false,false,false,false,false,false,false,false,false,false,false,false,false,false,false,false,false,false,false,true]) (mBin vIx (mVar 8) (mC (.int 8)))),(mIsX (isTb zAD [false,false,false,false,false,false,false,false,false,false,false,false,false,false,false,false,false,false,false,false,false,false,false,false,false,false,true,false]) (mBin vIx (mVar 8) (mC (.int 8))))|0]))) (sRet (mBin (vEqB false) (mVar 12) (mLst %[(mC (.bl true)),(mC (.bl true)),(mC (.bl true)),(mC (.bl false))|0]))))))))))))))))))))))
def zEq:FM:=runF 1 14 (sSeq (sSet 1 (zBV zBJ %[(mVar 0)|0])) (sSeq (sSet 2 (zBV zB9 %[(mVar 1),(mLst %[(mC (.int 3)),(mC .non),(mC (.str "x")),(mTup %[(mC (.int 1)),(mC (.int 2))|0]),(mBin vPow (mC (.int 10)) (mC (.int 20)))|0])|0])) bR))
theorem law_eq:sm_law=zEq:=rfl
def Yes(r:Res W):Prop:=∃st,r=.ok (.p (.bl true)) st
def isXR(o:Option Bool) (st:List Cell):Res W:=match o with
 |some b=>.ok (.p (.bl b)) st
 |none=>.no
@[simp]theorem isXR_e(b:Bool) (st:List Cell):isXR (some b) st=.ok (.p (.bl b)) st:=rfl
def isXK(tb:List (Nat×Bool)) (w:W) (st:List Cell):Res W:=match w with
 | .p (.exn c _)=>isXR (tb.lookup c) st
 |_=>.no
theorem zAU(tb:List (Nat×Bool)) (a:EM) (σ:Sg) (st:List Cell):mIsX tb a σ st=(a σ st).bind (isXK tb):=by
 unfold mIsX isXK isXR;rfl
@[simp]theorem isXK_e(tb:List (Nat×Bool)) (c:Nat) (l:List P) (st:List Cell):isXK tb (.p (.exn c l)) st=isXR (tb.lookup c) st:=rfl
theorem zF2(l:List P) (st:List Cell):zAI zAA [.p (.exn 17 l)] st=.ok (.p (.int 1)) st:=Pu.call1 (Pu.of1 (by simp[zAA,zAK,zAU,isTb,zAD,List.lookup])) st
theorem zF4(l:List P) (st:List Cell):zAI zAA [.p (.exn 18 l)] st=.ok (.p (.int 1)) st:=Pu.call1 (Pu.of1 (by simp[zAA,zAK,zAU,isTb,zAD,List.lookup])) st
theorem zGI(l:List P) (st:List Cell):zAI zAA [.p (.exn 19 l)] st=.ok (.p (.int 1)) st:=Pu.call1 (Pu.of1 (by simp[zAA,zAK,zAU,isTb,zAD,List.lookup])) st
theorem zGO(l:List P) (st:List Cell):zAI zAA [.p (.exn 20 l)] st=.ok (.p (.int 1)) st:=Pu.call1 (Pu.of1 (by simp[zAA,zAK,zAU,isTb,zAD,List.lookup])) st
theorem zFo(l:List P) (st:List Cell):zAI zAA [.p (.exn 21 l)] st=.ok (.p (.int 1)) st:=Pu.call1 (Pu.of1 (by simp[zAA,zAK,zAU,isTb,zAD,List.lookup])) st
theorem zGW(l:List P) (st:List Cell):zAI zAA [.p (.exn 22 l)] st=.ok (.p (.int 1)) st:=Pu.call1 (Pu.of1 (by simp[zAA,zAK,zAU,isTb,zAD,List.lookup])) st
theorem zFj(l:List P) (st:List Cell):zAI zAA [.p (.exn 23 l)] st=.ok (.p (.int 1)) st:=Pu.call1 (Pu.of1 (by simp[zAA,zAK,zAU,isTb,zAD,List.lookup])) st
theorem zFx(l:List P) (st:List Cell):zAI zAA [.p (.exn 24 l)] st=.ok (.p (.int 1)) st:=Pu.call1 (Pu.of1 (by simp[zAA,zAK,zAU,isTb,zAD,List.lookup])) st
theorem zGS(l:List P) (st:List Cell):zAI zAA [.p (.exn 25 l)] st=.ok (.p (.int 1)) st:=Pu.call1 (Pu.of1 (by simp[zAA,zAK,zAU,isTb,zAD,List.lookup])) st
theorem zFw(l:List P) (st:List Cell):zAI zAA [.p (.exn 26 l)] st=.ok (.p (.int 1)) st:=Pu.call1 (Pu.of1 (by simp[zAA,zAK,zAU,isTb,zAD,List.lookup])) st
theorem zGn(l:List P) (st:List Cell):zAI zAA [.p (.exn 27 l)] st=.ok (.p (.int 1)) st:=Pu.call1 (Pu.of1 (by simp[zAA,zAK,zAU,isTb,zAD,List.lookup])) st
theorem zGg(l:List P) (st:List Cell):zAI zAA [.p (.exn 28 l)] st=.ok (.p (.int 1)) st:=Pu.call1 (Pu.of1 (by simp[zAA,zAK,zAU,isTb,zAD,List.lookup])) st
theorem zGr(l:List P) (st:List Cell):zAI zAA [.p (.exn 29 l)] st=.ok (.p (.int 1)) st:=Pu.call1 (Pu.of1 (by simp[zAA,zAK,zAU,isTb,zAD,List.lookup])) st
theorem zFf(l:List P) (st:List Cell):zAI zAA [.p (.exn 30 l)] st=.ok (.p (.int 1)) st:=Pu.call1 (Pu.of1 (by simp[zAA,zAK,zAU,isTb,zAD,List.lookup])) st
theorem zF1(l:List P) (st:List Cell):zAI zAA [.p (.exn 31 l)] st=.ok (.p (.int 1)) st:=Pu.call1 (Pu.of1 (by simp[zAA,zAK,zAU,isTb,zAD,List.lookup])) st
theorem zFz(l:List P) (st:List Cell):zAI zAA [.p (.exn 32 l)] st=.ok (.p (.int 1)) st:=Pu.call1 (Pu.of1 (by simp[zAA,zAK,zAU,isTb,zAD,List.lookup])) st
theorem zGL(l:List P) (st:List Cell):zAI zAA [.p (.exn 33 l)] st=.ok (.p (.int 1)) st:=Pu.call1 (Pu.of1 (by simp[zAA,zAK,zAU,isTb,zAD,List.lookup])) st
theorem zGC(l:List P) (st:List Cell):zAI zAA [.p (.exn 34 l)] st=.ok (.p (.int 1)) st:=Pu.call1 (Pu.of1 (by simp[zAA,zAK,zAU,isTb,zAD,List.lookup])) st
theorem zFr(l:List P) (st:List Cell):zAI zAA [.p (.exn 35 l)] st=.ok (.p (.int 1)) st:=Pu.call1 (Pu.of1 (by simp[zAA,zAK,zAU,isTb,zAD,List.lookup])) st
theorem zFu(l:List P) (st:List Cell):zAI zAA [.p (.exn 36 l)] st=.ok (.p (.int 1)) st:=Pu.call1 (Pu.of1 (by simp[zAA,zAK,zAU,isTb,zAD,List.lookup])) st
theorem zGt(l:List P) (st:List Cell):zAI zAA [.p (.exn 37 l)] st=.ok (.p (.int 1)) st:=Pu.call1 (Pu.of1 (by simp[zAA,zAK,zAU,isTb,zAD,List.lookup])) st
theorem zF3(l:List P) (st:List Cell):zAI zAA [.p (.exn 38 l)] st=.ok (.p (.int 1)) st:=Pu.call1 (Pu.of1 (by simp[zAA,zAK,zAU,isTb,zAD,List.lookup])) st
theorem zGJ(l:List P) (st:List Cell):zAI zAA [.p (.exn 39 l)] st=.ok (.p (.int 1)) st:=Pu.call1 (Pu.of1 (by simp[zAA,zAK,zAU,isTb,zAD,List.lookup])) st
theorem zFh(l:List P) (st:List Cell):zAI zAA [.p (.exn 40 l)] st=.ok (.p (.int 1)) st:=Pu.call1 (Pu.of1 (by simp[zAA,zAK,zAU,isTb,zAD,List.lookup])) st
theorem zGZ(l:List P) (st:List Cell):zAI zAA [.p (.exn 41 l)] st=.ok (.p (.int 1)) st:=Pu.call1 (Pu.of1 (by simp[zAA,zAK,zAU,isTb,zAD,List.lookup])) st
theorem zGA(l:List P) (st:List Cell):zAI zAA [.p (.exn 42 l)] st=.ok (.p (.int 1)) st:=Pu.call1 (Pu.of1 (by simp[zAA,zAK,zAU,isTb,zAD,List.lookup])) st
theorem zGU(l:List P) (st:List Cell):zAI zAA [.p (.exn 43 l)] st=.ok (.p (.int 1)) st:=Pu.call1 (Pu.of1 (by simp[zAA,zAK,zAU,isTb,zAD,List.lookup])) st
theorem zFv(l:List P) (st:List Cell):zAI zAA [.p (.exn 44 l)] st=.ok (.p (.int 1)) st:=Pu.call1 (Pu.of1 (by simp[zAA,zAK,zAU,isTb,zAD,List.lookup])) st
def e1(v:P) (c:Nat) (T:Str):P:=.exn c [v,.str T]
def e0(c:Nat) (T:Str):P:=.exn c [.str T]
def lG(v:P):List P:=[e1 v 20 "InvalidNode",e1 v 22 "InvalidWay",e1 v 23 "NotOfWay",e1 v 24 "InvalidRounds",e1 v 27 "InvalidSheets",e1 v 33 "NotAnswered"]
def lI(v:P):List P:=[e1 v 18 "InvalidArc",e1 v 34 "InvalidRules"]
def lN(v:P):List P:=[e1 v 36 "InvalidName",e1 v 37 "DuplicateName",e1 v 38 "WrongKind",e1 v 43 "UnknownName"]
def lM(v:P):List P:=[e1 v 30 "TooMany",e1 v 32 "TooWide",e1 v 35 "TooLong"]
def lO(v:P):List P:=[e1 v 39 "CapacityExceeded",e1 v 40 "InvalidLimit",e1 v 41 "InvalidCommand",e1 v 42 "ParseError"]
def lP:List P:=[e0 17 "InvalidLetters",e0 19 "NotConnected",e0 21 "InvalidOrder",e0 25 "NotKnown",e0 26 "InvalidShifts",e0 28 "InvalidCounts",e0 29 "InvalidQuestion",e0 31 "InvalidText",e0 44 "NothingLeft"]
theorem zH2(c:Nat) (T:Str) (σ:Sg) (st:List Cell):zCk c T σ st=.ok (.p (e0 c T)) st:=rfl
def mkK(c:Nat) (T:Str) (w:W) (st:List Cell):Res W:=match w with
 | .p x=>.ok (.p (e1 x c T)) st
 |_=>.no
@[simp]theorem mkK_e(c:Nat) (T:Str) (x:P) (st:List Cell):mkK c T (.p x) st=.ok (.p (e1 x c T)) st:=rfl
theorem zHT(c:Nat) (m:EM) (T:Str) (σ:Sg) (st:List Cell):zBR c m T σ st=(m σ st).bind (mkK c T):=rfl
theorem zHE(v:P) (st:List Cell):zAI zAW [.p v] st=.ok (.p (.lst [.lst (lG v),.lst (lI v),.lst (lN v),.lst (lM v),.lst (lO v),.lst lP])) st :=
 Pu.call1 (Pu.of1 (by simp[zAW,zAK,zH2,zHT,lG,lI,lN,lM,lO,lP])) st
def xfK(cs:List (Nat×Nat)) (w:W) (st:List Cell):Res W:=match w with
 | .p (.exn c l)=>(match cs.lookup c with
  |some i=>(match l[i]? with
   |some x=>.ok (.p x) st
   |none=>.no)
  |none=>.no)
 |_=>.no
theorem mXf_e(cs:List (Nat×Nat)) (o:EM) (σ:Sg) (st:List Cell):mXf cs o σ st=(o σ st).bind (xfK cs):=by
 unfold mXf xfK;rfl
theorem xfK1(cs:List (Nat×Nat)) (v:P) (c:Nat) (T:Str) (st:List Cell):xfK cs (.p (e1 v c T)) st=(match cs.lookup c with
  |some i=>(match[v,.str T][i]? with
   |some x=>.ok (.p x) st
   |none=>.no)
  |none=>.no):=rfl
theorem xfK0(cs:List (Nat×Nat)) (c:Nat) (T:Str) (st:List Cell):xfK cs (.p (e0 c T)) st=(match cs.lookup c with
  |some i=>(match[P.str T][i]? with
   |some x=>.ok (.p x) st
   |none=>.no)
  |none=>.no):=rfl
theorem kd_17(T:Str) (st:List Cell):zAI zAA [.p (e0 17 T)] st=.ok (.p (.int 1)) st:=zF2 _ st
theorem kd_18(v:P) (T:Str) (st:List Cell):zAI zAA [.p (e1 v 18 T)] st=.ok (.p (.int 1)) st:=zF4 _ st
theorem kd_19(T:Str) (st:List Cell):zAI zAA [.p (e0 19 T)] st=.ok (.p (.int 1)) st:=zGI _ st
theorem kd_20(v:P) (T:Str) (st:List Cell):zAI zAA [.p (e1 v 20 T)] st=.ok (.p (.int 1)) st:=zGO _ st
theorem kd_21(T:Str) (st:List Cell):zAI zAA [.p (e0 21 T)] st=.ok (.p (.int 1)) st:=zFo _ st
theorem kd_22(v:P) (T:Str) (st:List Cell):zAI zAA [.p (e1 v 22 T)] st=.ok (.p (.int 1)) st:=zGW _ st
theorem kd_23(v:P) (T:Str) (st:List Cell):zAI zAA [.p (e1 v 23 T)] st=.ok (.p (.int 1)) st:=zFj _ st
theorem kd_24(v:P) (T:Str) (st:List Cell):zAI zAA [.p (e1 v 24 T)] st=.ok (.p (.int 1)) st:=zFx _ st
theorem kd_25(T:Str) (st:List Cell):zAI zAA [.p (e0 25 T)] st=.ok (.p (.int 1)) st:=zGS _ st
theorem kd_26(T:Str) (st:List Cell):zAI zAA [.p (e0 26 T)] st=.ok (.p (.int 1)) st:=zFw _ st
theorem kd_27(v:P) (T:Str) (st:List Cell):zAI zAA [.p (e1 v 27 T)] st=.ok (.p (.int 1)) st:=zGn _ st
theorem kd_28(T:Str) (st:List Cell):zAI zAA [.p (e0 28 T)] st=.ok (.p (.int 1)) st:=zGg _ st
theorem kd_29(T:Str) (st:List Cell):zAI zAA [.p (e0 29 T)] st=.ok (.p (.int 1)) st:=zGr _ st
theorem kd_30(v:P) (T:Str) (st:List Cell):zAI zAA [.p (e1 v 30 T)] st=.ok (.p (.int 1)) st:=zFf _ st
theorem kd_31(T:Str) (st:List Cell):zAI zAA [.p (e0 31 T)] st=.ok (.p (.int 1)) st:=zF1 _ st
theorem kd_32(v:P) (T:Str) (st:List Cell):zAI zAA [.p (e1 v 32 T)] st=.ok (.p (.int 1)) st:=zFz _ st
theorem kd_33(v:P) (T:Str) (st:List Cell):zAI zAA [.p (e1 v 33 T)] st=.ok (.p (.int 1)) st:=zGL _ st
theorem kd_34(v:P) (T:Str) (st:List Cell):zAI zAA [.p (e1 v 34 T)] st=.ok (.p (.int 1)) st:=zGC _ st
theorem kd_35(v:P) (T:Str) (st:List Cell):zAI zAA [.p (e1 v 35 T)] st=.ok (.p (.int 1)) st:=zFr _ st
theorem kd_36(v:P) (T:Str) (st:List Cell):zAI zAA [.p (e1 v 36 T)] st=.ok (.p (.int 1)) st:=zFu _ st
theorem kd_37(v:P) (T:Str) (st:List Cell):zAI zAA [.p (e1 v 37 T)] st=.ok (.p (.int 1)) st:=zGt _ st
theorem kd_38(v:P) (T:Str) (st:List Cell):zAI zAA [.p (e1 v 38 T)] st=.ok (.p (.int 1)) st:=zF3 _ st
theorem kd_39(v:P) (T:Str) (st:List Cell):zAI zAA [.p (e1 v 39 T)] st=.ok (.p (.int 1)) st:=zGJ _ st
theorem kd_40(v:P) (T:Str) (st:List Cell):zAI zAA [.p (e1 v 40 T)] st=.ok (.p (.int 1)) st:=zFh _ st
theorem kd_41(v:P) (T:Str) (st:List Cell):zAI zAA [.p (e1 v 41 T)] st=.ok (.p (.int 1)) st:=zGZ _ st
theorem kd_42(v:P) (T:Str) (st:List Cell):zAI zAA [.p (e1 v 42 T)] st=.ok (.p (.int 1)) st:=zGA _ st
theorem kd_43(v:P) (T:Str) (st:List Cell):zAI zAA [.p (e1 v 43 T)] st=.ok (.p (.int 1)) st:=zGU _ st
theorem kd_44(T:Str) (st:List Cell):zAI zAA [.p (e0 44 T)] st=.ok (.p (.int 1)) st:=zFv _ st
theorem isXK1(tb:List (Nat×Bool)) (v:P) (c:Nat) (T:Str) (st:List Cell):isXK tb (.p (e1 v c T)) st=isXR (tb.lookup c) st:=rfl
theorem isXK0(tb:List (Nat×Bool)) (c:Nat) (T:Str) (st:List Cell):isXK tb (.p (e0 c T)) st=isXR (tb.lookup c) st:=rfl
theorem zHs(ts:List Tg) (m:EM) (σ:Sg) (st:List Cell):zGK ts m σ st=(m σ st).to σ (zFF ts σ):=rfl
theorem put6(A B C D E F:P) (a0 a1 a2 a3 a4 a5 a6 a7 a8 a9 a10 a11 a12 a13:Option W) (st:List Cell):zFF [.nm 3,.nm 4,.nm 5,.nm 6,.nm 7,.nm 8] [a0,a1,a2,a3,a4,a5,a6,a7,a8,a9,a10,a11,a12,a13] (.p (.lst [A,B,C,D,E,F])) st=.ok .nx [a0,a1,a2,some (.p A),some (.p B),some (.p C),some (.p D),some (.p E),some (.p F),a9,a10,a11,a12,a13] st:=by
 unfold zFF;simp
theorem zAM{x:Str}{b:Bool} (h:(!(inP (.str x) [.str (Str.ofString "UnknownName"),.str (Str.ofString "NothingLeft")]))=b) (st:List Cell):vInB true (.p (.str x)) (.p (.lst [.str (Str.ofString "UnknownName"),.str (Str.ofString "NothingLeft")])) st=.ok (.p (.bl b)) st:=by
 rw[zEI _ _ _ rfl,JN rfl,h]
theorem ni_0(st:List Cell):vInB true (.p (.str (Str.ofString "InvalidNode"))) (.p (.lst [.str (Str.ofString "UnknownName"),.str (Str.ofString "NothingLeft")])) st=.ok (.p (.bl true)) st:=zAM ⋯ st
theorem ni_1(st:List Cell):vInB true (.p (.str (Str.ofString "InvalidWay"))) (.p (.lst [.str (Str.ofString "UnknownName"),.str (Str.ofString "NothingLeft")])) st=.ok (.p (.bl true)) st:=zAM ⋯ st
theorem ni_2(st:List Cell):vInB true (.p (.str (Str.ofString "NotOfWay"))) (.p (.lst [.str (Str.ofString "UnknownName"),.str (Str.ofString "NothingLeft")])) st=.ok (.p (.bl true)) st:=zAM ⋯ st
theorem ni_3(st:List Cell):vInB true (.p (.str (Str.ofString "InvalidRounds"))) (.p (.lst [.str (Str.ofString "UnknownName"),.str (Str.ofString "NothingLeft")])) st=.ok (.p (.bl true)) st:=zAM ⋯ st
theorem ni_4(st:List Cell):vInB true (.p (.str (Str.ofString "InvalidSheets"))) (.p (.lst [.str (Str.ofString "UnknownName"),.str (Str.ofString "NothingLeft")])) st=.ok (.p (.bl true)) st:=zAM ⋯ st
theorem ni_5(st:List Cell):vInB true (.p (.str (Str.ofString "NotAnswered"))) (.p (.lst [.str (Str.ofString "UnknownName"),.str (Str.ofString "NothingLeft")])) st=.ok (.p (.bl true)) st:=zAM ⋯ st
theorem ni_6(st:List Cell):vInB true (.p (.str (Str.ofString "InvalidArc"))) (.p (.lst [.str (Str.ofString "UnknownName"),.str (Str.ofString "NothingLeft")])) st=.ok (.p (.bl true)) st:=zAM ⋯ st
theorem ni_7(st:List Cell):vInB true (.p (.str (Str.ofString "InvalidRules"))) (.p (.lst [.str (Str.ofString "UnknownName"),.str (Str.ofString "NothingLeft")])) st=.ok (.p (.bl true)) st:=zAM ⋯ st
theorem ni_8(st:List Cell):vInB true (.p (.str (Str.ofString "InvalidName"))) (.p (.lst [.str (Str.ofString "UnknownName"),.str (Str.ofString "NothingLeft")])) st=.ok (.p (.bl true)) st:=zAM ⋯ st
theorem ni_9(st:List Cell):vInB true (.p (.str (Str.ofString "DuplicateName"))) (.p (.lst [.str (Str.ofString "UnknownName"),.str (Str.ofString "NothingLeft")])) st=.ok (.p (.bl true)) st:=zAM ⋯ st
theorem ni_10(st:List Cell):vInB true (.p (.str (Str.ofString "WrongKind"))) (.p (.lst [.str (Str.ofString "UnknownName"),.str (Str.ofString "NothingLeft")])) st=.ok (.p (.bl true)) st:=zAM ⋯ st
theorem ni_11(st:List Cell):vInB true (.p (.str (Str.ofString "UnknownName"))) (.p (.lst [.str (Str.ofString "UnknownName"),.str (Str.ofString "NothingLeft")])) st=.ok (.p (.bl false)) st:=zAM ⋯ st
theorem ni_12(st:List Cell):vInB true (.p (.str (Str.ofString "TooMany"))) (.p (.lst [.str (Str.ofString "UnknownName"),.str (Str.ofString "NothingLeft")])) st=.ok (.p (.bl true)) st:=zAM ⋯ st
theorem ni_13(st:List Cell):vInB true (.p (.str (Str.ofString "TooWide"))) (.p (.lst [.str (Str.ofString "UnknownName"),.str (Str.ofString "NothingLeft")])) st=.ok (.p (.bl true)) st:=zAM ⋯ st
theorem ni_14(st:List Cell):vInB true (.p (.str (Str.ofString "TooLong"))) (.p (.lst [.str (Str.ofString "UnknownName"),.str (Str.ofString "NothingLeft")])) st=.ok (.p (.bl true)) st:=zAM ⋯ st
theorem ni_15(st:List Cell):vInB true (.p (.str (Str.ofString "CapacityExceeded"))) (.p (.lst [.str (Str.ofString "UnknownName"),.str (Str.ofString "NothingLeft")])) st=.ok (.p (.bl true)) st:=zAM ⋯ st
theorem ni_16(st:List Cell):vInB true (.p (.str (Str.ofString "InvalidLimit"))) (.p (.lst [.str (Str.ofString "UnknownName"),.str (Str.ofString "NothingLeft")])) st=.ok (.p (.bl true)) st:=zAM ⋯ st
theorem ni_17(st:List Cell):vInB true (.p (.str (Str.ofString "InvalidCommand"))) (.p (.lst [.str (Str.ofString "UnknownName"),.str (Str.ofString "NothingLeft")])) st=.ok (.p (.bl true)) st:=zAM ⋯ st
theorem ni_18(st:List Cell):vInB true (.p (.str (Str.ofString "ParseError"))) (.p (.lst [.str (Str.ofString "UnknownName"),.str (Str.ofString "NothingLeft")])) st=.ok (.p (.bl true)) st:=zAM ⋯ st
theorem ni_19(st:List Cell):vInB true (.p (.str (Str.ofString "InvalidLetters"))) (.p (.lst [.str (Str.ofString "UnknownName"),.str (Str.ofString "NothingLeft")])) st=.ok (.p (.bl true)) st:=zAM ⋯ st
theorem ni_20(st:List Cell):vInB true (.p (.str (Str.ofString "NotConnected"))) (.p (.lst [.str (Str.ofString "UnknownName"),.str (Str.ofString "NothingLeft")])) st=.ok (.p (.bl true)) st:=zAM ⋯ st
theorem ni_21(st:List Cell):vInB true (.p (.str (Str.ofString "InvalidOrder"))) (.p (.lst [.str (Str.ofString "UnknownName"),.str (Str.ofString "NothingLeft")])) st=.ok (.p (.bl true)) st:=zAM ⋯ st
theorem ni_22(st:List Cell):vInB true (.p (.str (Str.ofString "NotKnown"))) (.p (.lst [.str (Str.ofString "UnknownName"),.str (Str.ofString "NothingLeft")])) st=.ok (.p (.bl true)) st:=zAM ⋯ st
theorem ni_23(st:List Cell):vInB true (.p (.str (Str.ofString "InvalidShifts"))) (.p (.lst [.str (Str.ofString "UnknownName"),.str (Str.ofString "NothingLeft")])) st=.ok (.p (.bl true)) st:=zAM ⋯ st
theorem ni_24(st:List Cell):vInB true (.p (.str (Str.ofString "InvalidCounts"))) (.p (.lst [.str (Str.ofString "UnknownName"),.str (Str.ofString "NothingLeft")])) st=.ok (.p (.bl true)) st:=zAM ⋯ st
theorem ni_25(st:List Cell):vInB true (.p (.str (Str.ofString "InvalidQuestion"))) (.p (.lst [.str (Str.ofString "UnknownName"),.str (Str.ofString "NothingLeft")])) st=.ok (.p (.bl true)) st:=zAM ⋯ st
theorem ni_26(st:List Cell):vInB true (.p (.str (Str.ofString "InvalidText"))) (.p (.lst [.str (Str.ofString "UnknownName"),.str (Str.ofString "NothingLeft")])) st=.ok (.p (.bl true)) st:=zAM ⋯ st
theorem ni_27(st:List Cell):vInB true (.p (.str (Str.ofString "NothingLeft"))) (.p (.lst [.str (Str.ofString "UnknownName"),.str (Str.ofString "NothingLeft")])) st=.ok (.p (.bl false)) st:=zAM ⋯ st
theorem eqTags(st:List Cell):vEqB true (.p (.lst [.str (Str.ofString "InvalidNode"),.str (Str.ofString "InvalidWay"),.str (Str.ofString "NotOfWay"),.str (Str.ofString "InvalidRounds"),.str (Str.ofString "InvalidSheets"),.str (Str.ofString "NotAnswered"),.str (Str.ofString "InvalidArc"),.str (Str.ofString "InvalidRules"),.str (Str.ofString "InvalidName"),.str (Str.ofString "DuplicateName"),.str (Str.ofString "WrongKind"),.str (Str.ofString "UnknownName"),.str (Str.ofString "TooMany"),.str (Str.ofString "TooWide"),.str (Str.ofString "TooLong"),.str (Str.ofString "CapacityExceeded"),.str (Str.ofString "InvalidLimit"),.str (Str.ofString "InvalidCommand"),.str (Str.ofString "ParseError"),.str (Str.ofString "InvalidLetters"),.str (Str.ofString "NotConnected"),.str (Str.ofString "InvalidOrder"),.str (Str.ofString "NotKnown"),.str (Str.ofString "InvalidShifts"),.str (Str.ofString "InvalidCounts"),.str (Str.ofString "InvalidQuestion"),.str (Str.ofString "InvalidText"),.str (Str.ofString "NothingLeft")])) (.p (.lst [.str (Str.ofString "InvalidNode"),.str (Str.ofString "InvalidWay"),.str (Str.ofString "NotOfWay"),.str (Str.ofString "InvalidRounds"),.str (Str.ofString "InvalidSheets"),.str (Str.ofString "NotAnswered"),.str (Str.ofString "InvalidArc"),.str (Str.ofString "InvalidRules"),.str (Str.ofString "InvalidName"),.str (Str.ofString "DuplicateName"),.str (Str.ofString "WrongKind"),.str (Str.ofString "UnknownName"),.str (Str.ofString "TooMany"),.str (Str.ofString "TooWide"),.str (Str.ofString "TooLong"),.str (Str.ofString "CapacityExceeded"),.str (Str.ofString "InvalidLimit"),.str (Str.ofString "InvalidCommand"),.str (Str.ofString "ParseError"),.str (Str.ofString "InvalidLetters"),.str (Str.ofString "NotConnected"),.str (Str.ofString "InvalidOrder"),.str (Str.ofString "NotKnown"),.str (Str.ofString "InvalidShifts"),.str (Str.ofString "InvalidCounts"),.str (Str.ofString "InvalidQuestion"),.str (Str.ofString "InvalidText"),.str (Str.ofString "NothingLeft")])) st=.ok (.p (.bl false)) st:=zCS ⋯
theorem eqOnes(st:List Cell):vEqB true (.p (.lst [.int 1,.int 1,.int 1,.int 1,.int 1,.int 1,.int 1,.int 1,.int 1,.int 1,.int 1,.int 1,.int 1,.int 1,.int 1,.int 1,.int 1,.int 1,.int 1,.int 1,.int 1,.int 1,.int 1,.int 1,.int 1,.int 1,.int 1,.int 1])) (.p (.lst [.int 1,.int 1,.int 1,.int 1,.int 1,.int 1,.int 1,.int 1,.int 1,.int 1,.int 1,.int 1,.int 1,.int 1,.int 1,.int 1,.int 1,.int 1,.int 1,.int 1,.int 1,.int 1,.int 1,.int 1,.int 1,.int 1,.int 1,.int 1])) st=.ok (.p (.bl false)) st:=zCS ⋯
theorem eqBls(st:List Cell):vEqB true (.p (.lst [.bl true,.bl true,.bl true,.bl true,.bl true,.bl true,.bl true,.bl true,.bl true,.bl true,.bl true,.bl false,.bl true,.bl true,.bl true,.bl true,.bl true,.bl true,.bl true,.bl true,.bl true,.bl true,.bl true,.bl true,.bl true,.bl true,.bl true,.bl false])) (.p (.lst [.bl true,.bl true,.bl true,.bl true,.bl true,.bl true,.bl true,.bl true,.bl true,.bl true,.bl true,.bl false,.bl true,.bl true,.bl true,.bl true,.bl true,.bl true,.bl true,.bl true,.bl true,.bl true,.bl true,.bl true,.bl true,.bl true,.bl true,.bl false])) st=.ok (.p (.bl false)) st:=zCS ⋯
theorem eqEnd(st:List Cell):vEqB false (.p (.lst [.bl true,.bl true,.bl true,.bl false])) (.p (.lst [.bl true,.bl true,.bl true,.bl false])) st=.ok (.p (.bl true)) st:=zCS ⋯
theorem zHS(v:P) (hv:datP 11 (.lst (List.replicate 19 v))=true) (a0:Option W) (c:Cell):runR (bR [a0,some (.r 0),some (.p v),none,none,none,none,none,none,none,none,none,none,none] [c])=.ok (.p (.bl true)) [c]:=by
 have sm:=fun st=>zGu hv st
 simp only[List.replicate]at sm;simp -implicitDefEqProofs [bR,zHE,lG,lI,lN,lM,lO,lP,mXf_e,xfK1,xfK0,List.lookup,sm,kd_17,kd_18,kd_19,kd_20,kd_21,kd_22,kd_23,kd_24,kd_25,kd_26,kd_27,kd_28,kd_29,kd_30,kd_31,kd_32,kd_33,kd_34,kd_35,kd_36,kd_37,kd_38,kd_39,kd_40,kd_41,kd_42,kd_43,kd_44,zAU,isXK1,isXK0,isTb,zAD,zHs,put6,eqTags,eqOnes,eqBls,eqEnd,ni_0,ni_1,ni_2,ni_3,ni_4,ni_5,ni_6,ni_7,ni_8,ni_9,ni_10,ni_11,ni_12,ni_13,ni_14,ni_15,ni_16,ni_17,ni_18,ni_19,ni_20,ni_21,ni_22,ni_23,ni_24,ni_25,ni_26,ni_27,-zEI]
theorem plain(ns:List Int) (h:ns.length≤63):∃st,sm_law [.p (.scr ns)] []=.ok (.p (.bl true)) st:=by
 show Yes (sm_law [.p (.scr ns)] []);rw[law_eq];obtain⟨c0,e0,hc0⟩:=zF9 ns;obtain⟨v,c1,e1,hc1,hv⟩:=(of_bg (l:=[P.int 3,.non,.str (Str.ofString "x"),.tup [.int 1,.int 2],.int 100000000000000000000]) (by simp) (by simp)).call1 hc0 []
 have dv:datP 11 (.lst (List.replicate 19 v))=true:=by
  simp only[Jl,Jq,J3]at hv;rcases hv with rfl|rfl|rfl|rfl|rfl<;>decide +kernel
 have r:=zHS v dv (some (.p (.scr ns))) c1;refine⟨[c1],?_⟩;simp -implicitDefEqProofs [zEq,zAK,e0,e1,r]
section
open Y YZ YS
/-- what the head says -/
structure Fcts (P:Program) (K:PySem.W.Frag) (w:World) (mg:Str→Option Value):Prop where
 g__law_bag:mg "_law_bag" = some (.ref (He.ga K "_law_bag"))
 g__law_pull:mg "_law_pull" = some (.ref (He.ga K "_law_pull"))
 g__law_of:mg "_law_of" = some (.ref (He.ga K "_law_of"))
 g__law_made_errors:mg "_law_made_errors" = some (.ref (He.ga K "_law_made_errors"))
 g__law_same:mg "_law_same" = some (.ref (He.ga K "_law_same"))
 g__law_kinds_of:mg "_law_kinds_of" = some (.ref (He.ga K "_law_kinds_of"))
 g_law:mg "law" = some (.ref (He.ga K "law"))
 g_NotAnswered:mg "NotAnswered" = some (.ref (He.ga K "NotAnswered"))
 g_InvalidSheets:mg "InvalidSheets" = some (.ref (He.ga K "InvalidSheets"))
 g_InvalidRounds:mg "InvalidRounds" = some (.ref (He.ga K "InvalidRounds"))
 g_NotOfWay:mg "NotOfWay" = some (.ref (He.ga K "NotOfWay"))
 g_InvalidWay:mg "InvalidWay" = some (.ref (He.ga K "InvalidWay"))
 g_InvalidNode:mg "InvalidNode" = some (.ref (He.ga K "InvalidNode"))
 g_UnknownName:mg "UnknownName" = some (.ref (He.ga K "UnknownName"))
 g_WrongKind:mg "WrongKind" = some (.ref (He.ga K "WrongKind"))
 g_DuplicateName:mg "DuplicateName" = some (.ref (He.ga K "DuplicateName"))
 g_InvalidName:mg "InvalidName" = some (.ref (He.ga K "InvalidName"))
 g_ParseError:mg "ParseError" = some (.ref (He.ga K "ParseError"))
 g_InvalidCommand:mg "InvalidCommand" = some (.ref (He.ga K "InvalidCommand"))
 g_InvalidLimit:mg "InvalidLimit" = some (.ref (He.ga K "InvalidLimit"))
 g_CapacityExceeded:mg "CapacityExceeded" = some (.ref (He.ga K "CapacityExceeded"))
 g_NothingLeft:mg "NothingLeft" = some (.ref (He.ga K "NothingLeft"))
 g_InvalidText:mg "InvalidText" = some (.ref (He.ga K "InvalidText"))
 g_InvalidQuestion:mg "InvalidQuestion" = some (.ref (He.ga K "InvalidQuestion"))
 g_InvalidCounts:mg "InvalidCounts" = some (.ref (He.ga K "InvalidCounts"))
 g_InvalidShifts:mg "InvalidShifts" = some (.ref (He.ga K "InvalidShifts"))
 g_NotKnown:mg "NotKnown" = some (.ref (He.ga K "NotKnown"))
 g_InvalidOrder:mg "InvalidOrder" = some (.ref (He.ga K "InvalidOrder"))
 g_NotConnected:mg "NotConnected" = some (.ref (He.ga K "NotConnected"))
 g_InvalidLetters:mg "InvalidLetters" = some (.ref (He.ga K "InvalidLetters"))
 g_TooLong:mg "TooLong" = some (.ref (He.ga K "TooLong"))
 g_TooWide:mg "TooWide" = some (.ref (He.ga K "TooWide"))
 g_TooMany:mg "TooMany" = some (.ref (He.ga K "TooMany"))
 g_InvalidRules:mg "InvalidRules" = some (.ref (He.ga K "InvalidRules"))
 g_InvalidArc:mg "InvalidArc" = some (.ref (He.ga K "InvalidArc"))
 g_Missing:mg "Missing" = some (.ref (He.ga K "Missing"))
 g_SayError:mg "SayError" = some (.ref (He.ga K "SayError"))
 b_IndexError:mg "IndexError" = none
 b_LookupError:mg "LookupError" = none
 b_ValueError:mg "ValueError" = none
 b_all:mg "all" = none
 b_bool:mg "bool" = none
 b_int:mg "int" = none
 b_isinstance:mg "isinstance" = none
 b_len:mg "len" = none
 b_list:mg "list" = none
 b_str:mg "str" = none
 b_sum:mg "sum" = none
 b_super:mg "super" = none
 b_tuple:mg "tuple" = none
 b_zip:mg "zip" = none
 e_InvalidLetters:excB K "InvalidLetters" "/claim/cut.py" none=true
 de_InvalidLetters:fnE K (He.ma K (He.ga K "InvalidLetters") "__init__")=zA1.val
 dd_InvalidLetters:zA1.okB K=true
 e_InvalidArc:excB K "InvalidArc" "/claim/cut.py" (some "index")=true
 de_InvalidArc:fnE K (He.ma K (He.ga K "InvalidArc") "__init__")=zBj.val
 dd_InvalidArc:zBj.okB K=true
 e_NotConnected:excB K "NotConnected" "/claim/cut.py" none=true
 de_NotConnected:fnE K (He.ma K (He.ga K "NotConnected") "__init__")=zBK.val
 dd_NotConnected:zBK.okB K=true
 e_InvalidNode:excB K "InvalidNode" "/claim/cut.py" (some "given")=true
 de_InvalidNode:fnE K (He.ma K (He.ga K "InvalidNode") "__init__")=zBc.val
 dd_InvalidNode:zBc.okB K=true
 e_InvalidOrder:excB K "InvalidOrder" "/claim/cut.py" none=true
 de_InvalidOrder:fnE K (He.ma K (He.ga K "InvalidOrder") "__init__")=zBU.val
 dd_InvalidOrder:zBU.okB K=true
 e_InvalidWay:zA9 "ValueError" "ValueError.__new__" "ValueError.__init__" [.type "ValueError",.type "Exception",.type "BaseException",.type "object"] K "InvalidWay" "/claim/cut.py" (some "given")=true
 de_InvalidWay:fnE K (He.ma K (He.ga K "InvalidWay") "__init__")=zBq.val
 dd_InvalidWay:zBq.okB K=true
 e_NotOfWay:excB K "NotOfWay" "/claim/cut.py" (some "given")=true
 de_NotOfWay:fnE K (He.ma K (He.ga K "NotOfWay") "__init__")=zCH.val
 dd_NotOfWay:zCH.okB K=true
 e_InvalidRounds:excB K "InvalidRounds" "/claim/cut.py" (some "given")=true
 de_InvalidRounds:fnE K (He.ma K (He.ga K "InvalidRounds") "__init__")=zBI.val
 dd_InvalidRounds:zBI.okB K=true
 e_NotKnown:excB K "NotKnown" "/claim/cut.py" none=true
 de_NotKnown:fnE K (He.ma K (He.ga K "NotKnown") "__init__")=zCF.val
 dd_NotKnown:zCF.okB K=true
 e_InvalidShifts:excB K "InvalidShifts" "/claim/cut.py" none=true
 de_InvalidShifts:fnE K (He.ma K (He.ga K "InvalidShifts") "__init__")=zBG.val
 dd_InvalidShifts:zBG.okB K=true
 e_InvalidSheets:excB K "InvalidSheets" "/claim/cut.py" (some "given")=true
 de_InvalidSheets:fnE K (He.ma K (He.ga K "InvalidSheets") "__init__")=zBB.val
 dd_InvalidSheets:zBB.okB K=true
 e_InvalidCounts:excB K "InvalidCounts" "/claim/cut.py" none=true
 de_InvalidCounts:fnE K (He.ma K (He.ga K "InvalidCounts") "__init__")=zBH.val
 dd_InvalidCounts:zBH.okB K=true
 e_InvalidQuestion:excB K "InvalidQuestion" "/claim/cut.py" none=true
 de_InvalidQuestion:fnE K (He.ma K (He.ga K "InvalidQuestion") "__init__")=zAv.val
 dd_InvalidQuestion:zAv.okB K=true
 e_TooMany:excB K "TooMany" "/claim/cut.py" (some "most")=true
 de_TooMany:fnE K (He.ma K (He.ga K "TooMany") "__init__")=zCZ.val
 dd_TooMany:zCZ.okB K=true
 e_InvalidText:excB K "InvalidText" "/claim/cut.py" none=true
 de_InvalidText:fnE K (He.ma K (He.ga K "InvalidText") "__init__")=zBa.val
 dd_InvalidText:zBa.okB K=true
 e_TooWide:zA9 "ValueError" "ValueError.__new__" "ValueError.__init__" [.type "ValueError",.type "Exception",.type "BaseException",.type "object"] K "TooWide" "/claim/cut.py" (some "most")=true
 de_TooWide:fnE K (He.ma K (He.ga K "TooWide") "__init__")=zCc.val
 dd_TooWide:zCc.okB K=true
 e_NotAnswered:excB K "NotAnswered" "/claim/cut.py" (some "given")=true
 de_NotAnswered:fnE K (He.ma K (He.ga K "NotAnswered") "__init__")=zBb.val
 dd_NotAnswered:zBb.okB K=true
 e_InvalidRules:zA9 "ValueError" "ValueError.__new__" "ValueError.__init__" [.type "ValueError",.type "Exception",.type "BaseException",.type "object"] K "InvalidRules" "/claim/cut.py" (some "index")=true
 de_InvalidRules:fnE K (He.ma K (He.ga K "InvalidRules") "__init__")=zBM.val
 dd_InvalidRules:zBM.okB K=true
 e_TooLong:excB K "TooLong" "/claim/cut.py" (some "most")=true
 de_TooLong:fnE K (He.ma K (He.ga K "TooLong") "__init__")=zCT.val
 dd_TooLong:zCT.okB K=true
 e_InvalidName:excB K "InvalidName" "/claim/cut.py" (some "name")=true
 de_InvalidName:fnE K (He.ma K (He.ga K "InvalidName") "__init__")=zBd.val
 dd_InvalidName:zBd.okB K=true
 e_DuplicateName:excB K "DuplicateName" "/claim/cut.py" (some "name")=true
 de_DuplicateName:fnE K (He.ma K (He.ga K "DuplicateName") "__init__")=zBE.val
 dd_DuplicateName:zBE.okB K=true
 e_WrongKind:zA9 "ValueError" "ValueError.__new__" "ValueError.__init__" [.type "ValueError",.type "Exception",.type "BaseException",.type "object"] K "WrongKind" "/claim/cut.py" (some "name")=true
 de_WrongKind:fnE K (He.ma K (He.ga K "WrongKind") "__init__")=zB4.val
 dd_WrongKind:zB4.okB K=true
 e_CapacityExceeded:excB K "CapacityExceeded" "/claim/cut.py" (some "limit")=true
 de_CapacityExceeded:fnE K (He.ma K (He.ga K "CapacityExceeded") "__init__")=zAo.val
 dd_CapacityExceeded:zAo.okB K=true
 e_InvalidLimit:zA9 "ValueError" "ValueError.__new__" "ValueError.__init__" [.type "ValueError",.type "Exception",.type "BaseException",.type "object"] K "InvalidLimit" "/claim/cut.py" (some "limit")=true
 de_InvalidLimit:fnE K (He.ma K (He.ga K "InvalidLimit") "__init__")=zBW.val
 dd_InvalidLimit:zBW.okB K=true
 e_InvalidCommand:zA9 "ValueError" "ValueError.__new__" "ValueError.__init__" [.type "ValueError",.type "Exception",.type "BaseException",.type "object"] K "InvalidCommand" "/claim/cut.py" (some "word")=true
 de_InvalidCommand:fnE K (He.ma K (He.ga K "InvalidCommand") "__init__")=zA6.val
 dd_InvalidCommand:zA6.okB K=true
 e_ParseError:zA9 "ValueError" "ValueError.__new__" "ValueError.__init__" [.type "ValueError",.type "Exception",.type "BaseException",.type "object"] K "ParseError" "/claim/cut.py" (some "line")=true
 de_ParseError:fnE K (He.ma K (He.ga K "ParseError") "__init__")=zBr.val
 dd_ParseError:zBr.okB K=true
 e_UnknownName:zA9 "LookupError" "LookupError.__new__" "LookupError.__init__" [.type "LookupError",.type "Exception",.type "BaseException",.type "object"] K "UnknownName" "/claim/cut.py" (some "name")=true
 de_UnknownName:fnE K (He.ma K (He.ga K "UnknownName") "__init__")=zBg.val
 dd_UnknownName:zBg.okB K=true
 e_NothingLeft:zA9 "IndexError" "IndexError.__new__" "IndexError.__init__" [.type "IndexError",.type "LookupError",.type "Exception",.type "BaseException",.type "object"] K "NothingLeft" "/claim/cut.py" none=true
 de_NothingLeft:fnE K (He.ma K (He.ga K "NothingLeft") "__init__")=zBh.val
 dd_NothingLeft:zBh.okB K=true
 isa:zHM K [(17, "InvalidLetters"),(18, "InvalidArc"),(19, "NotConnected"),(20, "InvalidNode"),(21, "InvalidOrder"),(22, "InvalidWay"),(23, "NotOfWay"),(24, "InvalidRounds"),(25, "NotKnown"),(26, "InvalidShifts"),(27, "InvalidSheets"),(28, "InvalidCounts"),(29, "InvalidQuestion"),(30, "TooMany"),(31, "InvalidText"),(32, "TooWide"),(33, "NotAnswered"),(34, "InvalidRules"),(35, "TooLong"),(36, "InvalidName"),(37, "DuplicateName"),(38, "WrongKind"),(39, "CapacityExceeded"),(40, "InvalidLimit"),(41, "InvalidCommand"),(42, "ParseError"),(43, "UnknownName"),(44, "NothingLeft")]=true
 ist_NotAnswered:zAL K [(17, "InvalidLetters"),(18, "InvalidArc"),(19, "NotConnected"),(20, "InvalidNode"),(21, "InvalidOrder"),(22, "InvalidWay"),(23, "NotOfWay"),(24, "InvalidRounds"),(25, "NotKnown"),(26, "InvalidShifts"),(27, "InvalidSheets"),(28, "InvalidCounts"),(29, "InvalidQuestion"),(30, "TooMany"),(31, "InvalidText"),(32, "TooWide"),(33, "NotAnswered"),(34, "InvalidRules"),(35, "TooLong"),(36, "InvalidName"),(37, "DuplicateName"),(38, "WrongKind"),(39, "CapacityExceeded"),(40, "InvalidLimit"),(41, "InvalidCommand"),(42, "ParseError"),(43, "UnknownName"),(44, "NothingLeft")] [false,false,false,false,false,false,false,false,false,false,false,false,false,false,false,false,true,false,false,false,false,false,false,false,false,false,false,false] (.ref (He.ga K "NotAnswered"))=true
 ist_InvalidSheets:zAL K [(17, "InvalidLetters"),(18, "InvalidArc"),(19, "NotConnected"),(20, "InvalidNode"),(21, "InvalidOrder"),(22, "InvalidWay"),(23, "NotOfWay"),(24, "InvalidRounds"),(25, "NotKnown"),(26, "InvalidShifts"),(27, "InvalidSheets"),(28, "InvalidCounts"),(29, "InvalidQuestion"),(30, "TooMany"),(31, "InvalidText"),(32, "TooWide"),(33, "NotAnswered"),(34, "InvalidRules"),(35, "TooLong"),(36, "InvalidName"),(37, "DuplicateName"),(38, "WrongKind"),(39, "CapacityExceeded"),(40, "InvalidLimit"),(41, "InvalidCommand"),(42, "ParseError"),(43, "UnknownName"),(44, "NothingLeft")] [false,false,false,false,false,false,false,false,false,false,true,false,false,false,false,false,false,false,false,false,false,false,false,false,false,false,false,false] (.ref (He.ga K "InvalidSheets"))=true
 ist_InvalidRounds:zAL K [(17, "InvalidLetters"),(18, "InvalidArc"),(19, "NotConnected"),(20, "InvalidNode"),(21, "InvalidOrder"),(22, "InvalidWay"),(23, "NotOfWay"),(24, "InvalidRounds"),(25, "NotKnown"),(26, "InvalidShifts"),(27, "InvalidSheets"),(28, "InvalidCounts"),(29, "InvalidQuestion"),(30, "TooMany"),(31, "InvalidText"),(32, "TooWide"),(33, "NotAnswered"),(34, "InvalidRules"),(35, "TooLong"),(36, "InvalidName"),(37, "DuplicateName"),(38, "WrongKind"),(39, "CapacityExceeded"),(40, "InvalidLimit"),(41, "InvalidCommand"),(42, "ParseError"),(43, "UnknownName"),(44, "NothingLeft")] [false,false,false,false,false,false,false,true,false,false,false,false,false,false,false,false,false,false,false,false,false,false,false,false,false,false,false,false] (.ref (He.ga K "InvalidRounds"))=true
 ist_NotOfWay:zAL K [(17, "InvalidLetters"),(18, "InvalidArc"),(19, "NotConnected"),(20, "InvalidNode"),(21, "InvalidOrder"),(22, "InvalidWay"),(23, "NotOfWay"),(24, "InvalidRounds"),(25, "NotKnown"),(26, "InvalidShifts"),(27, "InvalidSheets"),(28, "InvalidCounts"),(29, "InvalidQuestion"),(30, "TooMany"),(31, "InvalidText"),(32, "TooWide"),(33, "NotAnswered"),(34, "InvalidRules"),(35, "TooLong"),(36, "InvalidName"),(37, "DuplicateName"),(38, "WrongKind"),(39, "CapacityExceeded"),(40, "InvalidLimit"),(41, "InvalidCommand"),(42, "ParseError"),(43, "UnknownName"),(44, "NothingLeft")] [false,false,false,false,false,false,true,false,false,false,false,false,false,false,false,false,false,false,false,false,false,false,false,false,false,false,false,false] (.ref (He.ga K "NotOfWay"))=true
 ist_InvalidWay:zAL K [(17, "InvalidLetters"),(18, "InvalidArc"),(19, "NotConnected"),(20, "InvalidNode"),(21, "InvalidOrder"),(22, "InvalidWay"),(23, "NotOfWay"),(24, "InvalidRounds"),(25, "NotKnown"),(26, "InvalidShifts"),(27, "InvalidSheets"),(28, "InvalidCounts"),(29, "InvalidQuestion"),(30, "TooMany"),(31, "InvalidText"),(32, "TooWide"),(33, "NotAnswered"),(34, "InvalidRules"),(35, "TooLong"),(36, "InvalidName"),(37, "DuplicateName"),(38, "WrongKind"),(39, "CapacityExceeded"),(40, "InvalidLimit"),(41, "InvalidCommand"),(42, "ParseError"),(43, "UnknownName"),(44, "NothingLeft")] [false,false,false,false,false,true,false,false,false,false,false,false,false,false,false,false,false,false,false,false,false,false,false,false,false,false,false,false] (.ref (He.ga K "InvalidWay"))=true
 ist_InvalidNode:zAL K [(17, "InvalidLetters"),(18, "InvalidArc"),(19, "NotConnected"),(20, "InvalidNode"),(21, "InvalidOrder"),(22, "InvalidWay"),(23, "NotOfWay"),(24, "InvalidRounds"),(25, "NotKnown"),(26, "InvalidShifts"),(27, "InvalidSheets"),(28, "InvalidCounts"),(29, "InvalidQuestion"),(30, "TooMany"),(31, "InvalidText"),(32, "TooWide"),(33, "NotAnswered"),(34, "InvalidRules"),(35, "TooLong"),(36, "InvalidName"),(37, "DuplicateName"),(38, "WrongKind"),(39, "CapacityExceeded"),(40, "InvalidLimit"),(41, "InvalidCommand"),(42, "ParseError"),(43, "UnknownName"),(44, "NothingLeft")] [false,false,false,true,false,false,false,false,false,false,false,false,false,false,false,false,false,false,false,false,false,false,false,false,false,false,false,false] (.ref (He.ga K "InvalidNode"))=true
 ist_UnknownName:zAL K [(17, "InvalidLetters"),(18, "InvalidArc"),(19, "NotConnected"),(20, "InvalidNode"),(21, "InvalidOrder"),(22, "InvalidWay"),(23, "NotOfWay"),(24, "InvalidRounds"),(25, "NotKnown"),(26, "InvalidShifts"),(27, "InvalidSheets"),(28, "InvalidCounts"),(29, "InvalidQuestion"),(30, "TooMany"),(31, "InvalidText"),(32, "TooWide"),(33, "NotAnswered"),(34, "InvalidRules"),(35, "TooLong"),(36, "InvalidName"),(37, "DuplicateName"),(38, "WrongKind"),(39, "CapacityExceeded"),(40, "InvalidLimit"),(41, "InvalidCommand"),(42, "ParseError"),(43, "UnknownName"),(44, "NothingLeft")] [false,false,false,false,false,false,false,false,false,false,false,false,false,false,false,false,false,false,false,false,false,false,false,false,false,false,true,false] (.ref (He.ga K "UnknownName"))=true
 ist_WrongKind:zAL K [(17, "InvalidLetters"),(18, "InvalidArc"),(19, "NotConnected"),(20, "InvalidNode"),(21, "InvalidOrder"),(22, "InvalidWay"),(23, "NotOfWay"),(24, "InvalidRounds"),(25, "NotKnown"),(26, "InvalidShifts"),(27, "InvalidSheets"),(28, "InvalidCounts"),(29, "InvalidQuestion"),(30, "TooMany"),(31, "InvalidText"),(32, "TooWide"),(33, "NotAnswered"),(34, "InvalidRules"),(35, "TooLong"),(36, "InvalidName"),(37, "DuplicateName"),(38, "WrongKind"),(39, "CapacityExceeded"),(40, "InvalidLimit"),(41, "InvalidCommand"),(42, "ParseError"),(43, "UnknownName"),(44, "NothingLeft")] [false,false,false,false,false,false,false,false,false,false,false,false,false,false,false,false,false,false,false,false,false,true,false,false,false,false,false,false] (.ref (He.ga K "WrongKind"))=true
 ist_DuplicateName:zAL K [(17, "InvalidLetters"),(18, "InvalidArc"),(19, "NotConnected"),(20, "InvalidNode"),(21, "InvalidOrder"),(22, "InvalidWay"),(23, "NotOfWay"),(24, "InvalidRounds"),(25, "NotKnown"),(26, "InvalidShifts"),(27, "InvalidSheets"),(28, "InvalidCounts"),(29, "InvalidQuestion"),(30, "TooMany"),(31, "InvalidText"),(32, "TooWide"),(33, "NotAnswered"),(34, "InvalidRules"),(35, "TooLong"),(36, "InvalidName"),(37, "DuplicateName"),(38, "WrongKind"),(39, "CapacityExceeded"),(40, "InvalidLimit"),(41, "InvalidCommand"),(42, "ParseError"),(43, "UnknownName"),(44, "NothingLeft")] [false,false,false,false,false,false,false,false,false,false,false,false,false,false,false,false,false,false,false,false,true,false,false,false,false,false,false,false] (.ref (He.ga K "DuplicateName"))=true
 ist_InvalidName:zAL K [(17, "InvalidLetters"),(18, "InvalidArc"),(19, "NotConnected"),(20, "InvalidNode"),(21, "InvalidOrder"),(22, "InvalidWay"),(23, "NotOfWay"),(24, "InvalidRounds"),(25, "NotKnown"),(26, "InvalidShifts"),(27, "InvalidSheets"),(28, "InvalidCounts"),(29, "InvalidQuestion"),(30, "TooMany"),(31, "InvalidText"),(32, "TooWide"),(33, "NotAnswered"),(34, "InvalidRules"),(35, "TooLong"),(36, "InvalidName"),(37, "DuplicateName"),(38, "WrongKind"),(39, "CapacityExceeded"),(40, "InvalidLimit"),(41, "InvalidCommand"),(42, "ParseError"),(43, "UnknownName"),(44, "NothingLeft")] [false,false,false,false,false,false,false,false,false,false,false,false,false,false,false,false,false,false,false,true,false,false,false,false,false,false,false,false] (.ref (He.ga K "InvalidName"))=true
 ist_InvalidRules:zAL K [(17, "InvalidLetters"),(18, "InvalidArc"),(19, "NotConnected"),(20, "InvalidNode"),(21, "InvalidOrder"),(22, "InvalidWay"),(23, "NotOfWay"),(24, "InvalidRounds"),(25, "NotKnown"),(26, "InvalidShifts"),(27, "InvalidSheets"),(28, "InvalidCounts"),(29, "InvalidQuestion"),(30, "TooMany"),(31, "InvalidText"),(32, "TooWide"),(33, "NotAnswered"),(34, "InvalidRules"),(35, "TooLong"),(36, "InvalidName"),(37, "DuplicateName"),(38, "WrongKind"),(39, "CapacityExceeded"),(40, "InvalidLimit"),(41, "InvalidCommand"),(42, "ParseError"),(43, "UnknownName"),(44, "NothingLeft")] [false,false,false,false,false,false,false,false,false,false,false,false,false,false,false,false,false,true,false,false,false,false,false,false,false,false,false,false] (.ref (He.ga K "InvalidRules"))=true
 ist_InvalidArc:zAL K [(17, "InvalidLetters"),(18, "InvalidArc"),(19, "NotConnected"),(20, "InvalidNode"),(21, "InvalidOrder"),(22, "InvalidWay"),(23, "NotOfWay"),(24, "InvalidRounds"),(25, "NotKnown"),(26, "InvalidShifts"),(27, "InvalidSheets"),(28, "InvalidCounts"),(29, "InvalidQuestion"),(30, "TooMany"),(31, "InvalidText"),(32, "TooWide"),(33, "NotAnswered"),(34, "InvalidRules"),(35, "TooLong"),(36, "InvalidName"),(37, "DuplicateName"),(38, "WrongKind"),(39, "CapacityExceeded"),(40, "InvalidLimit"),(41, "InvalidCommand"),(42, "ParseError"),(43, "UnknownName"),(44, "NothingLeft")] [false,true,false,false,false,false,false,false,false,false,false,false,false,false,false,false,false,false,false,false,false,false,false,false,false,false,false,false] (.ref (He.ga K "InvalidArc"))=true
 ist_InvalidCommand:zAL K [(17, "InvalidLetters"),(18, "InvalidArc"),(19, "NotConnected"),(20, "InvalidNode"),(21, "InvalidOrder"),(22, "InvalidWay"),(23, "NotOfWay"),(24, "InvalidRounds"),(25, "NotKnown"),(26, "InvalidShifts"),(27, "InvalidSheets"),(28, "InvalidCounts"),(29, "InvalidQuestion"),(30, "TooMany"),(31, "InvalidText"),(32, "TooWide"),(33, "NotAnswered"),(34, "InvalidRules"),(35, "TooLong"),(36, "InvalidName"),(37, "DuplicateName"),(38, "WrongKind"),(39, "CapacityExceeded"),(40, "InvalidLimit"),(41, "InvalidCommand"),(42, "ParseError"),(43, "UnknownName"),(44, "NothingLeft")] [false,false,false,false,false,false,false,false,false,false,false,false,false,false,false,false,false,false,false,false,false,false,false,false,true,false,false,false] (.ref (He.ga K "InvalidCommand"))=true
 ist_InvalidLimit:zAL K [(17, "InvalidLetters"),(18, "InvalidArc"),(19, "NotConnected"),(20, "InvalidNode"),(21, "InvalidOrder"),(22, "InvalidWay"),(23, "NotOfWay"),(24, "InvalidRounds"),(25, "NotKnown"),(26, "InvalidShifts"),(27, "InvalidSheets"),(28, "InvalidCounts"),(29, "InvalidQuestion"),(30, "TooMany"),(31, "InvalidText"),(32, "TooWide"),(33, "NotAnswered"),(34, "InvalidRules"),(35, "TooLong"),(36, "InvalidName"),(37, "DuplicateName"),(38, "WrongKind"),(39, "CapacityExceeded"),(40, "InvalidLimit"),(41, "InvalidCommand"),(42, "ParseError"),(43, "UnknownName"),(44, "NothingLeft")] [false,false,false,false,false,false,false,false,false,false,false,false,false,false,false,false,false,false,false,false,false,false,false,true,false,false,false,false] (.ref (He.ga K "InvalidLimit"))=true
 ist_CapacityExceeded:zAL K [(17, "InvalidLetters"),(18, "InvalidArc"),(19, "NotConnected"),(20, "InvalidNode"),(21, "InvalidOrder"),(22, "InvalidWay"),(23, "NotOfWay"),(24, "InvalidRounds"),(25, "NotKnown"),(26, "InvalidShifts"),(27, "InvalidSheets"),(28, "InvalidCounts"),(29, "InvalidQuestion"),(30, "TooMany"),(31, "InvalidText"),(32, "TooWide"),(33, "NotAnswered"),(34, "InvalidRules"),(35, "TooLong"),(36, "InvalidName"),(37, "DuplicateName"),(38, "WrongKind"),(39, "CapacityExceeded"),(40, "InvalidLimit"),(41, "InvalidCommand"),(42, "ParseError"),(43, "UnknownName"),(44, "NothingLeft")] [false,false,false,false,false,false,false,false,false,false,false,false,false,false,false,false,false,false,false,false,false,false,true,false,false,false,false,false] (.ref (He.ga K "CapacityExceeded"))=true
 ist_TooLong:zAL K [(17, "InvalidLetters"),(18, "InvalidArc"),(19, "NotConnected"),(20, "InvalidNode"),(21, "InvalidOrder"),(22, "InvalidWay"),(23, "NotOfWay"),(24, "InvalidRounds"),(25, "NotKnown"),(26, "InvalidShifts"),(27, "InvalidSheets"),(28, "InvalidCounts"),(29, "InvalidQuestion"),(30, "TooMany"),(31, "InvalidText"),(32, "TooWide"),(33, "NotAnswered"),(34, "InvalidRules"),(35, "TooLong"),(36, "InvalidName"),(37, "DuplicateName"),(38, "WrongKind"),(39, "CapacityExceeded"),(40, "InvalidLimit"),(41, "InvalidCommand"),(42, "ParseError"),(43, "UnknownName"),(44, "NothingLeft")] [false,false,false,false,false,false,false,false,false,false,false,false,false,false,false,false,false,false,true,false,false,false,false,false,false,false,false,false] (.ref (He.ga K "TooLong"))=true
 ist_TooWide:zAL K [(17, "InvalidLetters"),(18, "InvalidArc"),(19, "NotConnected"),(20, "InvalidNode"),(21, "InvalidOrder"),(22, "InvalidWay"),(23, "NotOfWay"),(24, "InvalidRounds"),(25, "NotKnown"),(26, "InvalidShifts"),(27, "InvalidSheets"),(28, "InvalidCounts"),(29, "InvalidQuestion"),(30, "TooMany"),(31, "InvalidText"),(32, "TooWide"),(33, "NotAnswered"),(34, "InvalidRules"),(35, "TooLong"),(36, "InvalidName"),(37, "DuplicateName"),(38, "WrongKind"),(39, "CapacityExceeded"),(40, "InvalidLimit"),(41, "InvalidCommand"),(42, "ParseError"),(43, "UnknownName"),(44, "NothingLeft")] [false,false,false,false,false,false,false,false,false,false,false,false,false,false,false,true,false,false,false,false,false,false,false,false,false,false,false,false] (.ref (He.ga K "TooWide"))=true
 ist_TooMany:zAL K [(17, "InvalidLetters"),(18, "InvalidArc"),(19, "NotConnected"),(20, "InvalidNode"),(21, "InvalidOrder"),(22, "InvalidWay"),(23, "NotOfWay"),(24, "InvalidRounds"),(25, "NotKnown"),(26, "InvalidShifts"),(27, "InvalidSheets"),(28, "InvalidCounts"),(29, "InvalidQuestion"),(30, "TooMany"),(31, "InvalidText"),(32, "TooWide"),(33, "NotAnswered"),(34, "InvalidRules"),(35, "TooLong"),(36, "InvalidName"),(37, "DuplicateName"),(38, "WrongKind"),(39, "CapacityExceeded"),(40, "InvalidLimit"),(41, "InvalidCommand"),(42, "ParseError"),(43, "UnknownName"),(44, "NothingLeft")] [false,false,false,false,false,false,false,false,false,false,false,false,false,true,false,false,false,false,false,false,false,false,false,false,false,false,false,false] (.ref (He.ga K "TooMany"))=true
 ist_InvalidShifts:zAL K [(17, "InvalidLetters"),(18, "InvalidArc"),(19, "NotConnected"),(20, "InvalidNode"),(21, "InvalidOrder"),(22, "InvalidWay"),(23, "NotOfWay"),(24, "InvalidRounds"),(25, "NotKnown"),(26, "InvalidShifts"),(27, "InvalidSheets"),(28, "InvalidCounts"),(29, "InvalidQuestion"),(30, "TooMany"),(31, "InvalidText"),(32, "TooWide"),(33, "NotAnswered"),(34, "InvalidRules"),(35, "TooLong"),(36, "InvalidName"),(37, "DuplicateName"),(38, "WrongKind"),(39, "CapacityExceeded"),(40, "InvalidLimit"),(41, "InvalidCommand"),(42, "ParseError"),(43, "UnknownName"),(44, "NothingLeft")] [false,false,false,false,false,false,false,false,false,true,false,false,false,false,false,false,false,false,false,false,false,false,false,false,false,false,false,false] (.ref (He.ga K "InvalidShifts"))=true
 ist_NotKnown:zAL K [(17, "InvalidLetters"),(18, "InvalidArc"),(19, "NotConnected"),(20, "InvalidNode"),(21, "InvalidOrder"),(22, "InvalidWay"),(23, "NotOfWay"),(24, "InvalidRounds"),(25, "NotKnown"),(26, "InvalidShifts"),(27, "InvalidSheets"),(28, "InvalidCounts"),(29, "InvalidQuestion"),(30, "TooMany"),(31, "InvalidText"),(32, "TooWide"),(33, "NotAnswered"),(34, "InvalidRules"),(35, "TooLong"),(36, "InvalidName"),(37, "DuplicateName"),(38, "WrongKind"),(39, "CapacityExceeded"),(40, "InvalidLimit"),(41, "InvalidCommand"),(42, "ParseError"),(43, "UnknownName"),(44, "NothingLeft")] [false,false,false,false,false,false,false,false,true,false,false,false,false,false,false,false,false,false,false,false,false,false,false,false,false,false,false,false] (.ref (He.ga K "NotKnown"))=true
 ist_InvalidOrder:zAL K [(17, "InvalidLetters"),(18, "InvalidArc"),(19, "NotConnected"),(20, "InvalidNode"),(21, "InvalidOrder"),(22, "InvalidWay"),(23, "NotOfWay"),(24, "InvalidRounds"),(25, "NotKnown"),(26, "InvalidShifts"),(27, "InvalidSheets"),(28, "InvalidCounts"),(29, "InvalidQuestion"),(30, "TooMany"),(31, "InvalidText"),(32, "TooWide"),(33, "NotAnswered"),(34, "InvalidRules"),(35, "TooLong"),(36, "InvalidName"),(37, "DuplicateName"),(38, "WrongKind"),(39, "CapacityExceeded"),(40, "InvalidLimit"),(41, "InvalidCommand"),(42, "ParseError"),(43, "UnknownName"),(44, "NothingLeft")] [false,false,false,false,true,false,false,false,false,false,false,false,false,false,false,false,false,false,false,false,false,false,false,false,false,false,false,false] (.ref (He.ga K "InvalidOrder"))=true
 ist_NotConnected:zAL K [(17, "InvalidLetters"),(18, "InvalidArc"),(19, "NotConnected"),(20, "InvalidNode"),(21, "InvalidOrder"),(22, "InvalidWay"),(23, "NotOfWay"),(24, "InvalidRounds"),(25, "NotKnown"),(26, "InvalidShifts"),(27, "InvalidSheets"),(28, "InvalidCounts"),(29, "InvalidQuestion"),(30, "TooMany"),(31, "InvalidText"),(32, "TooWide"),(33, "NotAnswered"),(34, "InvalidRules"),(35, "TooLong"),(36, "InvalidName"),(37, "DuplicateName"),(38, "WrongKind"),(39, "CapacityExceeded"),(40, "InvalidLimit"),(41, "InvalidCommand"),(42, "ParseError"),(43, "UnknownName"),(44, "NothingLeft")] [false,false,true,false,false,false,false,false,false,false,false,false,false,false,false,false,false,false,false,false,false,false,false,false,false,false,false,false] (.ref (He.ga K "NotConnected"))=true
 ist_InvalidLetters:zAL K [(17, "InvalidLetters"),(18, "InvalidArc"),(19, "NotConnected"),(20, "InvalidNode"),(21, "InvalidOrder"),(22, "InvalidWay"),(23, "NotOfWay"),(24, "InvalidRounds"),(25, "NotKnown"),(26, "InvalidShifts"),(27, "InvalidSheets"),(28, "InvalidCounts"),(29, "InvalidQuestion"),(30, "TooMany"),(31, "InvalidText"),(32, "TooWide"),(33, "NotAnswered"),(34, "InvalidRules"),(35, "TooLong"),(36, "InvalidName"),(37, "DuplicateName"),(38, "WrongKind"),(39, "CapacityExceeded"),(40, "InvalidLimit"),(41, "InvalidCommand"),(42, "ParseError"),(43, "UnknownName"),(44, "NothingLeft")] [true,false,false,false,false,false,false,false,false,false,false,false,false,false,false,false,false,false,false,false,false,false,false,false,false,false,false,false] (.ref (He.ga K "InvalidLetters"))=true
 ist_ParseError:zAL K [(17, "InvalidLetters"),(18, "InvalidArc"),(19, "NotConnected"),(20, "InvalidNode"),(21, "InvalidOrder"),(22, "InvalidWay"),(23, "NotOfWay"),(24, "InvalidRounds"),(25, "NotKnown"),(26, "InvalidShifts"),(27, "InvalidSheets"),(28, "InvalidCounts"),(29, "InvalidQuestion"),(30, "TooMany"),(31, "InvalidText"),(32, "TooWide"),(33, "NotAnswered"),(34, "InvalidRules"),(35, "TooLong"),(36, "InvalidName"),(37, "DuplicateName"),(38, "WrongKind"),(39, "CapacityExceeded"),(40, "InvalidLimit"),(41, "InvalidCommand"),(42, "ParseError"),(43, "UnknownName"),(44, "NothingLeft")] [false,false,false,false,false,false,false,false,false,false,false,false,false,false,false,false,false,false,false,false,false,false,false,false,false,true,false,false] (.ref (He.ga K "ParseError"))=true
 ist_NothingLeft:zAL K [(17, "InvalidLetters"),(18, "InvalidArc"),(19, "NotConnected"),(20, "InvalidNode"),(21, "InvalidOrder"),(22, "InvalidWay"),(23, "NotOfWay"),(24, "InvalidRounds"),(25, "NotKnown"),(26, "InvalidShifts"),(27, "InvalidSheets"),(28, "InvalidCounts"),(29, "InvalidQuestion"),(30, "TooMany"),(31, "InvalidText"),(32, "TooWide"),(33, "NotAnswered"),(34, "InvalidRules"),(35, "TooLong"),(36, "InvalidName"),(37, "DuplicateName"),(38, "WrongKind"),(39, "CapacityExceeded"),(40, "InvalidLimit"),(41, "InvalidCommand"),(42, "ParseError"),(43, "UnknownName"),(44, "NothingLeft")] [false,false,false,false,false,false,false,false,false,false,false,false,false,false,false,false,false,false,false,false,false,false,false,false,false,false,false,true] (.ref (He.ga K "NothingLeft"))=true
 ist_InvalidText:zAL K [(17, "InvalidLetters"),(18, "InvalidArc"),(19, "NotConnected"),(20, "InvalidNode"),(21, "InvalidOrder"),(22, "InvalidWay"),(23, "NotOfWay"),(24, "InvalidRounds"),(25, "NotKnown"),(26, "InvalidShifts"),(27, "InvalidSheets"),(28, "InvalidCounts"),(29, "InvalidQuestion"),(30, "TooMany"),(31, "InvalidText"),(32, "TooWide"),(33, "NotAnswered"),(34, "InvalidRules"),(35, "TooLong"),(36, "InvalidName"),(37, "DuplicateName"),(38, "WrongKind"),(39, "CapacityExceeded"),(40, "InvalidLimit"),(41, "InvalidCommand"),(42, "ParseError"),(43, "UnknownName"),(44, "NothingLeft")] [false,false,false,false,false,false,false,false,false,false,false,false,false,false,true,false,false,false,false,false,false,false,false,false,false,false,false,false] (.ref (He.ga K "InvalidText"))=true
 ist_InvalidQuestion:zAL K [(17, "InvalidLetters"),(18, "InvalidArc"),(19, "NotConnected"),(20, "InvalidNode"),(21, "InvalidOrder"),(22, "InvalidWay"),(23, "NotOfWay"),(24, "InvalidRounds"),(25, "NotKnown"),(26, "InvalidShifts"),(27, "InvalidSheets"),(28, "InvalidCounts"),(29, "InvalidQuestion"),(30, "TooMany"),(31, "InvalidText"),(32, "TooWide"),(33, "NotAnswered"),(34, "InvalidRules"),(35, "TooLong"),(36, "InvalidName"),(37, "DuplicateName"),(38, "WrongKind"),(39, "CapacityExceeded"),(40, "InvalidLimit"),(41, "InvalidCommand"),(42, "ParseError"),(43, "UnknownName"),(44, "NothingLeft")] [false,false,false,false,false,false,false,false,false,false,false,false,true,false,false,false,false,false,false,false,false,false,false,false,false,false,false,false] (.ref (He.ga K "InvalidQuestion"))=true
 ist_InvalidCounts:zAL K [(17, "InvalidLetters"),(18, "InvalidArc"),(19, "NotConnected"),(20, "InvalidNode"),(21, "InvalidOrder"),(22, "InvalidWay"),(23, "NotOfWay"),(24, "InvalidRounds"),(25, "NotKnown"),(26, "InvalidShifts"),(27, "InvalidSheets"),(28, "InvalidCounts"),(29, "InvalidQuestion"),(30, "TooMany"),(31, "InvalidText"),(32, "TooWide"),(33, "NotAnswered"),(34, "InvalidRules"),(35, "TooLong"),(36, "InvalidName"),(37, "DuplicateName"),(38, "WrongKind"),(39, "CapacityExceeded"),(40, "InvalidLimit"),(41, "InvalidCommand"),(42, "ParseError"),(43, "UnknownName"),(44, "NothingLeft")] [false,false,false,false,false,false,false,false,false,false,false,true,false,false,false,false,false,false,false,false,false,false,false,false,false,false,false,false] (.ref (He.ga K "InvalidCounts"))=true
 ist_SayError:zAL K [(17, "InvalidLetters"),(18, "InvalidArc"),(19, "NotConnected"),(20, "InvalidNode"),(21, "InvalidOrder"),(22, "InvalidWay"),(23, "NotOfWay"),(24, "InvalidRounds"),(25, "NotKnown"),(26, "InvalidShifts"),(27, "InvalidSheets"),(28, "InvalidCounts"),(29, "InvalidQuestion"),(30, "TooMany"),(31, "InvalidText"),(32, "TooWide"),(33, "NotAnswered"),(34, "InvalidRules"),(35, "TooLong"),(36, "InvalidName"),(37, "DuplicateName"),(38, "WrongKind"),(39, "CapacityExceeded"),(40, "InvalidLimit"),(41, "InvalidCommand"),(42, "ParseError"),(43, "UnknownName"),(44, "NothingLeft")] [true,true,true,true,true,true,true,true,true,true,true,true,true,true,true,true,true,true,true,true,true,true,true,true,true,true,false,false] (.ref (He.ga K "SayError"))=true
 ist_ValueError:zAL K [(17, "InvalidLetters"),(18, "InvalidArc"),(19, "NotConnected"),(20, "InvalidNode"),(21, "InvalidOrder"),(22, "InvalidWay"),(23, "NotOfWay"),(24, "InvalidRounds"),(25, "NotKnown"),(26, "InvalidShifts"),(27, "InvalidSheets"),(28, "InvalidCounts"),(29, "InvalidQuestion"),(30, "TooMany"),(31, "InvalidText"),(32, "TooWide"),(33, "NotAnswered"),(34, "InvalidRules"),(35, "TooLong"),(36, "InvalidName"),(37, "DuplicateName"),(38, "WrongKind"),(39, "CapacityExceeded"),(40, "InvalidLimit"),(41, "InvalidCommand"),(42, "ParseError"),(43, "UnknownName"),(44, "NothingLeft")] [true,true,true,true,true,true,true,true,true,true,true,true,true,true,true,true,true,true,true,true,true,true,true,true,true,true,false,false] (.type "ValueError")=true
 ist_LookupError:zAL K [(17, "InvalidLetters"),(18, "InvalidArc"),(19, "NotConnected"),(20, "InvalidNode"),(21, "InvalidOrder"),(22, "InvalidWay"),(23, "NotOfWay"),(24, "InvalidRounds"),(25, "NotKnown"),(26, "InvalidShifts"),(27, "InvalidSheets"),(28, "InvalidCounts"),(29, "InvalidQuestion"),(30, "TooMany"),(31, "InvalidText"),(32, "TooWide"),(33, "NotAnswered"),(34, "InvalidRules"),(35, "TooLong"),(36, "InvalidName"),(37, "DuplicateName"),(38, "WrongKind"),(39, "CapacityExceeded"),(40, "InvalidLimit"),(41, "InvalidCommand"),(42, "ParseError"),(43, "UnknownName"),(44, "NothingLeft")] [false,false,false,false,false,false,false,false,false,false,false,false,false,false,false,false,false,false,false,false,false,false,false,false,false,false,true,true] (.type "LookupError")=true
 ist_Missing:zAL K [(17, "InvalidLetters"),(18, "InvalidArc"),(19, "NotConnected"),(20, "InvalidNode"),(21, "InvalidOrder"),(22, "InvalidWay"),(23, "NotOfWay"),(24, "InvalidRounds"),(25, "NotKnown"),(26, "InvalidShifts"),(27, "InvalidSheets"),(28, "InvalidCounts"),(29, "InvalidQuestion"),(30, "TooMany"),(31, "InvalidText"),(32, "TooWide"),(33, "NotAnswered"),(34, "InvalidRules"),(35, "TooLong"),(36, "InvalidName"),(37, "DuplicateName"),(38, "WrongKind"),(39, "CapacityExceeded"),(40, "InvalidLimit"),(41, "InvalidCommand"),(42, "ParseError"),(43, "UnknownName"),(44, "NothingLeft")] [false,false,false,false,false,false,false,false,false,false,false,false,false,false,false,false,false,false,false,false,false,false,false,false,false,false,true,false] (.ref (He.ga K "Missing"))=true
 ist_IndexError:zAL K [(17, "InvalidLetters"),(18, "InvalidArc"),(19, "NotConnected"),(20, "InvalidNode"),(21, "InvalidOrder"),(22, "InvalidWay"),(23, "NotOfWay"),(24, "InvalidRounds"),(25, "NotKnown"),(26, "InvalidShifts"),(27, "InvalidSheets"),(28, "InvalidCounts"),(29, "InvalidQuestion"),(30, "TooMany"),(31, "InvalidText"),(32, "TooWide"),(33, "NotAnswered"),(34, "InvalidRules"),(35, "TooLong"),(36, "InvalidName"),(37, "DuplicateName"),(38, "WrongKind"),(39, "CapacityExceeded"),(40, "InvalidLimit"),(41, "InvalidCommand"),(42, "ParseError"),(43, "UnknownName"),(44, "NothingLeft")] [false,false,false,false,false,false,false,false,false,false,false,false,false,false,false,false,false,false,false,false,false,false,false,false,false,false,false,true] (.type "IndexError")=true
 pf:FileOf P "/claim/cut.py"
 d_law_bag:∃fd,FunD K "_law_bag" "_law_bag" (defArgs zBL) (defBody zBL) (defScope zBL) [] [] (He.fAd K ("_law_bag",none)) fd
 d_law_pull:∃fd,FunD K "_law_pull" "_law_pull" (defArgs zA2) (defBody zA2) (defScope zA2) [] [] (He.fAd K ("_law_pull",none)) fd
 d_law_of:∃fd,FunD K "_law_of" "_law_of" (defArgs zBo) (defBody zBo) (defScope zBo) [] [] (He.fAd K ("_law_of",none)) fd
 d_law_made_errors:∃fd,FunD K "_law_made_errors" "_law_made_errors" (defArgs zAO) (defBody zAO) (defScope zAO) [] [] (He.fAd K ("_law_made_errors",none)) fd
 d_law_same:∃fd,FunD K "_law_same" "_law_same" (defArgs zA3) (defBody zA3) (defScope zA3) [] [] (He.fAd K ("_law_same",none)) fd
 d_law_kinds_of:∃fd,FunD K "_law_kinds_of" "_law_kinds_of" (defArgs zAX) (defBody zAX) (defScope zAX) [] [] (He.fAd K ("_law_kinds_of",none)) fd
section
variable {P:Program}{w:World}{K:PySem.W.Frag}{mg:Str→Option Value}{base:Heap}{fr:List (Str×List (Str×Addr))}
theorem zCX(x:Fcts P K w mg):Exc0 P w K mg base (cl K fr) 1 17 (He.ga K "InvalidLetters") "InvalidLetters" := zBz x.pf x.e_InvalidLetters x.b_super rfl x.dd_InvalidLetters x.de_InvalidLetters ⟨_,rfl,rfl⟩ ⟨rfl,rfl,rfl,⋯,⋯,⋯,⋯,rfl,rfl⟩ (fun f cda cc=>⟨_,fun L=>⟨rfl,rfl,rfl⟩⟩) (fun _ _ _ _ _ _ _ us hl=>match us,hl with|[_],_=>rfl) (fun _=>rfl)
theorem zDT(x:Fcts P K w mg):Exc1 P w K mg base (cl K fr) 1 18 (He.ga K "InvalidArc") "InvalidArc" "index" "index" := zBP x.pf x.e_InvalidArc x.b_super rfl x.dd_InvalidArc x.de_InvalidArc ⟨_,rfl,rfl⟩ ⟨rfl,rfl,rfl,⋯,⋯,⋯,⋯,rfl,rfl⟩ (fun f cda cc=>⟨_,fun L=>⟨rfl,rfl,rfl⟩⟩) ⋯ ⋯ (fun _ _ _ _ _ _ _ us hl=>match us,hl with|[_,_],_=>rfl) (fun _=>rfl) (fun _=>rfl)
theorem zC7(x:Fcts P K w mg):Exc0 P w K mg base (cl K fr) 1 19 (He.ga K "NotConnected") "NotConnected" := zBz x.pf x.e_NotConnected x.b_super rfl x.dd_NotConnected x.de_NotConnected ⟨_,rfl,rfl⟩ ⟨rfl,rfl,rfl,⋯,⋯,⋯,⋯,rfl,rfl⟩ (fun f cda cc=>⟨_,fun L=>⟨rfl,rfl,rfl⟩⟩) (fun _ _ _ _ _ _ _ us hl=>match us,hl with|[_],_=>rfl) (fun _=>rfl)
theorem zDC(x:Fcts P K w mg):Exc1 P w K mg base (cl K fr) 1 20 (He.ga K "InvalidNode") "InvalidNode" "given" "given" := zBP x.pf x.e_InvalidNode x.b_super rfl x.dd_InvalidNode x.de_InvalidNode ⟨_,rfl,rfl⟩ ⟨rfl,rfl,rfl,⋯,⋯,⋯,⋯,rfl,rfl⟩ (fun f cda cc=>⟨_,fun L=>⟨rfl,rfl,rfl⟩⟩) ⋯ ⋯ (fun _ _ _ _ _ _ _ us hl=>match us,hl with|[_,_],_=>rfl) (fun _=>rfl) (fun _=>rfl)
theorem zC8(x:Fcts P K w mg):Exc0 P w K mg base (cl K fr) 1 21 (He.ga K "InvalidOrder") "InvalidOrder" := zBz x.pf x.e_InvalidOrder x.b_super rfl x.dd_InvalidOrder x.de_InvalidOrder ⟨_,rfl,rfl⟩ ⟨rfl,rfl,rfl,⋯,⋯,⋯,⋯,rfl,rfl⟩ (fun f cda cc=>⟨_,fun L=>⟨rfl,rfl,rfl⟩⟩) (fun _ _ _ _ _ _ _ us hl=>match us,hl with|[_],_=>rfl) (fun _=>rfl)
theorem zCC(x:Fcts P K w mg):zBx P w K mg base (cl K fr) 1 22 (He.ga K "InvalidWay") "InvalidWay" "given" "given" := zBS zAb x.pf x.e_InvalidWay x.b_super rfl x.dd_InvalidWay x.de_InvalidWay ⟨_,rfl,rfl⟩ ⟨rfl,rfl,rfl,⋯,⋯,⋯,⋯,rfl,rfl⟩ (fun f cda cc=>⟨_,fun L=>⟨rfl,rfl,rfl⟩⟩) ⋯ ⋯ (fun _ _ _ _ _ _ _ us hl=>match us,hl with|[_,_],_=>rfl) (fun _ _ _ _ _ _ _ _ _=>rfl) (fun _=>rfl) (fun _=>rfl)
theorem zGk(x:Fcts P K w mg):zCv P w K mg base (cl K fr) 1 22 (He.ga K "InvalidWay") "InvalidWay" "given" "given" := (zCC x).to
theorem zEA(x:Fcts P K w mg):Exc1 P w K mg base (cl K fr) 1 23 (He.ga K "NotOfWay") "NotOfWay" "given" "given" := zBP x.pf x.e_NotOfWay x.b_super rfl x.dd_NotOfWay x.de_NotOfWay ⟨_,rfl,rfl⟩ ⟨rfl,rfl,rfl,⋯,⋯,⋯,⋯,rfl,rfl⟩ (fun f cda cc=>⟨_,fun L=>⟨rfl,rfl,rfl⟩⟩) ⋯ ⋯ (fun _ _ _ _ _ _ _ us hl=>match us,hl with|[_,_],_=>rfl) (fun _=>rfl) (fun _=>rfl)
theorem zCh(x:Fcts P K w mg):Exc1 P w K mg base (cl K fr) 1 24 (He.ga K "InvalidRounds") "InvalidRounds" "given" "given" := zBP x.pf x.e_InvalidRounds x.b_super rfl x.dd_InvalidRounds x.de_InvalidRounds ⟨_,rfl,rfl⟩ ⟨rfl,rfl,rfl,⋯,⋯,⋯,⋯,rfl,rfl⟩ (fun f cda cc=>⟨_,fun L=>⟨rfl,rfl,rfl⟩⟩) ⋯ ⋯ (fun _ _ _ _ _ _ _ us hl=>match us,hl with|[_,_],_=>rfl) (fun _=>rfl) (fun _=>rfl)
theorem zD1(x:Fcts P K w mg):Exc0 P w K mg base (cl K fr) 1 25 (He.ga K "NotKnown") "NotKnown" := zBz x.pf x.e_NotKnown x.b_super rfl x.dd_NotKnown x.de_NotKnown ⟨_,rfl,rfl⟩ ⟨rfl,rfl,rfl,⋯,⋯,⋯,⋯,rfl,rfl⟩ (fun f cda cc=>⟨_,fun L=>⟨rfl,rfl,rfl⟩⟩) (fun _ _ _ _ _ _ _ us hl=>match us,hl with|[_],_=>rfl) (fun _=>rfl)
theorem zCo(x:Fcts P K w mg):Exc0 P w K mg base (cl K fr) 1 26 (He.ga K "InvalidShifts") "InvalidShifts" := zBz x.pf x.e_InvalidShifts x.b_super rfl x.dd_InvalidShifts x.de_InvalidShifts ⟨_,rfl,rfl⟩ ⟨rfl,rfl,rfl,⋯,⋯,⋯,⋯,rfl,rfl⟩ (fun f cda cc=>⟨_,fun L=>⟨rfl,rfl,rfl⟩⟩) (fun _ _ _ _ _ _ _ us hl=>match us,hl with|[_],_=>rfl) (fun _=>rfl)
theorem zCm(x:Fcts P K w mg):Exc1 P w K mg base (cl K fr) 1 27 (He.ga K "InvalidSheets") "InvalidSheets" "given" "given" := zBP x.pf x.e_InvalidSheets x.b_super rfl x.dd_InvalidSheets x.de_InvalidSheets ⟨_,rfl,rfl⟩ ⟨rfl,rfl,rfl,⋯,⋯,⋯,⋯,rfl,rfl⟩ (fun f cda cc=>⟨_,fun L=>⟨rfl,rfl,rfl⟩⟩) ⋯ ⋯ (fun _ _ _ _ _ _ _ us hl=>match us,hl with|[_,_],_=>rfl) (fun _=>rfl) (fun _=>rfl)
theorem zCg(x:Fcts P K w mg):Exc0 P w K mg base (cl K fr) 1 28 (He.ga K "InvalidCounts") "InvalidCounts" := zBz x.pf x.e_InvalidCounts x.b_super rfl x.dd_InvalidCounts x.de_InvalidCounts ⟨_,rfl,rfl⟩ ⟨rfl,rfl,rfl,⋯,⋯,⋯,⋯,rfl,rfl⟩ (fun f cda cc=>⟨_,fun L=>⟨rfl,rfl,rfl⟩⟩) (fun _ _ _ _ _ _ _ us hl=>match us,hl with|[_],_=>rfl) (fun _=>rfl)
theorem zCP(x:Fcts P K w mg):Exc0 P w K mg base (cl K fr) 1 29 (He.ga K "InvalidQuestion") "InvalidQuestion" := zBz x.pf x.e_InvalidQuestion x.b_super rfl x.dd_InvalidQuestion x.de_InvalidQuestion ⟨_,rfl,rfl⟩ ⟨rfl,rfl,rfl,⋯,⋯,⋯,⋯,rfl,rfl⟩ (fun f cda cc=>⟨_,fun L=>⟨rfl,rfl,rfl⟩⟩) (fun _ _ _ _ _ _ _ us hl=>match us,hl with|[_],_=>rfl) (fun _=>rfl)
theorem zEj(x:Fcts P K w mg):Exc1 P w K mg base (cl K fr) 1 30 (He.ga K "TooMany") "TooMany" "most" "most" := zBP x.pf x.e_TooMany x.b_super rfl x.dd_TooMany x.de_TooMany ⟨_,rfl,rfl⟩ ⟨rfl,rfl,rfl,⋯,⋯,⋯,⋯,rfl,rfl⟩ (fun f cda cc=>⟨_,fun L=>⟨rfl,rfl,rfl⟩⟩) ⋯ ⋯ (fun _ _ _ _ _ _ _ us hl=>match us,hl with|[_,_],_=>rfl) (fun _=>rfl) (fun _=>rfl)
theorem zDG(x:Fcts P K w mg):Exc0 P w K mg base (cl K fr) 1 31 (He.ga K "InvalidText") "InvalidText" := zBz x.pf x.e_InvalidText x.b_super rfl x.dd_InvalidText x.de_InvalidText ⟨_,rfl,rfl⟩ ⟨rfl,rfl,rfl,⋯,⋯,⋯,⋯,rfl,rfl⟩ (fun f cda cc=>⟨_,fun L=>⟨rfl,rfl,rfl⟩⟩) (fun _ _ _ _ _ _ _ us hl=>match us,hl with|[_],_=>rfl) (fun _=>rfl)
theorem zC1(x:Fcts P K w mg):zBx P w K mg base (cl K fr) 1 32 (He.ga K "TooWide") "TooWide" "most" "most" := zBS zAb x.pf x.e_TooWide x.b_super rfl x.dd_TooWide x.de_TooWide ⟨_,rfl,rfl⟩ ⟨rfl,rfl,rfl,⋯,⋯,⋯,⋯,rfl,rfl⟩ (fun f cda cc=>⟨_,fun L=>⟨rfl,rfl,rfl⟩⟩) ⋯ ⋯ (fun _ _ _ _ _ _ _ us hl=>match us,hl with|[_,_],_=>rfl) (fun _ _ _ _ _ _ _ _ _=>rfl) (fun _=>rfl) (fun _=>rfl)
theorem zIA(x:Fcts P K w mg):zCv P w K mg base (cl K fr) 1 32 (He.ga K "TooWide") "TooWide" "most" "most" := (zC1 x).to
theorem zDF(x:Fcts P K w mg):Exc1 P w K mg base (cl K fr) 1 33 (He.ga K "NotAnswered") "NotAnswered" "given" "given" := zBP x.pf x.e_NotAnswered x.b_super rfl x.dd_NotAnswered x.de_NotAnswered ⟨_,rfl,rfl⟩ ⟨rfl,rfl,rfl,⋯,⋯,⋯,⋯,rfl,rfl⟩ (fun f cda cc=>⟨_,fun L=>⟨rfl,rfl,rfl⟩⟩) ⋯ ⋯ (fun _ _ _ _ _ _ _ us hl=>match us,hl with|[_,_],_=>rfl) (fun _=>rfl) (fun _=>rfl)
theorem zBv(x:Fcts P K w mg):zBx P w K mg base (cl K fr) 1 34 (He.ga K "InvalidRules") "InvalidRules" "index" "index" := zBS zAb x.pf x.e_InvalidRules x.b_super rfl x.dd_InvalidRules x.de_InvalidRules ⟨_,rfl,rfl⟩ ⟨rfl,rfl,rfl,⋯,⋯,⋯,⋯,rfl,rfl⟩ (fun f cda cc=>⟨_,fun L=>⟨rfl,rfl,rfl⟩⟩) ⋯ ⋯ (fun _ _ _ _ _ _ _ us hl=>match us,hl with|[_,_],_=>rfl) (fun _ _ _ _ _ _ _ _ _=>rfl) (fun _=>rfl) (fun _=>rfl)
theorem zFR(x:Fcts P K w mg):zCv P w K mg base (cl K fr) 1 34 (He.ga K "InvalidRules") "InvalidRules" "index" "index" := (zBv x).to
theorem zEY(x:Fcts P K w mg):Exc1 P w K mg base (cl K fr) 1 35 (He.ga K "TooLong") "TooLong" "most" "most" := zBP x.pf x.e_TooLong x.b_super rfl x.dd_TooLong x.de_TooLong ⟨_,rfl,rfl⟩ ⟨rfl,rfl,rfl,⋯,⋯,⋯,⋯,rfl,rfl⟩ (fun f cda cc=>⟨_,fun L=>⟨rfl,rfl,rfl⟩⟩) ⋯ ⋯ (fun _ _ _ _ _ _ _ us hl=>match us,hl with|[_,_],_=>rfl) (fun _=>rfl) (fun _=>rfl)
theorem zDJ(x:Fcts P K w mg):Exc1 P w K mg base (cl K fr) 1 36 (He.ga K "InvalidName") "InvalidName" "name" "name" := zBP x.pf x.e_InvalidName x.b_super rfl x.dd_InvalidName x.de_InvalidName ⟨_,rfl,rfl⟩ ⟨rfl,rfl,rfl,⋯,⋯,⋯,⋯,rfl,rfl⟩ (fun f cda cc=>⟨_,fun L=>⟨rfl,rfl,rfl⟩⟩) ⋯ ⋯ (fun _ _ _ _ _ _ _ us hl=>match us,hl with|[_,_],_=>rfl) (fun _=>rfl) (fun _=>rfl)
theorem zCi(x:Fcts P K w mg):Exc1 P w K mg base (cl K fr) 1 37 (He.ga K "DuplicateName") "DuplicateName" "name" "name" := zBP x.pf x.e_DuplicateName x.b_super rfl x.dd_DuplicateName x.de_DuplicateName ⟨_,rfl,rfl⟩ ⟨rfl,rfl,rfl,⋯,⋯,⋯,⋯,rfl,rfl⟩ (fun f cda cc=>⟨_,fun L=>⟨rfl,rfl,rfl⟩⟩) ⋯ ⋯ (fun _ _ _ _ _ _ _ us hl=>match us,hl with|[_,_],_=>rfl) (fun _=>rfl) (fun _=>rfl)
theorem zCM(x:Fcts P K w mg):zBx P w K mg base (cl K fr) 1 38 (He.ga K "WrongKind") "WrongKind" "name" "name" := zBS zAb x.pf x.e_WrongKind x.b_super rfl x.dd_WrongKind x.de_WrongKind ⟨_,rfl,rfl⟩ ⟨rfl,rfl,rfl,⋯,⋯,⋯,⋯,rfl,rfl⟩ (fun f cda cc=>⟨_,fun L=>⟨rfl,rfl,rfl⟩⟩) ⋯ ⋯ (fun _ _ _ _ _ _ _ us hl=>match us,hl with|[_,_],_=>rfl) (fun _ _ _ _ _ _ _ _ _=>rfl) (fun _=>rfl) (fun _=>rfl)
theorem zG4(x:Fcts P K w mg):zCv P w K mg base (cl K fr) 1 38 (He.ga K "WrongKind") "WrongKind" "name" "name" := (zCM x).to
theorem zCJ(x:Fcts P K w mg):Exc1 P w K mg base (cl K fr) 1 39 (He.ga K "CapacityExceeded") "CapacityExceeded" "limit" "limit" := zBP x.pf x.e_CapacityExceeded x.b_super rfl x.dd_CapacityExceeded x.de_CapacityExceeded ⟨_,rfl,rfl⟩ ⟨rfl,rfl,rfl,⋯,⋯,⋯,⋯,rfl,rfl⟩ (fun f cda cc=>⟨_,fun L=>⟨rfl,rfl,rfl⟩⟩) ⋯ ⋯ (fun _ _ _ _ _ _ _ us hl=>match us,hl with|[_,_],_=>rfl) (fun _=>rfl) (fun _=>rfl)
theorem zBt(x:Fcts P K w mg):zBx P w K mg base (cl K fr) 1 40 (He.ga K "InvalidLimit") "InvalidLimit" "limit" "limit" := zBS zAb x.pf x.e_InvalidLimit x.b_super rfl x.dd_InvalidLimit x.de_InvalidLimit ⟨_,rfl,rfl⟩ ⟨rfl,rfl,rfl,⋯,⋯,⋯,⋯,rfl,rfl⟩ (fun f cda cc=>⟨_,fun L=>⟨rfl,rfl,rfl⟩⟩) ⋯ ⋯ (fun _ _ _ _ _ _ _ us hl=>match us,hl with|[_,_],_=>rfl) (fun _ _ _ _ _ _ _ _ _=>rfl) (fun _=>rfl) (fun _=>rfl)
theorem zFa(x:Fcts P K w mg):zCv P w K mg base (cl K fr) 1 40 (He.ga K "InvalidLimit") "InvalidLimit" "limit" "limit" := (zBt x).to
theorem zBX(x:Fcts P K w mg):zBx P w K mg base (cl K fr) 1 41 (He.ga K "InvalidCommand") "InvalidCommand" "word" "word" := zBS zAb x.pf x.e_InvalidCommand x.b_super rfl x.dd_InvalidCommand x.de_InvalidCommand ⟨_,rfl,rfl⟩ ⟨rfl,rfl,rfl,⋯,⋯,⋯,⋯,rfl,rfl⟩ (fun f cda cc=>⟨_,fun L=>⟨rfl,rfl,rfl⟩⟩) ⋯ ⋯ (fun _ _ _ _ _ _ _ us hl=>match us,hl with|[_,_],_=>rfl) (fun _ _ _ _ _ _ _ _ _=>rfl) (fun _=>rfl) (fun _=>rfl)
theorem zEk(x:Fcts P K w mg):zCv P w K mg base (cl K fr) 1 41 (He.ga K "InvalidCommand") "InvalidCommand" "word" "word" := (zBX x).to
theorem zCB(x:Fcts P K w mg):zBx P w K mg base (cl K fr) 1 42 (He.ga K "ParseError") "ParseError" "line" "line" := zBS zAb x.pf x.e_ParseError x.b_super rfl x.dd_ParseError x.de_ParseError ⟨_,rfl,rfl⟩ ⟨rfl,rfl,rfl,⋯,⋯,⋯,⋯,rfl,rfl⟩ (fun f cda cc=>⟨_,fun L=>⟨rfl,rfl,rfl⟩⟩) ⋯ ⋯ (fun _ _ _ _ _ _ _ us hl=>match us,hl with|[_,_],_=>rfl) (fun _ _ _ _ _ _ _ _ _=>rfl) (fun _=>rfl) (fun _=>rfl)
theorem zGM(x:Fcts P K w mg):zCv P w K mg base (cl K fr) 1 42 (He.ga K "ParseError") "ParseError" "line" "line" := (zCB x).to
theorem zDD(x:Fcts P K w mg):zCv P w K mg base (cl K fr) 1 43 (He.ga K "UnknownName") "UnknownName" "name" "name" := zGo zDB x.pf x.e_UnknownName x.b_super rfl x.dd_UnknownName x.de_UnknownName ⟨_,rfl,rfl⟩ ⟨rfl,rfl,rfl,⋯,⋯,⋯,⋯,rfl,rfl⟩ (fun f cda cc=>⟨_,fun L=>⟨rfl,rfl,rfl⟩⟩) ⋯ ⋯ (fun _ _ _ _ _ _ _ us hl=>match us,hl with|[_,_],_=>rfl) (fun _=>rfl) (fun _=>rfl)
theorem zDH(x:Fcts P K w mg):zH8 P w K mg base (cl K fr) 1 44 (He.ga K "NothingLeft") "NothingLeft" := zGe zDZ x.pf x.e_NothingLeft x.b_super rfl x.dd_NothingLeft x.de_NothingLeft ⟨_,rfl,rfl⟩ ⟨rfl,rfl,rfl,⋯,⋯,⋯,⋯,rfl,rfl⟩ (fun f cda cc=>⟨_,fun L=>⟨rfl,rfl,rfl⟩⟩) (fun _ _ _ _ _ _ _ us hl=>match us,hl with|[_],_=>rfl) (fun _=>rfl)
theorem zEr(x:Fcts P K w mg):∀q∈([(20,0),(22,0),(23,0),(24,0),(27,0),(33,0)]:List (Nat×Nat)),XfAt K (cl K fr) "given" q.1 q.2:=by
 intro q hq;simp only[Jl,Jq,J3]at hq;rcases hq with rfl|rfl|rfl|rfl|rfl|rfl
 ·exact zAR x.e_InvalidNode rfl rfl
 ·exact zBA x.e_InvalidWay rfl rfl
 ·exact zAR x.e_NotOfWay rfl rfl
 ·exact zAR x.e_InvalidRounds rfl rfl
 ·exact zAR x.e_InvalidSheets rfl rfl
 ·exact zAR x.e_NotAnswered rfl rfl
theorem zE7(x:Fcts P K w mg):∀q∈([(18,0),(34,0)]:List (Nat×Nat)),XfAt K (cl K fr) "index" q.1 q.2:=by
 intro q hq;simp only[Jl,Jq,J3]at hq;rcases hq with rfl|rfl
 ·exact zAR x.e_InvalidArc rfl rfl
 ·exact zBA x.e_InvalidRules rfl rfl
theorem zGP(x:Fcts P K w mg):∀q∈([(36,0),(37,0),(38,0),(43,0)]:List (Nat×Nat)),XfAt K (cl K fr) "name" q.1 q.2:=by
 intro q hq;simp only[Jl,Jq,J3]at hq;rcases hq with rfl|rfl|rfl|rfl
 ·exact zAR x.e_InvalidName rfl rfl
 ·exact zAR x.e_DuplicateName rfl rfl
 ·exact zBA x.e_WrongKind rfl rfl
 ·exact zBA x.e_UnknownName rfl rfl
theorem zGb(x:Fcts P K w mg):∀q∈([(30,0),(32,0),(35,0)]:List (Nat×Nat)),XfAt K (cl K fr) "most" q.1 q.2:=by
 intro q hq;simp only[Jl,Jq,J3]at hq;rcases hq with rfl|rfl|rfl
 ·exact zAR x.e_TooMany rfl rfl
 ·exact zBA x.e_TooWide rfl rfl
 ·exact zAR x.e_TooLong rfl rfl
theorem zGq(x:Fcts P K w mg):∀q∈([(42,0)]:List (Nat×Nat)),XfAt K (cl K fr) "line" q.1 q.2:=by
 intro q hq;simp only[Jl,Jq,J3]at hq;rcases hq with rfl
 ·exact zBA x.e_ParseError rfl rfl
theorem zFl(x:Fcts P K w mg):∀q∈([(41,0)]:List (Nat×Nat)),XfAt K (cl K fr) "word" q.1 q.2:=by
 intro q hq;simp only[Jl,Jq,J3]at hq;rcases hq with rfl
 ·exact zBA x.e_InvalidCommand rfl rfl
theorem zDl(x:Fcts P K w mg):∀q∈([(39,0),(40,0)]:List (Nat×Nat)),XfAt K (cl K fr) "limit" q.1 q.2:=by
 intro q hq;simp only[Jl,Jq,J3]at hq;rcases hq with rfl|rfl
 ·exact zAR x.e_CapacityExceeded rfl rfl
 ·exact zBA x.e_InvalidLimit rfl rfl
theorem zFC(x:Fcts P K w mg):∀q∈([(17,0),(18,1),(19,0),(20,1),(21,0),(22,1),(23,1),(24,1),(25,0),(26,0),(27,1),(28,0),(29,0),(30,1),(31,0),(32,1),(33,1),(34,1),(35,1),(36,1),(37,1),(38,1),(39,1),(40,1),(41,1),(42,1),(43,1),(44,0)]:List (Nat×Nat)),XfAt K (cl K fr) "tag" q.1 q.2:=by
 intro q hq;simp only[Jl,Jq,J3]at hq;rcases hq with rfl|rfl|rfl|rfl|rfl|rfl|rfl|rfl|rfl|rfl|rfl|rfl|rfl|rfl|rfl|rfl|rfl|rfl|rfl|rfl|rfl|rfl|rfl|rfl|rfl|rfl|rfl|rfl
 ·exact zAR x.e_InvalidLetters rfl rfl
 ·exact zAR x.e_InvalidArc rfl rfl
 ·exact zAR x.e_NotConnected rfl rfl
 ·exact zAR x.e_InvalidNode rfl rfl
 ·exact zAR x.e_InvalidOrder rfl rfl
 ·exact zBA x.e_InvalidWay rfl rfl
 ·exact zAR x.e_NotOfWay rfl rfl
 ·exact zAR x.e_InvalidRounds rfl rfl
 ·exact zAR x.e_NotKnown rfl rfl
 ·exact zAR x.e_InvalidShifts rfl rfl
 ·exact zAR x.e_InvalidSheets rfl rfl
 ·exact zAR x.e_InvalidCounts rfl rfl
 ·exact zAR x.e_InvalidQuestion rfl rfl
 ·exact zAR x.e_TooMany rfl rfl
 ·exact zAR x.e_InvalidText rfl rfl
 ·exact zBA x.e_TooWide rfl rfl
 ·exact zAR x.e_NotAnswered rfl rfl
 ·exact zBA x.e_InvalidRules rfl rfl
 ·exact zAR x.e_TooLong rfl rfl
 ·exact zAR x.e_InvalidName rfl rfl
 ·exact zAR x.e_DuplicateName rfl rfl
 ·exact zBA x.e_WrongKind rfl rfl
 ·exact zAR x.e_CapacityExceeded rfl rfl
 ·exact zBA x.e_InvalidLimit rfl rfl
 ·exact zBA x.e_InvalidCommand rfl rfl
 ·exact zBA x.e_ParseError rfl rfl
 ·exact zBA x.e_UnknownName rfl rfl
 ·exact zBA x.e_NothingLeft rfl rfl
theorem xlc:∀q∈zAD,∃ns,(cl K fr)[q.1]?=some (He.ga K q.2,ns):=by
 intro q hq;simp only[zAD,Jl,Jq,J3]at hq;rcases hq with rfl|rfl|rfl|rfl|rfl|rfl|rfl|rfl|rfl|rfl|rfl|rfl|rfl|rfl|rfl|rfl|rfl|rfl|rfl|rfl|rfl|rfl|rfl|rfl|rfl|rfl|rfl|rfl<;>exact⟨_,rfl⟩
theorem ist_NotAnswered(x:Fcts P K w mg):∀q∈isTb zAD [false,false,false,false,false,false,false,false,false,false,false,false,false,false,false,false,true,false,false,false,false,false,false,false,false,false,false,false],∃C' ns,(cl K fr)[q.1]?=some (C',ns)∧ExcC K C'∧PySem.W.kitOne K (.ref C') (.ref (He.ga K "NotAnswered"))=some q.2:=zAG xlc x.isa x.ist_NotAnswered
theorem ist_InvalidSheets(x:Fcts P K w mg):∀q∈isTb zAD [false,false,false,false,false,false,false,false,false,false,true,false,false,false,false,false,false,false,false,false,false,false,false,false,false,false,false,false],∃C' ns,(cl K fr)[q.1]?=some (C',ns)∧ExcC K C'∧PySem.W.kitOne K (.ref C') (.ref (He.ga K "InvalidSheets"))=some q.2:=zAG xlc x.isa x.ist_InvalidSheets
theorem ist_InvalidRounds(x:Fcts P K w mg):∀q∈isTb zAD [false,false,false,false,false,false,false,true,false,false,false,false,false,false,false,false,false,false,false,false,false,false,false,false,false,false,false,false],∃C' ns,(cl K fr)[q.1]?=some (C',ns)∧ExcC K C'∧PySem.W.kitOne K (.ref C') (.ref (He.ga K "InvalidRounds"))=some q.2:=zAG xlc x.isa x.ist_InvalidRounds
theorem ist_NotOfWay(x:Fcts P K w mg):∀q∈isTb zAD [false,false,false,false,false,false,true,false,false,false,false,false,false,false,false,false,false,false,false,false,false,false,false,false,false,false,false,false],∃C' ns,(cl K fr)[q.1]?=some (C',ns)∧ExcC K C'∧PySem.W.kitOne K (.ref C') (.ref (He.ga K "NotOfWay"))=some q.2:=zAG xlc x.isa x.ist_NotOfWay
theorem ist_InvalidWay(x:Fcts P K w mg):∀q∈isTb zAD [false,false,false,false,false,true,false,false,false,false,false,false,false,false,false,false,false,false,false,false,false,false,false,false,false,false,false,false],∃C' ns,(cl K fr)[q.1]?=some (C',ns)∧ExcC K C'∧PySem.W.kitOne K (.ref C') (.ref (He.ga K "InvalidWay"))=some q.2:=zAG xlc x.isa x.ist_InvalidWay
theorem ist_InvalidNode(x:Fcts P K w mg):∀q∈isTb zAD [false,false,false,true,false,false,false,false,false,false,false,false,false,false,false,false,false,false,false,false,false,false,false,false,false,false,false,false],∃C' ns,(cl K fr)[q.1]?=some (C',ns)∧ExcC K C'∧PySem.W.kitOne K (.ref C') (.ref (He.ga K "InvalidNode"))=some q.2:=zAG xlc x.isa x.ist_InvalidNode
theorem ist_UnknownName(x:Fcts P K w mg):∀q∈isTb zAD [false,false,false,false,false,false,false,false,false,false,false,false,false,false,false,false,false,false,false,false,false,false,false,false,false,false,true,false],∃C' ns,(cl K fr)[q.1]?=some (C',ns)∧ExcC K C'∧PySem.W.kitOne K (.ref C') (.ref (He.ga K "UnknownName"))=some q.2:=zAG xlc x.isa x.ist_UnknownName
theorem ist_WrongKind(x:Fcts P K w mg):∀q∈isTb zAD [false,false,false,false,false,false,false,false,false,false,false,false,false,false,false,false,false,false,false,false,false,true,false,false,false,false,false,false],∃C' ns,(cl K fr)[q.1]?=some (C',ns)∧ExcC K C'∧PySem.W.kitOne K (.ref C') (.ref (He.ga K "WrongKind"))=some q.2:=zAG xlc x.isa x.ist_WrongKind
theorem ist_DuplicateName(x:Fcts P K w mg):∀q∈isTb zAD [false,false,false,false,false,false,false,false,false,false,false,false,false,false,false,false,false,false,false,false,true,false,false,false,false,false,false,false],∃C' ns,(cl K fr)[q.1]?=some (C',ns)∧ExcC K C'∧PySem.W.kitOne K (.ref C') (.ref (He.ga K "DuplicateName"))=some q.2:=zAG xlc x.isa x.ist_DuplicateName
theorem ist_InvalidName(x:Fcts P K w mg):∀q∈isTb zAD [false,false,false,false,false,false,false,false,false,false,false,false,false,false,false,false,false,false,false,true,false,false,false,false,false,false,false,false],∃C' ns,(cl K fr)[q.1]?=some (C',ns)∧ExcC K C'∧PySem.W.kitOne K (.ref C') (.ref (He.ga K "InvalidName"))=some q.2:=zAG xlc x.isa x.ist_InvalidName
theorem ist_InvalidRules(x:Fcts P K w mg):∀q∈isTb zAD [false,false,false,false,false,false,false,false,false,false,false,false,false,false,false,false,false,true,false,false,false,false,false,false,false,false,false,false],∃C' ns,(cl K fr)[q.1]?=some (C',ns)∧ExcC K C'∧PySem.W.kitOne K (.ref C') (.ref (He.ga K "InvalidRules"))=some q.2:=zAG xlc x.isa x.ist_InvalidRules
theorem ist_InvalidArc(x:Fcts P K w mg):∀q∈isTb zAD [false,true,false,false,false,false,false,false,false,false,false,false,false,false,false,false,false,false,false,false,false,false,false,false,false,false,false,false],∃C' ns,(cl K fr)[q.1]?=some (C',ns)∧ExcC K C'∧PySem.W.kitOne K (.ref C') (.ref (He.ga K "InvalidArc"))=some q.2:=zAG xlc x.isa x.ist_InvalidArc
theorem ist_InvalidCommand(x:Fcts P K w mg):∀q∈isTb zAD [false,false,false,false,false,false,false,false,false,false,false,false,false,false,false,false,false,false,false,false,false,false,false,false,true,false,false,false],∃C' ns,(cl K fr)[q.1]?=some (C',ns)∧ExcC K C'∧PySem.W.kitOne K (.ref C') (.ref (He.ga K "InvalidCommand"))=some q.2:=zAG xlc x.isa x.ist_InvalidCommand
theorem ist_InvalidLimit(x:Fcts P K w mg):∀q∈isTb zAD [false,false,false,false,false,false,false,false,false,false,false,false,false,false,false,false,false,false,false,false,false,false,false,true,false,false,false,false],∃C' ns,(cl K fr)[q.1]?=some (C',ns)∧ExcC K C'∧PySem.W.kitOne K (.ref C') (.ref (He.ga K "InvalidLimit"))=some q.2:=zAG xlc x.isa x.ist_InvalidLimit
theorem ist_CapacityExceeded(x:Fcts P K w mg):∀q∈isTb zAD [false,false,false,false,false,false,false,false,false,false,false,false,false,false,false,false,false,false,false,false,false,false,true,false,false,false,false,false],∃C' ns,(cl K fr)[q.1]?=some (C',ns)∧ExcC K C'∧PySem.W.kitOne K (.ref C') (.ref (He.ga K "CapacityExceeded"))=some q.2:=zAG xlc x.isa x.ist_CapacityExceeded
theorem ist_TooLong(x:Fcts P K w mg):∀q∈isTb zAD [false,false,false,false,false,false,false,false,false,false,false,false,false,false,false,false,false,false,true,false,false,false,false,false,false,false,false,false],∃C' ns,(cl K fr)[q.1]?=some (C',ns)∧ExcC K C'∧PySem.W.kitOne K (.ref C') (.ref (He.ga K "TooLong"))=some q.2:=zAG xlc x.isa x.ist_TooLong
theorem ist_TooWide(x:Fcts P K w mg):∀q∈isTb zAD [false,false,false,false,false,false,false,false,false,false,false,false,false,false,false,true,false,false,false,false,false,false,false,false,false,false,false,false],∃C' ns,(cl K fr)[q.1]?=some (C',ns)∧ExcC K C'∧PySem.W.kitOne K (.ref C') (.ref (He.ga K "TooWide"))=some q.2:=zAG xlc x.isa x.ist_TooWide
theorem ist_TooMany(x:Fcts P K w mg):∀q∈isTb zAD [false,false,false,false,false,false,false,false,false,false,false,false,false,true,false,false,false,false,false,false,false,false,false,false,false,false,false,false],∃C' ns,(cl K fr)[q.1]?=some (C',ns)∧ExcC K C'∧PySem.W.kitOne K (.ref C') (.ref (He.ga K "TooMany"))=some q.2:=zAG xlc x.isa x.ist_TooMany
theorem ist_InvalidShifts(x:Fcts P K w mg):∀q∈isTb zAD [false,false,false,false,false,false,false,false,false,true,false,false,false,false,false,false,false,false,false,false,false,false,false,false,false,false,false,false],∃C' ns,(cl K fr)[q.1]?=some (C',ns)∧ExcC K C'∧PySem.W.kitOne K (.ref C') (.ref (He.ga K "InvalidShifts"))=some q.2:=zAG xlc x.isa x.ist_InvalidShifts
theorem ist_NotKnown(x:Fcts P K w mg):∀q∈isTb zAD [false,false,false,false,false,false,false,false,true,false,false,false,false,false,false,false,false,false,false,false,false,false,false,false,false,false,false,false],∃C' ns,(cl K fr)[q.1]?=some (C',ns)∧ExcC K C'∧PySem.W.kitOne K (.ref C') (.ref (He.ga K "NotKnown"))=some q.2:=zAG xlc x.isa x.ist_NotKnown
theorem ist_InvalidOrder(x:Fcts P K w mg):∀q∈isTb zAD [false,false,false,false,true,false,false,false,false,false,false,false,false,false,false,false,false,false,false,false,false,false,false,false,false,false,false,false],∃C' ns,(cl K fr)[q.1]?=some (C',ns)∧ExcC K C'∧PySem.W.kitOne K (.ref C') (.ref (He.ga K "InvalidOrder"))=some q.2:=zAG xlc x.isa x.ist_InvalidOrder
theorem ist_NotConnected(x:Fcts P K w mg):∀q∈isTb zAD [false,false,true,false,false,false,false,false,false,false,false,false,false,false,false,false,false,false,false,false,false,false,false,false,false,false,false,false],∃C' ns,(cl K fr)[q.1]?=some (C',ns)∧ExcC K C'∧PySem.W.kitOne K (.ref C') (.ref (He.ga K "NotConnected"))=some q.2:=zAG xlc x.isa x.ist_NotConnected
theorem ist_InvalidLetters(x:Fcts P K w mg):∀q∈isTb zAD [true,false,false,false,false,false,false,false,false,false,false,false,false,false,false,false,false,false,false,false,false,false,false,false,false,false,false,false],∃C' ns,(cl K fr)[q.1]?=some (C',ns)∧ExcC K C'∧PySem.W.kitOne K (.ref C') (.ref (He.ga K "InvalidLetters"))=some q.2:=zAG xlc x.isa x.ist_InvalidLetters
theorem ist_ParseError(x:Fcts P K w mg):∀q∈isTb zAD [false,false,false,false,false,false,false,false,false,false,false,false,false,false,false,false,false,false,false,false,false,false,false,false,false,true,false,false],∃C' ns,(cl K fr)[q.1]?=some (C',ns)∧ExcC K C'∧PySem.W.kitOne K (.ref C') (.ref (He.ga K "ParseError"))=some q.2:=zAG xlc x.isa x.ist_ParseError
theorem ist_NothingLeft(x:Fcts P K w mg):∀q∈isTb zAD [false,false,false,false,false,false,false,false,false,false,false,false,false,false,false,false,false,false,false,false,false,false,false,false,false,false,false,true],∃C' ns,(cl K fr)[q.1]?=some (C',ns)∧ExcC K C'∧PySem.W.kitOne K (.ref C') (.ref (He.ga K "NothingLeft"))=some q.2:=zAG xlc x.isa x.ist_NothingLeft
theorem ist_InvalidText(x:Fcts P K w mg):∀q∈isTb zAD [false,false,false,false,false,false,false,false,false,false,false,false,false,false,true,false,false,false,false,false,false,false,false,false,false,false,false,false],∃C' ns,(cl K fr)[q.1]?=some (C',ns)∧ExcC K C'∧PySem.W.kitOne K (.ref C') (.ref (He.ga K "InvalidText"))=some q.2:=zAG xlc x.isa x.ist_InvalidText
theorem ist_InvalidQuestion(x:Fcts P K w mg):∀q∈isTb zAD [false,false,false,false,false,false,false,false,false,false,false,false,true,false,false,false,false,false,false,false,false,false,false,false,false,false,false,false],∃C' ns,(cl K fr)[q.1]?=some (C',ns)∧ExcC K C'∧PySem.W.kitOne K (.ref C') (.ref (He.ga K "InvalidQuestion"))=some q.2:=zAG xlc x.isa x.ist_InvalidQuestion
theorem ist_InvalidCounts(x:Fcts P K w mg):∀q∈isTb zAD [false,false,false,false,false,false,false,false,false,false,false,true,false,false,false,false,false,false,false,false,false,false,false,false,false,false,false,false],∃C' ns,(cl K fr)[q.1]?=some (C',ns)∧ExcC K C'∧PySem.W.kitOne K (.ref C') (.ref (He.ga K "InvalidCounts"))=some q.2:=zAG xlc x.isa x.ist_InvalidCounts
theorem ist_SayError(x:Fcts P K w mg):∀q∈isTb zAD [true,true,true,true,true,true,true,true,true,true,true,true,true,true,true,true,true,true,true,true,true,true,true,true,true,true,false,false],∃C' ns,(cl K fr)[q.1]?=some (C',ns)∧ExcC K C'∧PySem.W.kitOne K (.ref C') (.ref (He.ga K "SayError"))=some q.2:=zAG xlc x.isa x.ist_SayError
theorem ist_ValueError(x:Fcts P K w mg):∀q∈isTb zAD [true,true,true,true,true,true,true,true,true,true,true,true,true,true,true,true,true,true,true,true,true,true,true,true,true,true,false,false],∃C' ns,(cl K fr)[q.1]?=some (C',ns)∧ExcC K C'∧PySem.W.kitOne K (.ref C') (.type "ValueError")=some q.2:=zAG xlc x.isa x.ist_ValueError
theorem ist_LookupError(x:Fcts P K w mg):∀q∈isTb zAD [false,false,false,false,false,false,false,false,false,false,false,false,false,false,false,false,false,false,false,false,false,false,false,false,false,false,true,true],∃C' ns,(cl K fr)[q.1]?=some (C',ns)∧ExcC K C'∧PySem.W.kitOne K (.ref C') (.type "LookupError")=some q.2:=zAG xlc x.isa x.ist_LookupError
theorem ist_Missing(x:Fcts P K w mg):∀q∈isTb zAD [false,false,false,false,false,false,false,false,false,false,false,false,false,false,false,false,false,false,false,false,false,false,false,false,false,false,true,false],∃C' ns,(cl K fr)[q.1]?=some (C',ns)∧ExcC K C'∧PySem.W.kitOne K (.ref C') (.ref (He.ga K "Missing"))=some q.2:=zAG xlc x.isa x.ist_Missing
theorem ist_IndexError(x:Fcts P K w mg):∀q∈isTb zAD [false,false,false,false,false,false,false,false,false,false,false,false,false,false,false,false,false,false,false,false,false,false,false,false,false,false,false,true],∃C' ns,(cl K fr)[q.1]?=some (C',ns)∧ExcC K C'∧PySem.W.kitOne K (.ref C') (.type "IndexError")=some q.2:=zAG xlc x.isa x.ist_IndexError
theorem zEX:FnScope ["_law_script", "_law_salt", "_law_cell"] ["_law_script"] (defScope zBL):=⟨rfl,rfl,rfl,⋯,rfl,⋯,⋯⟩
theorem zEb(x:Fcts P K w mg):Fk P w K mg base (cl K fr) 1 (He.fAd K ("_law_bag",none)) ["_law_script"] zBJ:=Fk.of x.d_law_bag zEX (fun _ _ _ _ _ _ us hl=>match us,hl with|[_],_=>rfl) fun cd A outer s H E g hr=>(zAE (zAV g (i:=1) rfl (zAS rfl) zAF rfl (.inl rfl))
  (zAE (ss_for PassesOwn.never g (zCp g (se_sl g (v0 0) zEz (zFM zAF))) (sgn g 2) (zAl (zAV g (i:=1) rfl (zAS rfl) (zCe (zA7 zAz zBs rfl x.b_int ⋯ (zAB (zAT g (zAT g (zCb (v0 1) zAF) (zCe (zA7 zAz zBs rfl x.b_int ⋯ (zAB (v0 2) zAH rfl) ⋯ rfl rfl rfl) zAF)) zAF) zAH rfl) ⋯ rfl rfl rfl) zAF) rfl (.inl rfl))) (fun _=>rfl))
  (zAl (zA8 (zHv (zAB (zA7 call_list_of zE9 rfl x.b_list ⋯ (zAB (se_sl g (v0 0) zEz (zFM zAF)) zAH rfl) ⋯ rfl rfl rfl) (zAB zAF (zAB zAF (zAB (v0 1) zAH rfl) rfl) rfl) rfl))))))
theorem zEC:FnScope ["_law_bag_here", "_law_amount", "_law_seed", "_law_cell", "_law_got"] ["_law_bag_here", "_law_amount"] (defScope zA2):=⟨rfl,rfl,rfl,⋯,rfl,⋯,⋯⟩
theorem zDz(x:Fcts P K w mg):Fk P w K mg base (cl K fr) 1 (He.fAd K ("_law_pull",none)) ["_law_bag_here", "_law_amount"] zAq:=Fk.of x.d_law_pull zEC (fun _ _ _ _ _ _ us hl=>match us,hl with|[_,_],_=>rfl) fun cd A outer s H E g hr=>(zAE (zCj (zFY (sw_and (st_eq g (ixK g (fun _ _=>rfl) (v0 0) zAF) zAF rfl) (zHA (st_lt (ixK g (fun _ _=>rfl) (v0 0) zAF) (zBp zB7 zCy rfl x.b_len ⋯ (zAB (ixK g (fun _ _=>rfl) (v0 0) zAF) zAH rfl) ⋯ rfl rfl rfl) rfl)))) (zAE (zAV g (i:=3) rfl (zAS rfl) (ixK g (fun _ _=>rfl) (ixK g (fun _ _=>rfl) (v0 0) zAF) (ixK g (fun _ _=>rfl) (v0 0) zAF)) rfl (.inl rfl))
  (zAE (zCQ g (v0 0) zAF (zAT g (ixK g (fun _ _=>rfl) (v0 0) zAF) zAF) (fun _=>rfl) rfl rfl rfl)
  (zAl (zCj (st_ge (v0 3) (zGw zAF zAF) rfl) (zAl (zCQ g (v0 0) zAF (v0 3) (fun _=>rfl) rfl rfl rfl)) (zAl (zCQ g (v0 0) zAF (zCe (zA7 zAz zBs rfl x.b_int ⋯ (zAB (zAT g (zAT g (zCb (ixK g (fun _ _=>rfl) (v0 0) zAF) zAF) (zCb (zCe (zA7 zAz zBs rfl x.b_int ⋯ (zAB (v0 3) zAH rfl) ⋯ rfl rfl rfl) zAF) zAF)) zAF) zAH rfl) ⋯ rfl rfl rfl) zAF) (fun _=>rfl) rfl rfl rfl)))))) zBw)
  (zAE (zCj (st_gt (ixK g (fun _ _=>rfl) (v0 0) zAF) zAF rfl) (zAE (zAV g (i:=4) rfl (zAS rfl) (zCe (zA7 zAz zBs rfl x.b_int ⋯ (zAB (ixK g (fun _ _=>rfl) (v0 0) zAF) zAH rfl) ⋯ rfl rfl rfl) (v0 1)) rfl (.inl rfl))
  (zAE (zCQ g (v0 0) zAF (zG6 (ixK g (fun _ _=>rfl) (v0 0) zAF) (v0 1)) (fun _=>rfl) rfl rfl rfl)
  (zAl (zA8 (v0 4))))) zBw)
  (zAE (zAV g (i:=2) rfl (zAS rfl) (ixK g (fun _ _=>rfl) (v0 0) zAF) rfl (.inl rfl))
  (zAE (zCQ g (v0 0) zAF (zCe (zA7 zAz zBs rfl x.b_int ⋯ (zAB (zAT g (zAT g (zCb (v0 2) (v0 2)) (zCb (v0 2) zAF)) zAF) zAH rfl) ⋯ rfl rfl rfl) zAF) (fun _=>rfl) rfl rfl rfl)
  (zAl (zA8 (zCe (zA7 zAz zBs rfl x.b_int ⋯ (zAB (zAT g (zG6 (ixK g (fun _ _=>rfl) (v0 0) zAF) zAF) (zCb (zCe (zA7 zAz zBs rfl x.b_int ⋯ (zAB (ixK g (fun _ _=>rfl) (v0 0) zAF) zAH rfl) ⋯ rfl rfl rfl) zAF) zAF)) zAH rfl) ⋯ rfl rfl rfl) (v0 1))))))))
theorem zFO:FnScope ["_law_bag_here", "_law_things"] ["_law_bag_here", "_law_things"] (defScope zBo):=⟨rfl,rfl,rfl,⋯,rfl,⋯,⋯⟩
theorem zE3(x:Fcts P K w mg):Fk P w K mg base (cl K fr) 2 (He.fAd K ("_law_of",none)) ["_law_bag_here", "_law_things"] zB9:=Fk.of x.d_law_of zFO (fun _ _ _ _ _ _ us hl=>match us,hl with|[_,_],_=>rfl) fun cd A outer s H E g hr=>(zAl (zA8 (ixK g (fun _ _=>rfl) (v0 1) (zDI (zDz x) g (rm hr) rfl x.g__law_pull (zAB (v0 0) (zAB (zBp zB7 zCy rfl x.b_len ⋯ (zAB (v0 1) zAH rfl) ⋯ rfl rfl rfl) zAH rfl) rfl) rfl rfl rfl))))
theorem zCL:FnScope ["_law_value", "_law_given_z", "_law_names", "_law_others", "_law_plain"] ["_law_value"] (defScope zAO):=⟨rfl,rfl,rfl,⋯,rfl,⋯,⋯⟩
theorem zCN(x:Fcts P K w mg):Fk P w K mg base (cl K fr) 3 (He.fAd K ("_law_made_errors",none)) ["_law_value"] zAW:=Fk.of x.d_law_made_errors zCL (fun _ _ _ _ _ _ us hl=>match us,hl with|[_],_=>rfl) fun cd A outer s H E g hr=>(zAE (zAV g (i:=1) rfl (zAS rfl) (zAZ (zAB (zBN (zDC x) g (rm hr) rfl x.g_InvalidNode (v0 0) ⋯ rfl rfl) (zAB (zBk (zCC x) g (rm hr) rfl x.g_InvalidWay (v0 0) ⋯ rfl rfl rfl) (zAB (zBN (zEA x) g (rm hr) rfl x.g_NotOfWay (v0 0) ⋯ rfl rfl) (zAB (zBN (zCh x) g (rm hr) rfl x.g_InvalidRounds (v0 0) ⋯ rfl rfl) (zAB (zBN (zCm x) g (rm hr) rfl x.g_InvalidSheets (v0 0) ⋯ rfl rfl) (zAB (zBN (zDF x) g (rm hr) rfl x.g_NotAnswered (v0 0) ⋯ rfl rfl) zAH rfl) rfl) rfl) rfl) rfl) rfl)) rfl (.inl rfl))
  (zAE (zAV g (i:=2) rfl (zAS rfl) (zAZ (zAB (zBN (zDJ x) g (rm hr) rfl x.g_InvalidName (v0 0) ⋯ rfl rfl) (zAB (zBN (zCi x) g (rm hr) rfl x.g_DuplicateName (v0 0) ⋯ rfl rfl) (zAB (zBk (zCM x) g (rm hr) rfl x.g_WrongKind (v0 0) ⋯ rfl rfl rfl) (zAB (zHi (zDD x) g (rm hr) rfl x.g_UnknownName (v0 0) ⋯ rfl rfl) zAH rfl) rfl) rfl) rfl)) rfl (.inl rfl))
  (zAE (zAV g (i:=3) rfl (zAS rfl) (zAZ (zAB (zBN (zCJ x) g (rm hr) rfl x.g_CapacityExceeded (v0 0) ⋯ rfl rfl) (zAB (zBk (zBt x) g (rm hr) rfl x.g_InvalidLimit (v0 0) ⋯ rfl rfl rfl) (zAB (zBk (zBX x) g (rm hr) rfl x.g_InvalidCommand (v0 0) ⋯ rfl rfl rfl) (zAB (zBk (zCB x) g (rm hr) rfl x.g_ParseError (v0 0) ⋯ rfl rfl rfl) zAH rfl) rfl) rfl) rfl)) rfl (.inl rfl))
  (zAE (zAV g (i:=4) rfl (zAS rfl) (zAZ (zAB (zB1 (zCX x) g (rm hr) rfl x.g_InvalidLetters ⋯) (zAB (zB1 (zC7 x) g (rm hr) rfl x.g_NotConnected ⋯) (zAB (zB1 (zC8 x) g (rm hr) rfl x.g_InvalidOrder ⋯) (zAB (zB1 (zD1 x) g (rm hr) rfl x.g_NotKnown ⋯) (zAB (zB1 (zCo x) g (rm hr) rfl x.g_InvalidShifts ⋯) (zAB (zB1 (zCg x) g (rm hr) rfl x.g_InvalidCounts ⋯) (zAB (zB1 (zCP x) g (rm hr) rfl x.g_InvalidQuestion ⋯) (zAB (zB1 (zDG x) g (rm hr) rfl x.g_InvalidText ⋯) (zAB (zH0 (zDH x) g (rm hr) rfl x.g_NothingLeft ⋯) zAH rfl) rfl) rfl) rfl) rfl) rfl) rfl) rfl) rfl)) rfl (.inl rfl))
  (zAl (zA8 (zAZ (zAB (v0 1) (zAB (zAZ (zAB (zBN (zDT x) g (rm hr) rfl x.g_InvalidArc (v0 0) ⋯ rfl rfl) (zAB (zBk (zBv x) g (rm hr) rfl x.g_InvalidRules (v0 0) ⋯ rfl rfl rfl) zAH rfl) rfl)) (zAB (v0 2) (zAB (zAZ (zAB (zBN (zEj x) g (rm hr) rfl x.g_TooMany (v0 0) ⋯ rfl rfl) (zAB (zBk (zC1 x) g (rm hr) rfl x.g_TooWide (v0 0) ⋯ rfl rfl rfl) (zAB (zBN (zEY x) g (rm hr) rfl x.g_TooLong (v0 0) ⋯ rfl rfl) zAH rfl) rfl) rfl)) (zAB (v0 3) (zAB (v0 4) zAH rfl) rfl) rfl) rfl) rfl) rfl))))))))
theorem zD9:FnScope ["_law_found", "_law_due", "_law_one", "_law_other"] ["_law_found", "_law_due"] (defScope zA3):=⟨rfl,rfl,rfl,⋯,rfl,⋯,⋯⟩
theorem zC4(x:Fcts P K w mg):∀n:Nat,Fk P w K mg base (cl K fr) (0+n) (He.fAd K ("_law_same",none)) ["_law_found", "_law_due"] (zAJ n)
 |0=>(Fk.zero (N:=[]) (fun _ _=>rfl) x.d_law_same (fun _ _ _ _ _ _ us hl=>match us,hl with|[_,_],_=>rfl)).mono (JY _)
 |n+1=>(fun(ih:Fk P w K mg base (cl K fr) (0+n) (He.fAd K ("_law_same",none)) ["_law_found", "_law_due"] (zAJ n))=>Fk.of x.d_law_same zD9 (fun _ _ _ _ _ _ us hl=>match us,hl with|[_,_],_=>rfl) fun cd A outer s H E g hr=>(zAE (zCj (zFY (zGm (zFL g (zBu g (!0) rfl x.b_isinstance rfl x.b_list ⋯ ⋯ rfl (v0 1) rfl rfl rfl) (fun _=>rfl)) (zET (zFL g (zBu g (!0) rfl x.b_isinstance rfl x.b_tuple ⋯ ⋯ rfl (v0 1) rfl rfl rfl) (fun _=>rfl))))) (zAE (zCj (zFY (zGm (zDq g (zBu g (!0) rfl x.b_isinstance rfl x.b_list ⋯ ⋯ rfl (v0 0) rfl rfl rfl) (zBu g (!0) rfl x.b_isinstance rfl x.b_list ⋯ ⋯ rfl (v0 1) rfl rfl rfl) rfl) (zET (zDq g (zBu g (!0) rfl x.b_isinstance rfl x.b_tuple ⋯ ⋯ rfl (v0 0) rfl rfl rfl) (zBu g (!0) rfl x.b_isinstance rfl x.b_tuple ⋯ ⋯ rfl (v0 1) rfl rfl rfl) rfl)))) (zAl (zA8 zCu)) zBw)
  (zAl (zA8 (zFQ (zFg g (zBp zB7 zCy rfl x.b_len ⋯ (zAB (v0 0) zAH rfl) ⋯ rfl rfl rfl) (zBp zB7 zCy rfl x.b_len ⋯ (zAB (v0 1) zAH rfl) ⋯ rfl rfl rfl) rfl) (zEy (zBp (zE5 g.hc) zFy rfl x.b_all ⋯ (zAB (zCn g zBC (own:=[("_law_one",2),("_law_other",3)]) (by kernel_rfl) rfl (zHx g rfl x.b_zip (v0 0) (v0 1) rfl rfl rfl) ⋯ (fun _=>(sg_tup (GX.blk g) (zBY (sgn (GX.blk g) 2) (zBY (sgn (GX.blk g) 3) zEs rfl) rfl) rfl rfl rfl)) (fun _=>zBD) (fun _=>(zDI ih (GX.blk g) hr rfl x.g__law_same (zAB (v0 2) (zAB (v0 3) zAH rfl) rfl) rfl rfl rfl)) (fun _=>rfl)) zAH rfl) ⋯ rfl rfl rfl)))))) zBw)
  (zAE (zCj (zFY (zGm (st_is (v0 1) zDp rfl) (zET (st_is (v0 0) zDp rfl)))) (zAl (zA8 (zFQ (se_is (v0 1) zDp rfl) (zEy (se_is (v0 0) zDp rfl))))) zBw)
  (zAE (zCj (zFY (zGm (zDq g (zBu g (!0) rfl x.b_isinstance rfl x.b_bool ⋯ ⋯ rfl (v0 0) rfl rfl rfl) (zBu g (!0) rfl x.b_isinstance rfl x.b_bool ⋯ ⋯ rfl (v0 1) rfl rfl rfl) rfl) (zET (zDq g (zBu g (!0) rfl x.b_isinstance rfl x.b_int ⋯ ⋯ rfl (v0 0) rfl rfl rfl) (zBu g (!0) rfl x.b_isinstance rfl x.b_int ⋯ ⋯ rfl (v0 1) rfl rfl rfl) rfl)))) (zAl (zA8 zCu)) zBw)
  (zAl (zA8 (zFQ (zFg g (zBu g (!0) rfl x.b_isinstance rfl x.b_str ⋯ ⋯ rfl (v0 0) rfl rfl rfl) (zBu g (!0) rfl x.b_isinstance rfl x.b_str ⋯ ⋯ rfl (v0 1) rfl rfl rfl) rfl) (zEy (zFg g (v0 0) (v0 1) rfl))))))))) (zC4 x n)
theorem zCw:FnScope ["_law_e", "_law_first", "_law_good"] ["_law_e"] (defScope zAX):=⟨rfl,rfl,rfl,⋯,rfl,⋯,⋯⟩
theorem zCt(x:Fcts P K w mg):Fk P w K mg base (cl K fr) 1 (He.fAd K ("_law_kinds_of",none)) ["_law_e"] zAA:=Fk.of x.d_law_kinds_of zCw (fun _ _ _ _ _ _ us hl=>match us,hl with|[_],_=>rfl) fun cd A outer s H E g hr=>(zAE (zAV g (i:=1) rfl (zAS rfl) (zAZ (zAB (zAP g (ist_InvalidNode x) rfl x.b_isinstance rfl x.g_InvalidNode ⋯ (v0 0) rfl rfl rfl) (zAB (zAP g (ist_InvalidWay x) rfl x.b_isinstance rfl x.g_InvalidWay ⋯ (v0 0) rfl rfl rfl) (zAB (zAP g (ist_NotOfWay x) rfl x.b_isinstance rfl x.g_NotOfWay ⋯ (v0 0) rfl rfl rfl) (zAB (zAP g (ist_InvalidRounds x) rfl x.b_isinstance rfl x.g_InvalidRounds ⋯ (v0 0) rfl rfl rfl) (zAB (zAP g (ist_InvalidSheets x) rfl x.b_isinstance rfl x.g_InvalidSheets ⋯ (v0 0) rfl rfl rfl) (zAB (zAP g (ist_NotAnswered x) rfl x.b_isinstance rfl x.g_NotAnswered ⋯ (v0 0) rfl rfl rfl) zAH rfl) rfl) rfl) rfl) rfl) rfl)) rfl (.inl rfl))
  (zAE (zAV g (i:=1) rfl (zAS rfl) (zAT g (v0 1) (zAZ (zAB (zAP g (ist_InvalidArc x) rfl x.b_isinstance rfl x.g_InvalidArc ⋯ (v0 0) rfl rfl rfl) (zAB (zAP g (ist_InvalidRules x) rfl x.b_isinstance rfl x.g_InvalidRules ⋯ (v0 0) rfl rfl rfl) (zAB (zAP g (ist_InvalidName x) rfl x.b_isinstance rfl x.g_InvalidName ⋯ (v0 0) rfl rfl rfl) (zAB (zAP g (ist_DuplicateName x) rfl x.b_isinstance rfl x.g_DuplicateName ⋯ (v0 0) rfl rfl rfl) (zAB (zAP g (ist_WrongKind x) rfl x.b_isinstance rfl x.g_WrongKind ⋯ (v0 0) rfl rfl rfl) (zAB (zAP g (ist_UnknownName x) rfl x.b_isinstance rfl x.g_UnknownName ⋯ (v0 0) rfl rfl rfl) zAH rfl) rfl) rfl) rfl) rfl) rfl))) rfl (.inl rfl))
  (zAE (zAV g (i:=1) rfl (zAS rfl) (zAT g (v0 1) (zAZ (zAB (zAP g (ist_TooMany x) rfl x.b_isinstance rfl x.g_TooMany ⋯ (v0 0) rfl rfl rfl) (zAB (zAP g (ist_TooWide x) rfl x.b_isinstance rfl x.g_TooWide ⋯ (v0 0) rfl rfl rfl) (zAB (zAP g (ist_TooLong x) rfl x.b_isinstance rfl x.g_TooLong ⋯ (v0 0) rfl rfl rfl) (zAB (zAP g (ist_CapacityExceeded x) rfl x.b_isinstance rfl x.g_CapacityExceeded ⋯ (v0 0) rfl rfl rfl) (zAB (zAP g (ist_InvalidLimit x) rfl x.b_isinstance rfl x.g_InvalidLimit ⋯ (v0 0) rfl rfl rfl) (zAB (zAP g (ist_InvalidCommand x) rfl x.b_isinstance rfl x.g_InvalidCommand ⋯ (v0 0) rfl rfl rfl) zAH rfl) rfl) rfl) rfl) rfl) rfl))) rfl (.inl rfl))
  (zAE (zAV g (i:=1) rfl (zAS rfl) (zAT g (v0 1) (zAZ (zAB (zAP g (ist_ParseError x) rfl x.b_isinstance rfl x.g_ParseError ⋯ (v0 0) rfl rfl rfl) (zAB (zAP g (ist_InvalidLetters x) rfl x.b_isinstance rfl x.g_InvalidLetters ⋯ (v0 0) rfl rfl rfl) (zAB (zAP g (ist_NotConnected x) rfl x.b_isinstance rfl x.g_NotConnected ⋯ (v0 0) rfl rfl rfl) (zAB (zAP g (ist_InvalidOrder x) rfl x.b_isinstance rfl x.g_InvalidOrder ⋯ (v0 0) rfl rfl rfl) (zAB (zAP g (ist_NotKnown x) rfl x.b_isinstance rfl x.g_NotKnown ⋯ (v0 0) rfl rfl rfl) (zAB (zAP g (ist_InvalidShifts x) rfl x.b_isinstance rfl x.g_InvalidShifts ⋯ (v0 0) rfl rfl rfl) zAH rfl) rfl) rfl) rfl) rfl) rfl))) rfl (.inl rfl))
  (zAE (zAV g (i:=1) rfl (zAS rfl) (zAT g (v0 1) (zAZ (zAB (zAP g (ist_InvalidCounts x) rfl x.b_isinstance rfl x.g_InvalidCounts ⋯ (v0 0) rfl rfl rfl) (zAB (zAP g (ist_InvalidQuestion x) rfl x.b_isinstance rfl x.g_InvalidQuestion ⋯ (v0 0) rfl rfl rfl) (zAB (zAP g (ist_InvalidText x) rfl x.b_isinstance rfl x.g_InvalidText ⋯ (v0 0) rfl rfl rfl) (zAB (zAP g (ist_NothingLeft x) rfl x.b_isinstance rfl x.g_NothingLeft ⋯ (v0 0) rfl rfl rfl) zAH rfl) rfl) rfl) rfl))) rfl (.inl rfl))
  (zAl (zA8 (zBp (zEn g.hc) zGB rfl x.b_sum ⋯ (zAB (zCn g zBC (own:=[("_law_good",2)]) (by kernel_rfl) rfl (zCp g (v0 1)) ⋯ (fun _=>(sgn (GX.blk g) 2)) (fun _=>zBD) (fun _=>(zA7 zAz zBs rfl x.b_int ⋯ (zAB (v0 2) zAH rfl) ⋯ rfl rfl rfl)) (fun _=>rfl)) zAH rfl) ⋯ rfl rfl rfl))))))))
theorem zGx:FnScope ["_law_script", "_law_bag_here", "_law_value", "_law_given_z", "_law_index_z", "_law_names", "_law_most_z", "_law_others", "_law_plain", "_law_told", "_law_all_errors", "_law_tags", "_law_kinds", "_law_one"] ["_law_script"] (defScope zD2):=⟨rfl,rfl,rfl,⋯,rfl,⋯,⋯⟩
theorem ok_law(x:Fcts P K w mg){f:Addr}{fd:FuncData} (Fd:FunD K "law" "law" (defArgs zD2) (defBody zD2) (defScope zD2) [] [] f fd):FnOk P w K mg base CX0 13 f fd ["_law_script"] (spF K (cl K fr) sm_law) :=
 fn_ok Fd zGx fun cd A outer s H E hr=>(have g:=gx_of zGx hr;(zAE (zAV g (i:=1) rfl (zAS rfl) (zDI (zEb x) g (rm hr) rfl x.g__law_bag (zAB (v0 0) zAH rfl) rfl rfl rfl) rfl (.inl rfl))
  (zAE (zAV g (i:=2) rfl (zAS rfl) (zDI (zE3 x) g (rm hr) rfl x.g__law_of (zAB (v0 1) (zAB (zAZ (zAB zAF (zAB zDp (zAB zAQ (zAB (se_tup (zAB zAF (zAB zAF zAH rfl) rfl)) (zAB (zGw zAF zAF) zAH rfl) rfl) rfl) rfl) rfl)) zAH rfl) rfl) rfl rfl rfl) rfl (.inl rfl))
  (zAE (zHd g (zBY (sgn g 3) (zBY (sgn g 4) (zBY (sgn g 5) (zBY (sgn g 6) (zBY (sgn g 7) (zBY (sgn g 8) zEs rfl) rfl) rfl) rfl) rfl) rfl) rfl rfl rfl (zDI (zCN x) g (rm hr) rfl x.g__law_made_errors (zAB (v0 2) zAH rfl) rfl rfl rfl) rfl rfl rfl)
  (zAE (zAV g (i:=9) rfl (zAS rfl) (zAT g (zAT g (zAT g (zCn g zBC (own:=[("_law_one",13)]) (by kernel_rfl) rfl (zCp g (v0 3)) ⋯ (fun _=>(sgn (GX.blk g) 13)) (fun _=>zBD) (fun _=>(zDE (GX.blk g) (zEr x) (v0 13) rfl)) (fun _=>rfl)) (zCn g zBC (own:=[("_law_one",13)]) (by kernel_rfl) rfl (zCp g (v0 4)) ⋯ (fun _=>(sgn (GX.blk g) 13)) (fun _=>zBD) (fun _=>(zDE (GX.blk g) (zE7 x) (v0 13) rfl)) (fun _=>rfl))) (zCn g zBC (own:=[("_law_one",13)]) (by kernel_rfl) rfl (zCp g (v0 5)) ⋯ (fun _=>(sgn (GX.blk g) 13)) (fun _=>zBD) (fun _=>(zDE (GX.blk g) (zGP x) (v0 13) rfl)) (fun _=>rfl))) (zCn g zBC (own:=[("_law_one",13)]) (by kernel_rfl) rfl (zCp g (v0 6)) ⋯ (fun _=>(sgn (GX.blk g) 13)) (fun _=>zBD) (fun _=>(zDE (GX.blk g) (zGb x) (v0 13) rfl)) (fun _=>rfl))) rfl (.inl rfl))
  (zAE (zAV g (i:=9) rfl (zAS rfl) (zAT g (v0 9) (zAZ (zAB (zDE g (zDl x) (ixK g (fun _ _=>rfl) (v0 7) zAF) rfl) (zAB (zDE g (zDl x) (ixK g (fun _ _=>rfl) (v0 7) zAF) rfl) (zAB (zDE g (zFl x) (ixK g (fun _ _=>rfl) (v0 7) zAF) rfl) (zAB (zDE g (zGq x) (ixK g (fun _ _=>rfl) (v0 7) zAF) rfl) zAH rfl) rfl) rfl) rfl))) rfl (.inl rfl))
  (zAE (zCj (st_not (zFL g (zDI (zC4 x 12) g (rm hr) rfl x.g__law_same (zAB (v0 9) (zAB (zEu (zAZ (zAB (v0 2) zAH rfl)) zAF) zAH rfl) rfl) rfl rfl rfl) (fun _=>rfl))) (zAl (zA8 zCu)) zBw)
  (zAE (zAV g (i:=10) rfl (zAS rfl) (zAT g (zAT g (zAT g (zAT g (zAT g (v0 3) (v0 4)) (v0 5)) (v0 6)) (v0 7)) (v0 8)) rfl (.inl rfl))
  (zAE (zAV g (i:=11) rfl (zAS rfl) (zAZ (zAB zAQ (zAB zAQ (zAB zAQ (zAB zAQ zAH rfl) rfl) rfl) rfl)) rfl (.inl rfl))
  (zAE (zAV g (i:=11) rfl (zAS rfl) (zAT g (v0 11) (zAZ (zAB zAQ (zAB zAQ (zAB zAQ (zAB zAQ zAH rfl) rfl) rfl) rfl))) rfl (.inl rfl))
  (zAE (zAV g (i:=11) rfl (zAS rfl) (zAT g (v0 11) (zAZ (zAB zAQ (zAB zAQ zAH rfl) rfl))) rfl (.inl rfl))
  (zAE (zAV g (i:=11) rfl (zAS rfl) (zAT g (v0 11) (zAZ (zAB zAQ (zAB zAQ (zAB zAQ (zAB zAQ (zAB zAQ zAH rfl) rfl) rfl) rfl) rfl))) rfl (.inl rfl))
  (zAE (zAV g (i:=11) rfl (zAS rfl) (zAT g (v0 11) (zAZ (zAB zAQ (zAB zAQ (zAB zAQ (zAB zAQ zAH rfl) rfl) rfl) rfl))) rfl (.inl rfl))
  (zAE (zAV g (i:=11) rfl (zAS rfl) (zAT g (v0 11) (zAZ (zAB zAQ zAH rfl))) rfl (.inl rfl))
  (zAE (zAV g (i:=11) rfl (zAS rfl) (zAT g (v0 11) (zAZ (zAB zAQ (zAB zAQ (zAB zAQ (zAB zAQ zAH rfl) rfl) rfl) rfl))) rfl (.inl rfl))
  (zAE (zAV g (i:=11) rfl (zAS rfl) (zAT g (v0 11) (zAZ (zAB zAQ (zAB zAQ (zAB zAQ (zAB zAQ zAH rfl) rfl) rfl) rfl))) rfl (.inl rfl))
  (zAE (zCj (zDq g (zCn g zBC (own:=[("_law_one",13)]) (by kernel_rfl) rfl (zCp g (v0 10)) ⋯ (fun _=>(sgn (GX.blk g) 13)) (fun _=>zBD) (fun _=>(zDE (GX.blk g) (zFC x) (v0 13) rfl)) (fun _=>rfl)) (v0 11) rfl) (zAl (zA8 zCu)) zBw)
  (zAE (zCj (zDq g (zCn g zBC (own:=[("_law_one",13)]) (by kernel_rfl) rfl (zCp g (v0 10)) ⋯ (fun _=>(sgn (GX.blk g) 13)) (fun _=>zBD) (fun _=>(zDI (zCt x) (GX.blk g) (rm hr) rfl x.g__law_kinds_of (zAB (v0 13) zAH rfl) rfl rfl rfl)) (fun _=>rfl)) (zEu (zAZ (zAB zAF zAH rfl)) (zBp zB7 zCy rfl x.b_len ⋯ (zAB (v0 10) zAH rfl) ⋯ rfl rfl rfl)) rfl) (zAl (zA8 zCu)) zBw)
  (zAE (zCj (zDq g (zCn g zBC (own:=[("_law_one",13)]) (by kernel_rfl) rfl (zCp g (v0 10)) ⋯ (fun _=>(sgn (GX.blk g) 13)) (fun _=>zBD) (fun _=>(zAP (GX.blk g) (ist_SayError x) rfl x.b_isinstance rfl x.g_SayError ⋯ (v0 13) rfl rfl rfl)) (fun _=>rfl)) (zCn g zBC (own:=[("_law_one",13)]) (by kernel_rfl) rfl (zCp g (v0 10)) ⋯ (fun _=>(sgn (GX.blk g) 13)) (fun _=>zBD) (fun _=>(zGG (GX.blk g) (zDE (GX.blk g) (zFC x) (v0 13) rfl) (zAZ (zAB zAQ (zAB zAQ zAH rfl) rfl)) rfl)) (fun _=>rfl)) rfl) (zAl (zA8 zCu)) zBw)
  (zAE (zCj (zDq g (zCn g zBC (own:=[("_law_one",13)]) (by kernel_rfl) rfl (zCp g (v0 10)) ⋯ (fun _=>(sgn (GX.blk g) 13)) (fun _=>zBD) (fun _=>(zD6 (GX.blk g) (ist_ValueError x) rfl x.b_isinstance rfl x.b_ValueError rfl ⋯ ⋯ (v0 13) rfl rfl rfl)) (fun _=>rfl)) (zCn g zBC (own:=[("_law_one",13)]) (by kernel_rfl) rfl (zCp g (v0 10)) ⋯ (fun _=>(sgn (GX.blk g) 13)) (fun _=>zBD) (fun _=>(zAP (GX.blk g) (ist_SayError x) rfl x.b_isinstance rfl x.g_SayError ⋯ (v0 13) rfl rfl rfl)) (fun _=>rfl)) rfl) (zAl (zA8 zCu)) zBw)
  (zAE (zAV g (i:=12) rfl (zAS rfl) (zAZ (zAB (zAP g (ist_Missing x) rfl x.b_isinstance rfl x.g_Missing ⋯ (ixK g (fun _ _=>rfl) (v0 5) zAF) rfl rfl rfl) (zAB (zD6 g (ist_LookupError x) rfl x.b_isinstance rfl x.b_LookupError rfl ⋯ ⋯ (ixK g (fun _ _=>rfl) (v0 5) zAF) rfl rfl rfl) zAH rfl) rfl)) rfl (.inl rfl))
  (zAE (zAV g (i:=12) rfl (zAS rfl) (zAT g (v0 12) (zAZ (zAB (zD6 g (ist_IndexError x) rfl x.b_isinstance rfl x.b_IndexError rfl ⋯ ⋯ (ixK g (fun _ _=>rfl) (v0 8) zAF) rfl rfl rfl) (zAB (zAP g (ist_Missing x) rfl x.b_isinstance rfl x.g_Missing ⋯ (ixK g (fun _ _=>rfl) (v0 8) zAF) rfl rfl rfl) zAH rfl) rfl))) rfl (.inl rfl))
  (zAl (zA8 (zFg g (v0 12) (zAZ (zAB zCu (zAB zCu (zAB zCu (zAB zCu zAH rfl) rfl) rfl) rfl)) rfl)))))))))))))))))))))))))
end
theorem tabW{w:World}{h:Heap}{K:PySem.W.Frag} (c:He.SaysX fa fn ts tf ex w h K) (i:Nat){t:He.Tab} (e:ts[i]?=some t):He.dicW K (t.1 K)=some (He.keysIn w.params t.2):=by
 have z:(ts.map fun t=>He.dicW K (t.1 K))=ts.map fun t=>some (He.keysIn w.params t.2):=congrArg (fun z:He.AlT=>z.2) c.t
 have z2:=congrArg (fun l=>l[i]?) z
 simp only[Jn,e]at z2
 first|exact Jb z2|exact z2|simpa using z2
theorem exV{w:World}{h:Heap}{K:PySem.W.Frag} (c:He.SaysX fa fn ts tf ex w h K) (i:Nat){b:Bool} (e:(exl K)[i]?=some b):b=true:=Js.mp c.more b (Jj e)
theorem fx{P:Program}{w:World}{h:Heap}{K:PySem.W.Frag}{mg:Str→Option Value} (pf:FileOf P "/claim/cut.py") (X:K.In h) (G:h.Ns mainGlobals mg) (c:SaysE fa fn ts tf ex es w h K):Fcts P K w mg where
 g__law_bag:=Jm X G (c.x.t.d.fact 0 rfl)
 g__law_pull:=Jm X G (c.x.t.d.fact 1 rfl)
 g__law_of:=Jm X G (c.x.t.d.fact 2 rfl)
 g__law_made_errors:=Jm X G (c.x.t.d.fact 3 rfl)
 g__law_same:=Jm X G (c.x.t.d.fact 4 rfl)
 g__law_kinds_of:=Jm X G (c.x.t.d.fact 5 rfl)
 g_law:=Jm X G (c.x.t.d.fact 6 rfl)
 g_NotAnswered:=Jm X G (c.x.t.d.fact 7 rfl)
 g_InvalidSheets:=Jm X G (c.x.t.d.fact 8 rfl)
 g_InvalidRounds:=Jm X G (c.x.t.d.fact 9 rfl)
 g_NotOfWay:=Jm X G (c.x.t.d.fact 10 rfl)
 g_InvalidWay:=Jm X G (c.x.t.d.fact 11 rfl)
 g_InvalidNode:=Jm X G (c.x.t.d.fact 12 rfl)
 g_UnknownName:=Jm X G (c.x.t.d.fact 13 rfl)
 g_WrongKind:=Jm X G (c.x.t.d.fact 14 rfl)
 g_DuplicateName:=Jm X G (c.x.t.d.fact 15 rfl)
 g_InvalidName:=Jm X G (c.x.t.d.fact 16 rfl)
 g_ParseError:=Jm X G (c.x.t.d.fact 17 rfl)
 g_InvalidCommand:=Jm X G (c.x.t.d.fact 18 rfl)
 g_InvalidLimit:=Jm X G (c.x.t.d.fact 19 rfl)
 g_CapacityExceeded:=Jm X G (c.x.t.d.fact 20 rfl)
 g_NothingLeft:=Jm X G (c.x.t.d.fact 21 rfl)
 g_InvalidText:=Jm X G (c.x.t.d.fact 22 rfl)
 g_InvalidQuestion:=Jm X G (c.x.t.d.fact 23 rfl)
 g_InvalidCounts:=Jm X G (c.x.t.d.fact 24 rfl)
 g_InvalidShifts:=Jm X G (c.x.t.d.fact 25 rfl)
 g_NotKnown:=Jm X G (c.x.t.d.fact 26 rfl)
 g_InvalidOrder:=Jm X G (c.x.t.d.fact 27 rfl)
 g_NotConnected:=Jm X G (c.x.t.d.fact 28 rfl)
 g_InvalidLetters:=Jm X G (c.x.t.d.fact 29 rfl)
 g_TooLong:=Jm X G (c.x.t.d.fact 30 rfl)
 g_TooWide:=Jm X G (c.x.t.d.fact 31 rfl)
 g_TooMany:=Jm X G (c.x.t.d.fact 32 rfl)
 g_InvalidRules:=Jm X G (c.x.t.d.fact 33 rfl)
 g_InvalidArc:=Jm X G (c.x.t.d.fact 34 rfl)
 g_Missing:=Jm X G (c.x.t.d.fact 35 rfl)
 g_SayError:=Jm X G (c.x.t.d.fact 36 rfl)
 b_IndexError:=JI X G (c.x.t.d.fact 37 rfl)
 b_LookupError:=JI X G (c.x.t.d.fact 38 rfl)
 b_ValueError:=JI X G (c.x.t.d.fact 39 rfl)
 b_all:=JI X G (c.x.t.d.fact 40 rfl)
 b_bool:=JI X G (c.x.t.d.fact 41 rfl)
 b_int:=JI X G (c.x.t.d.fact 42 rfl)
 b_isinstance:=JI X G (c.x.t.d.fact 43 rfl)
 b_len:=JI X G (c.x.t.d.fact 44 rfl)
 b_list:=JI X G (c.x.t.d.fact 45 rfl)
 b_str:=JI X G (c.x.t.d.fact 46 rfl)
 b_sum:=JI X G (c.x.t.d.fact 47 rfl)
 b_super:=JI X G (c.x.t.d.fact 48 rfl)
 b_tuple:=JI X G (c.x.t.d.fact 49 rfl)
 b_zip:=JI X G (c.x.t.d.fact 50 rfl)
 e_InvalidLetters:=exV c.x 0 rfl
 de_InvalidLetters:=(c.def_ 0 rfl).1
 dd_InvalidLetters:=(c.def_ 0 rfl).2
 e_InvalidArc:=exV c.x 1 rfl
 de_InvalidArc:=(c.def_ 1 rfl).1
 dd_InvalidArc:=(c.def_ 1 rfl).2
 e_NotConnected:=exV c.x 2 rfl
 de_NotConnected:=(c.def_ 2 rfl).1
 dd_NotConnected:=(c.def_ 2 rfl).2
 e_InvalidNode:=exV c.x 3 rfl
 de_InvalidNode:=(c.def_ 3 rfl).1
 dd_InvalidNode:=(c.def_ 3 rfl).2
 e_InvalidOrder:=exV c.x 4 rfl
 de_InvalidOrder:=(c.def_ 4 rfl).1
 dd_InvalidOrder:=(c.def_ 4 rfl).2
 e_InvalidWay:=exV c.x 5 rfl
 de_InvalidWay:=(c.def_ 5 rfl).1
 dd_InvalidWay:=(c.def_ 5 rfl).2
 e_NotOfWay:=exV c.x 6 rfl
 de_NotOfWay:=(c.def_ 6 rfl).1
 dd_NotOfWay:=(c.def_ 6 rfl).2
 e_InvalidRounds:=exV c.x 7 rfl
 de_InvalidRounds:=(c.def_ 7 rfl).1
 dd_InvalidRounds:=(c.def_ 7 rfl).2
 e_NotKnown:=exV c.x 8 rfl
 de_NotKnown:=(c.def_ 8 rfl).1
 dd_NotKnown:=(c.def_ 8 rfl).2
 e_InvalidShifts:=exV c.x 9 rfl
 de_InvalidShifts:=(c.def_ 9 rfl).1
 dd_InvalidShifts:=(c.def_ 9 rfl).2
 e_InvalidSheets:=exV c.x 10 rfl
 de_InvalidSheets:=(c.def_ 10 rfl).1
 dd_InvalidSheets:=(c.def_ 10 rfl).2
 e_InvalidCounts:=exV c.x 11 rfl
 de_InvalidCounts:=(c.def_ 11 rfl).1
 dd_InvalidCounts:=(c.def_ 11 rfl).2
 e_InvalidQuestion:=exV c.x 12 rfl
 de_InvalidQuestion:=(c.def_ 12 rfl).1
 dd_InvalidQuestion:=(c.def_ 12 rfl).2
 e_TooMany:=exV c.x 13 rfl
 de_TooMany:=(c.def_ 13 rfl).1
 dd_TooMany:=(c.def_ 13 rfl).2
 e_InvalidText:=exV c.x 14 rfl
 de_InvalidText:=(c.def_ 14 rfl).1
 dd_InvalidText:=(c.def_ 14 rfl).2
 e_TooWide:=exV c.x 15 rfl
 de_TooWide:=(c.def_ 15 rfl).1
 dd_TooWide:=(c.def_ 15 rfl).2
 e_NotAnswered:=exV c.x 16 rfl
 de_NotAnswered:=(c.def_ 16 rfl).1
 dd_NotAnswered:=(c.def_ 16 rfl).2
 e_InvalidRules:=exV c.x 17 rfl
 de_InvalidRules:=(c.def_ 17 rfl).1
 dd_InvalidRules:=(c.def_ 17 rfl).2
 e_TooLong:=exV c.x 18 rfl
 de_TooLong:=(c.def_ 18 rfl).1
 dd_TooLong:=(c.def_ 18 rfl).2
 e_InvalidName:=exV c.x 19 rfl
 de_InvalidName:=(c.def_ 19 rfl).1
 dd_InvalidName:=(c.def_ 19 rfl).2
 e_DuplicateName:=exV c.x 20 rfl
 de_DuplicateName:=(c.def_ 20 rfl).1
 dd_DuplicateName:=(c.def_ 20 rfl).2
 e_WrongKind:=exV c.x 21 rfl
 de_WrongKind:=(c.def_ 21 rfl).1
 dd_WrongKind:=(c.def_ 21 rfl).2
 e_CapacityExceeded:=exV c.x 22 rfl
 de_CapacityExceeded:=(c.def_ 22 rfl).1
 dd_CapacityExceeded:=(c.def_ 22 rfl).2
 e_InvalidLimit:=exV c.x 23 rfl
 de_InvalidLimit:=(c.def_ 23 rfl).1
 dd_InvalidLimit:=(c.def_ 23 rfl).2
 e_InvalidCommand:=exV c.x 24 rfl
 de_InvalidCommand:=(c.def_ 24 rfl).1
 dd_InvalidCommand:=(c.def_ 24 rfl).2
 e_ParseError:=exV c.x 25 rfl
 de_ParseError:=(c.def_ 25 rfl).1
 dd_ParseError:=(c.def_ 25 rfl).2
 e_UnknownName:=exV c.x 26 rfl
 de_UnknownName:=(c.def_ 26 rfl).1
 dd_UnknownName:=(c.def_ 26 rfl).2
 e_NothingLeft:=exV c.x 27 rfl
 de_NothingLeft:=(c.def_ 27 rfl).1
 dd_NothingLeft:=(c.def_ 27 rfl).2
 isa:=exV c.x 28 rfl
 ist_NotAnswered:=exV c.x 29 rfl
 ist_InvalidSheets:=exV c.x 30 rfl
 ist_InvalidRounds:=exV c.x 31 rfl
 ist_NotOfWay:=exV c.x 32 rfl
 ist_InvalidWay:=exV c.x 33 rfl
 ist_InvalidNode:=exV c.x 34 rfl
 ist_UnknownName:=exV c.x 35 rfl
 ist_WrongKind:=exV c.x 36 rfl
 ist_DuplicateName:=exV c.x 37 rfl
 ist_InvalidName:=exV c.x 38 rfl
 ist_InvalidRules:=exV c.x 39 rfl
 ist_InvalidArc:=exV c.x 40 rfl
 ist_InvalidCommand:=exV c.x 41 rfl
 ist_InvalidLimit:=exV c.x 42 rfl
 ist_CapacityExceeded:=exV c.x 43 rfl
 ist_TooLong:=exV c.x 44 rfl
 ist_TooWide:=exV c.x 45 rfl
 ist_TooMany:=exV c.x 46 rfl
 ist_InvalidShifts:=exV c.x 47 rfl
 ist_NotKnown:=exV c.x 48 rfl
 ist_InvalidOrder:=exV c.x 49 rfl
 ist_NotConnected:=exV c.x 50 rfl
 ist_InvalidLetters:=exV c.x 51 rfl
 ist_ParseError:=exV c.x 52 rfl
 ist_NothingLeft:=exV c.x 53 rfl
 ist_InvalidText:=exV c.x 54 rfl
 ist_InvalidQuestion:=exV c.x 55 rfl
 ist_InvalidCounts:=exV c.x 56 rfl
 ist_SayError:=exV c.x 57 rfl
 ist_ValueError:=exV c.x 58 rfl
 ist_LookupError:=exV c.x 59 rfl
 ist_Missing:=exV c.x 60 rfl
 ist_IndexError:=exV c.x 61 rfl
 pf:=pf
 d_law_bag:=c.x.t.d.def_ 0 rfl
 d_law_pull:=c.x.t.d.def_ 1 rfl
 d_law_of:=c.x.t.d.def_ 2 rfl
 d_law_made_errors:=c.x.t.d.def_ 3 rfl
 d_law_same:=c.x.t.d.def_ 4 rfl
 d_law_kinds_of:=c.x.t.d.def_ 5 rfl
theorem facts{P:Program}{w:World}{K:PySem.W.Frag}{h:Heap}{mg:Str→Option Value}{f:Addr} (pf:FileOf P "/claim/cut.py") (X:K.In h) (G:h.Ns mainGlobals mg) (hfa:mg ("law" : Str)=some (.ref f)) (c:SaysE fa fn ts tf ex es w h K) :
  ∃fd:FuncData,(∀(s:Shared) (v:Value),BindsTo s fd ⟨[v],[]⟩ [("_law_script",v)])∧∀base:Heap,K.In base→base.Ns mainGlobals mg→FnOk P w K mg base CX0 13 f fd ["_law_script"] (spF K (cl K []) sm_law):=by
 obtain⟨fd,F⟩:=c.x.t.d.def_ 6 rfl;have e:=hfa.symm.trans (Jm X G (c.x.t.d.fact 6 rfl));cases e;have b:=FunD.bindsA (ps:=["_law_script"]) F fun _ _ _ _ _ _ us hl=>match us,hl with|[_],_=>rfl
 exact⟨fd,fun s v=>b s [v] rfl,fun base _ _=>ok_law (fx pf X G c) F⟩
theorem spF_law{K:PySem.W.Frag}{H:Hp}{Q:VK}{E:XK}{a:Addr}{ns:List Int} (hS:SqL K H a (ns.map V.int)) (hp:∃st,sm_law [.p (.scr ns)] []=.ok (.p (.bl true)) st) (hQ:∀H',Q (.bl true) H'):spF K (cl K []) sm_law [.ref a] H Q E:=by
 obtain⟨st,hp⟩:=hp;refine⟨[],strip H,[],[.p (.scr ns)],⟨rfl,.nil,fun i c a h=>by simp at h,fun i c a h=>by simp at h,fun a o e=>(zCA e).1,fun a u e _=>(zCA e).1,fun i a _ h=>by simp at h,Ju _,fun a o e=>.inl e,fun a u e=>(zCA e).2,fun a u e=>(zCA e).2,fun q hq=>absurd (show q∈([]:List (Addr×Str))from hq) (by simp)⟩,.cons (.scr (zGh hS)) .nil,?_⟩
 rw[hp];intro ρ' G' H' b p s R u;cases u;exact hQ H'
end
end K74
open PySem.W PySem.Calls
theorem PySem.Challenge.cw_sharesay_k74_error_classes_holds : PySem.Challenge.rw_sharesay_k74_error_classes.Holds := by
 refine K74.early ?hc
 case hc =>
  refine L2.walk_ofE (l:=PySem.Challenge.rw_sharesay_k74_error_classes) (n:=63) (k:=13) (x := "_law_script") (CX:=L2.CX0) rfl (!0) (by kernel_rfl) ⟨rfl,!0,!0⟩ ?F (fun _ _ _ _ z=>z)
  intro w mg fa h Y G hmg0;obtain⟨K,KX,c⟩:=Y
  have hmg:mg ("law" : PySem.Str)=some (.ref fa):=by
   have e:(HandSHeadRun.topDef (OpenLaw.row PySem.Challenge.rw_sharesay_k74_error_classes).prog 38).name=("law" : PySem.Str):=by kernel_rfl
   rw[←e];exact hmg0
  obtain⟨fd,hb,hF⟩:=K74.facts (P:=(PySem.Challenge.rw_sharesay_k74_error_classes).prog) (w:=w) K74.fileOf KX G hmg c;exact⟨K,fd,Y.spF K (K74.cl K []) K74.sm_law,KX,hb,fun H a ns hl _ hS=>K74.spF_law hS (K74.plain ns ∅) fun _=>rfl,hF⟩
