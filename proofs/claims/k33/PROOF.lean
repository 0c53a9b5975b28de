import PyProof.Rows.All
import Wide.All
import OpenK.AllK
import Wide.FinOn
import HandS.ForMost
import HandS.IsInst
import HandS.Property
import HandS.Wide
import HandS.Conv
import HandS.Style
import HandS.FStr
import HandS.Defaults
import HandS.Exc
import HandS.ExcOwn
import HandS.WordsExc
import HandS.TryMany
import HandS.Star
import HandS.ClsMeth
import HandS.Lambda
import KE.KeyNested
import KE.KDictKeyed
import HandS.TupAny
import HandS.Deep
import HandS.Rev
import HandS.Zip
import HandS.TupLe
import HandS.RaiseMore
import HandS.HeadHook4
import PyProof.RulesMatch
import KE.GoesMore
import HandS.MakeKwOnly
import HandS.HeadHook3
import HandS.ExcInit
import KE.KExcSuper
import HandS.ExcField
import HandS.HotCalls
import OpenK.KOps
import OpenK.KMeth
import KE.KCallOwn
import PyProof.InstEq
import KE.KSortTupG
import HandS.TupSets
import HandS.SortInts
import HandS.Text
import PyProof.ListRange
import HandS.Dict
import HandS.List
import HandS.Head2
import PyProof.StrOps2
import HandS.DictComp
import KE.GoesEnum
import HandS.HeadNt
import HandS.Replace
import KE.KDictPairs
import KE.KDictDisplayH
import HandS.GenCall
import HandS.GenList
import HandS.Strs
import HandS.OwnEq
import KE.SortData
import PyProof.TupleOfSeq
import HandS.GenOver
import PyProof.SetRoads
import PyProof.Rows.StrIntSpec
import PyProof.FString3
import HandS.SetFor
import HandS.SetBool
import HandS.TryOnly
import HandS.More
import HandS.Iter
import KE.KExcIs
import HandS.ExcValue
import HandS.ExcIs
import HandS.StrMore
import HandS.ReplaceDef
import HandS.ReplaceLit
import HandS.RaiseFrom
import HandS.ExcInitHot
import HandS.SuiteRaise
import KE.KExcInit
import HandS.Codes
import PyProof.StrLawsReplace
import PyProof.Rows.StrCountLaw
import HandS.Base
import HandS.Call
import HandS.Words
import HandS.Head0
import HandS.Head1
import HandS.HeadEnd
import HandS.HeadWalk
import Wide.Once
import PySem.Challenge.RW_sharesay_k33_texts_that_are_no_questions
set_option Elab.async false
set_option linter.all false
set_option maxRecDepth 100000
set_option maxHeartbeats 8000000
open PySem PySem.Spec PyProof.Rows L2
local macro_rules|`(!0)=>`(by decide)
local macro_rules|`(⋯)=>`(by decide +kernel)
local macro_rules|`(∅)=>`(by omega)
local macro_rules|`(%[$xs,*|0])=>do
 let mut r:Lean.Term:=Lean.mkIdent `mNil
 for x in xs.getElems.reverse do r←`($(Lean.mkIdent `zAB) $x $r)
 return r
def Ja:=@List.getElem?_eq_some_iff
def Jb:=@List.length_map
def Jc:=@List.mem_cons_self
def Jd:=@Option.some.inj
def Je:=@List.prefix_refl
def Jf:=@List.getElem?_eq_getElem
def Jg:=@List.mem_cons_of_mem
def Jh:=@List.getElem?_append_left
def Ji:=@List.getElem?_map
def Jj:=@Bool.and_eq_true
def Jk:=@List.map_cons
def Jl:=@List.length_append
def Jm:=@if_pos
def Jn:=@List.mem_of_getElem?
def Jo:=@PySem.Heap.get?_push_of_some
def Jp:=@List.all_eq_true
def Jq:=@Nat.le_refl
def Jr:=@List.mem_cons
def Js:=@if_neg
def Jt:=@Nat.le_trans
def Ju:=@L2.upd_same
def Jv:=@of_decide_eq_true
def Jw:=@List.getElem?_eq_none
def Jx:=@List.mem_map
def Jy:=@List.map_map
def Jz:=@He.glo_ok
def JA:=@List.getElem?_append_right
def JB:=@PySem.Heap.lt_size
def JC:=@List.mem_append
def JD:=@List.drop_of_length_le
def JE:=@List.lookup_cons
def JF:=@L2.upd_ne
def JG:=@PySem.wpAny_bind
def JH:=@PySem.Heap.get?_push_size
def JI:=@Nat.zero_le
def JJ:=@List.length_cons
def JK:=@List.append_nil
def JL:=@List.getElem?_set_self
def JM:=@List.sum_cons
def JN:=@List.getElem?_set_ne
def JO:=@decide_eq_true
def JP:=@PySem.PassesOwn.never
def JQ:=@List.length_set
def JR:=@decide_eq_true_eq
def JS:=@decide_eq_false
def JT:=@List.count_append
def JU:=@List.zip_cons_cons
def JV:=@List.map_append
def JW:=@PySem.mem_of_lookup
def JY:=@List.prefix_append
def JZ:=@Nat.lt_of_lt_of_le
def J0:=@List.take_of_length_le
def J5:=@List.getElem?_eq_none_iff
def J6:=@List.drop_eq_getElem_cons
def J8:=@beq_eq_false_iff_ne
def J9:=@List.size_toArray
def Va:=@List.length_filter_le
def Vb:=@List.nodup_cons
def Vc:=@List.mem_singleton
def Vd:=@PySem.wpAny_Call_Name_kw
def Ve:=@List.getElem?_of_mem
def Vf:=@Nat.lt_succ_self
def Vg:=@List.getElem_mem
def Vh:=@List.getD_eq_getElem?_getD
def Vi:=@List.append_assoc
def Vj:=@List.mem_range
def Vk:=@List.length_replicate
def Vl:=@Ne.symm
def Vm:=@PySem.sizeLine_eq
def Vn:=@PySem.F.plainAttrs_str
def Vo:=@List.getElem?_replicate
def Vp:=@List.any_cons
def Vq:=@Int.eq_ofNat_of_zero_le
def Vr:=@List.drop_zero
def Vs:=@List.map_nil
def Vt:=@PySem.wpAny_pure
def Vu:=@List.length_range
def Vv:=@PySem.F.plainAttrs_list
def Vw:=@He.free_ok
def Vx:=@List.getElem?_range
def Vy:=@Option.map_eq_some_iff
def Vz:=@List.length_drop
def VA:=@Nat.ne_of_lt
def VB:=@PySem.W.callWith_K
def VC:=@PySem.F.slot_list_append
def VD:=@PySem.F.type_list_append
def VE:=@List.mem_or_eq_of_mem_set
def VF:=@L2.ne_of_none
def VG:=@if_true
def VH:=@List.replicate_succ
def VI:=@List.getElem?_cons_zero
def VJ:=@List.map_congr_left
def VL:=@List.not_mem_nil
def VM:=@Nat.le_add_right
def VN:=@PySem.Str.ofString_eq_toList
def VO:=@Bool.false_ne_true
def VP:=@PySem.Calls.spliced_cons
def VQ:=@Nat.zero_add
def VR:=@List.find?_cons
def VS:=@Bool.or_eq_true
def VT:=@List.mem_append_right
def VU:=@List.count_cons
def VW:=@List.all_cons
def VX:=@List.flatMap_cons
def VY:=@L2.call_tuple_of
def VZ:=@PySem.F.excBase_ValueError
def V0:=@Nat.mul_le_mul_right
def V1:=@Nat.min_eq_right
def V2:=@Option.bind_some
def V3:=@List.countP_cons
def V4:=@List.mergeSort_perm
def V5:=@PySem.wpAny_mono
def V6:=@List.mem_filterMap
def V7:=@List.length_zip
def V8:=@Nat.lt_irrefl
def V9:=@Bool.false_eq_true
def Ya:=@Nat.not_lt_zero
def Yb:=@PySem.wpAny_passesOwn
def Yc:=@Int.natCast_nonneg
def Yd:=@List.count_eq_zero
def Ye:=@List.findIdx_lt_length_of_exists
def Yf:=@List.nodup_append
def Yg:=@L2.pa_cons
def Yh:=@PySem.Calls.spliced_nil
def Yi:=@List.flatten_cons
def Yj:=@Function.comp_def
def Yk:=@Int.toNat_natCast
def Yl:=@List.singleton_append
def Ym:=@List.contains_iff_mem
def Yn:=@He.eqO_ok
def Yo:=@Nat.succ_mul
def Yp:=@List.isEmpty_nil
def Yq:=@List.filter_cons
def Yr:=@List.mem_append_left
def Ys:=@Bool.and_eq_true_iff
def Yt:=@List.mem_of_mem_take
def Yu:=@List.mem_of_mem_drop
def Yv:=@PySem.wpAny_holding
def Yw:=@He.meth_ok
def Yx:=@List.nil_append
def Yy:=@Nat.min_eq_left
def Yz:=@TL.spl_miss
def YA:=@List.range_succ
def YB:=@PySem.wpAny_newFunctionEnv_cells
def YC:=@List.getElem?_drop
def YD:=@PySem.W.codeRec_of
def YE:=@PySem.wpAny_pyIter_tuple
def YF:=@PySem.codeAny_mono
def YG:=@PySem.wpAny_newTextTuple
def YH:=@L2.pss_one
def YI:=@List.nodup_nil
def YJ:=@List.pairwise_map
def YK:=@PySem.wpAny_call
def YL:=@List.isEmpty_cons
def YM:=@Bool.not_eq_true'
def YN:=@TL.spl_nil
def YO:=@TL.spl_hit
def YQ:=@List.Pairwise.imp_of_mem
def YR:=@He.int_ok
def YT:=@He.cls_ok
def YU:=@Prod.mk.injEq
def YV:=@List.map_take
def YW:=@List.map_drop
def YX:=@if_false
def Y0:=@PySem.Paired.length
def Y2:=@List.cons.inj
def Y3:=@HT.sIx_none
def Y4:=@L2.pe_var
def Y5:=@List.getElem_inj
def Y6:=@List.take_length
def Y7:=@List.any_eq_true
def Y8:=@beq_self_eq_true
def Y9:=@Option.getD_some
def bc:=@Option.map_some
def be:=@List.of_mem_zip
def bh:=@Nat.le_total
def bj:=@Bool.eq_iff_iff
def bo:=@L2.mt_append
def bp:=@He.noat_ok
def bq:=@Nat.mul_le_mul
def br:=@List.drop_drop
def bt:=@PySem.Walks.tuple
def bu:=@Prod.mk.inj
def bv:=@or_false
def bA:=@L2.ld_glob
def bB:=@HT.sIx_nat
def bC:=@L2.pa_nil
def bD:=@L2.pe_str
def bF:=@L2.ps_ret
namespace Y
inductive P where
 |non|bl (b:Bool)|int (i:Int)|str (s:Str)
 |tup (l:List P)|lst (l:List P)|scr (l:List Int)
 |dk (ks:List Key) (l:List P)
 |obj (c:Nat) (l:List P)
 /-- an exception of the class number c,its fields by place -/
 |exn (c:Nat) (l:List P)
 /-- the lambda number i of the frame number j -/
 |lam (j i:Nat)
 /-- a class by number -/
 |cls (c:Nat)
 /-- a dict that is never written again;keys ints and texts -/
 |fd (ks:List Key) (l:List P)
 /-- .. keys tuples of ints,texts,tuples -/
 |fn (ks:List P) (l:List P)
inductive W where
 |p (x:P)|r (i:Nat)
inductive Cell where
 |lst (l:List W)|dk (ks:List Key) (l:List W)|ins (c:Nat) (l:List W)|dead|dn (ks:List P) (l:List W)
 /-- a tuple of ints that is known to have no dict -/
 |tp (l:List Int)
structure Exn where
 c:Nat
 l:List P
inductive Res (α:Type) where
 |ok (a:α) (st:List Cell)|exc (x:Exn) (st:List Cell)|no
def Res.bind{α β:Type} (r:Res α) (k:α→List Cell→Res β):Res β:=match r with
 | .ok a st=>k a st
 | .exc x st=>.exc x st
 | .no=>.no
abbrev Sg:=List (Option W)
abbrev EM:=Sg→List Cell→Res W
inductive Fl where
 |nx|rt (w:W)|bk|ct
abbrev FM:=List W→List Cell→Res W
structure LamR where
 params:Arguments
 body:Expr
 scope:Scope
 dfl:Bool
def lamO(r:LamR) (q:Str) (clos:List (Str×Addr)) (pm cv ct dV:Value):Obj :=
 { cls:=.type "function",data:=.func { PySem.W.kla_fn "<lambda>" q r.params r.body r.scope clos pm cv ct with defaults:=dV } }
structure Cls where
 l:List (Addr×List Str)
 /-- the tables of code objects,each with the name that its code objects bear -/
 tb:List (Addr×Str):=[]
 /-- the lambdas by number -/
 lm:List LamR:=[]
 /-- the cells of the frames whose lambdas are told,each with the name that its lambdas bear -/
 fr:List (Str×List (Str×Addr)):=[]
 /-- the World,where hashes of texts are asked for -/
 wd:Option World:=none
instance:GetElem? Cls Nat (Addr×List Str) fun c i=>i<c.l.length where
 getElem c i h:=c.l[i]
 getElem? c i:=c.l[i]?
mutual
def nkP:P→Option NestedKey
 | .non=>some .none
 | .int i=>some (.num i)
 | .str z=>some (.text z)
 | .tup l=>(nkPs l).map .tup
 |_=>none
def nkPs:List P→Option (List NestedKey)
 |[]=>some []
 |x::l=>match nkP x,nkPs l with
  |some k,some ks=>some (k::ks)
  |_,_=>none
end
def nkT:P→Option NestedKey
 | .tup l=>match nkP (.tup l)with
  |some k=>if k.depth≤8 then some k else none
  |none=>none
 |_=>none
def nEnts(w:World):List NestedKey→List Addr→List Value→List DictEntry
 |k::ks,a::as,v::vs=>⟨k.hash w,.ref a,v⟩::nEnts w ks as vs
 |_,_,_=>[]
def NDat(wd:Option World) (od:Obj) (nks:List NestedKey) (as:List Addr) (vs:List V):Prop :=
 ∃w0 vals es ep,wd=some w0∧od.ExactDict∧od.data=.dict es ep∧Vals vs vals∧es.toList=nEnts w0 nks as vals∧nks.length=as.length∧nks.length=vs.length∧nks.Nodup
def NDict(wd:Option World) (a:Addr) (nks:List NestedKey) (as:List Addr) (vs:List V):HO:=.ext fun h=>∃od,h.get? a=some od∧NDat wd od nks as vs
def exq(a:Addr) (oe:Obj):HO:=.ext fun h=>h.get? a=some oe
section
variable (K:PySem.W.Frag) (cl:Cls) (G:Hp)
mutual
inductive RP:P→V→Prop
 |non:RP .non .non
 |bl (b:Bool):RP (.bl b) (.bl b)
 |int (i:Int):RP (.int i) (.int i)
 |str (s:Str):RP (.str s) (.str s)
 |tup {a:Addr}{vs:List V}{l:List P}:SqT K G a vs→RPs l vs→RP (.tup l) (.ref a)
 |lst {a:Addr}{vs:List V}{l:List P}:G a=some (.lst vs)→RPs l vs→RP (.lst l) (.ref a)
 |scr {a:Addr}{l:List Int}:SqL K G a (l.map V.int)→RP (.scr l) (.ref a)
 |dk {a:Addr}{ks:List Key}{vs:List V}{l:List P}:G a=some (.dK (ks.zip vs))→ks.length=vs.length→RPs l vs→RP (.dk ks l) (.ref a)
 |obj {a C dx:Addr}{c:Nat}{ns:List Str}{vs:List V}{l:List P}:cl[c]?=some (C,ns)→G a=some (.ins C dx (ns.zip vs))→ns.length=vs.length→RPs l vs→RP (.obj c l) (.ref a)
 |exn {a C dd:Addr}{oe:Obj}{c:Nat}{ns:List Str}{vs:List V}{l:List P}:cl[c]?=some (C,ns)→(oe.cls=.ref C∧oe.dict=some dd∧∃fs,oe.data=.fields fs)→G a=some (exq a oe)→G dd=some (.xd (ns.zip vs))→ns.length=vs.length→RPs l vs→RP (.exn c l) (.ref a)
 |lam {f c':Addr}{j i:Nat}{r:LamR}{q:Str}{cs:List (Str×Addr)}{pm ct dV:Value}:cl.lm[i]?=some r→cl.fr[j]?=some (q,cs)→G f=some (exq f (lamO r q (cloFrom cs r.scope.names []) pm (.ref c') ct dV))→G c'=some (LamX.CodeO c' q)→(r.dfl=false∧dV=.none∨r.dfl=true∧∃T,dV=.ref T∧G T=some (.tup [.int 0]))→RP (.lam j i) (.ref f)
 |cls {C:Addr}{c:Nat}{ns:List Str}:cl[c]?=some (C,ns)→RP (.cls c) (.ref C)
 |fd {a:Addr}{od:Obj}{ks:List Key}{vs:List V}{l:List P}:G a=some (.frz od (.dK (ks.zip vs)))→ks.length=vs.length→RPs l vs→RP (.fd ks l) (.ref a)
 |fn {a:Addr}{od:Obj}{nks:List NestedKey}{as:List Addr}{vs us:List V}{ks l:List P}:(a==sysModules)=false→G a=some (exq a od)→NDat cl.wd od nks as vs→ks.map nkT=nks.map some→us=as.map V.ref→RPs ks us→RPs l vs→RP (.fn ks l) (.ref a)
inductive RPs:List P→List V→Prop
 |nil:RPs [] []
 |cons {x:P}{v:V}{l:List P}{vs:List V}:RP x v→RPs l vs→RPs (x::l) (v::vs)
end
end
def Sub(G G':Hp):Prop:=∀a o,G a=some o→G' a=some o
theorem Sub.refl(G:Hp):Sub G G:=fun _ _ h=>h
theorem Sub.trans{G G' G'':Hp} (a:Sub G G') (b:Sub G' G''):Sub G G'':=fun x o h=>b x o (a x o h)
theorem Sub.new{G:Hp}{p:Addr}{o:HO} (h:G p=none):Sub G (upd G p o):=fun a u e=>by
 rw[JF (VF e h)];exact e
theorem Sub.rd{G G':Hp} (s:Sub G G'){a:Addr}{u:HO} (h:Rd G a u):Rd G' a u:=by
 rcases h with h|⟨o,h⟩
 ·exact .inl (s _ _ h)
 ·exact .inr ⟨o,s _ _ h⟩
theorem Sub.sqL{K:PySem.W.Frag}{G G':Hp} (s:Sub G G'){a:Addr}{xs:List V} (h:SqL K G a xs):SqL K G' a xs:=by
 rcases h with h|h
 ·exact .inl (s.rd h)
 ·exact .inr h
theorem Sub.sqT{K:PySem.W.Frag}{G G':Hp} (s:Sub G G'){a:Addr}{xs:List V} (h:SqT K G a xs):SqT K G' a xs:=by
 rcases h with h|h
 ·exact .inl (s.rd h)
 ·exact .inr h
section
variable {K:PySem.W.Frag}{cl:Cls}{G G':Hp}
mutual
theorem RP.mono(s:Sub G G'):∀ {x:P}{v:V},RP K cl G x v→RP K cl G' x v
 |_,_,.non=>.non
 |_,_,.bl b=>.bl b
 |_,_,.int i=>.int i
 |_,_,.str z=>.str z
 |_,_,.tup h r=>.tup (s.sqT h) (RPs.mono s r)
 |_,_,.lst h r=>.lst (s _ _ h) (RPs.mono s r)
 |_,_,.scr h=>.scr (s.sqL h)
 |_,_,.dk h e r=>.dk (s _ _ h) e (RPs.mono s r)
 |_,_,.obj c h e r=>.obj c (s _ _ h) e (RPs.mono s r)
 |_,_,.exn c x h d e r=>.exn c x (s _ _ h) (s _ _ d) e (RPs.mono s r)
 |_,_,.lam a b c d e=>.lam a b (s _ _ c) (s _ _ d) (e.elim .inl fun⟨h,T,h1,h2⟩=>.inr ⟨h,T,h1,s _ _ h2⟩)
 |_,_,.cls h=>.cls h
 |_,_,.fd h e r=>.fd (s _ _ h) e (RPs.mono s r)
 |_,_,.fn n h d e u r q=>.fn n (s _ _ h) d e u (RPs.mono s r) (RPs.mono s q)
theorem RPs.mono(s:Sub G G'):∀ {l:List P}{vs:List V},RPs K cl G l vs→RPs K cl G' l vs
 |_,_,.nil=>.nil
 |_,_,.cons h r=>.cons (RP.mono s h) (RPs.mono s r)
end
theorem RPs.length:∀ {l:List P}{vs:List V},RPs K cl G l vs→l.length=vs.length
 |_,_,.nil=>rfl
 |_,_,.cons _ r=>congrArg Nat.succ (RPs.length r)
theorem RPs.get:∀ {l:List P}{vs:List V}{i:Nat}{x:P},RPs K cl G l vs→l[i]?=some x→∃v,vs[i]?=some v∧RP K cl G x v
 |_,_,_,_,.nil,e=>by simp at e
 |_,_,0,_,.cons h _,e=>by simp at e;subst e;exact⟨_,rfl,h⟩
 |_,_,i+1,x,.cons _ r,e=>by
  obtain⟨u,h1,h2⟩:=RPs.get (i:=i) (x:=x) r (by simpa using e)
  exact⟨u,by simpa using h1,h2⟩
theorem RPs.take:∀ {l:List P}{vs:List V} (n:Nat),RPs K cl G l vs→RPs K cl G (l.take n) (vs.take n)
 |_,_,0,_=>.nil
 |_,_,_+1,.nil=>.nil
 |_,_,n+1,.cons h r=>.cons h (RPs.take n r)
theorem RPs.drop:∀ {l:List P}{vs:List V} (n:Nat),RPs K cl G l vs→RPs K cl G (l.drop n) (vs.drop n)
 |_,_,0,r=>r
 |_,_,_+1,.nil=>.nil
 |_,_,n+1,.cons _ r=>RPs.drop n r
end
def RW(K:PySem.W.Frag) (cl:Cls) (ρ:List Addr) (G:Hp):W→V→Prop
 | .p x,v=>RP K cl G x v
 | .r i,v=>∃a,ρ[i]?=some a∧v=.ref a
inductive RWs (K:PySem.W.Frag) (cl:Cls) (ρ:List Addr) (G:Hp):List W→List V→Prop
 |nil:RWs K cl ρ G [] []
 |cons {w:W}{v:V}{l:List W}{vs:List V}:RW K cl ρ G w v→RWs K cl ρ G l vs→RWs K cl ρ G (w::l) (v::vs)
section
variable {K:PySem.W.Frag}{cl:Cls}{ρ ρ':List Addr}{G G':Hp}
theorem RW.mono(p:ρ <+: ρ') (s:Sub G G'){w:W}{v:V} (h:RW K cl ρ G w v):RW K cl ρ' G' w v:=by
 cases w with
 |p x=>exact RP.mono s h
 |r i =>
  obtain⟨a,e,q⟩:=h;obtain⟨t,rfl⟩:=p;refine⟨a,?_,q⟩;have hi:i<ρ.length:=(Ja.mp e).1;rw[Jh hi];exact e
theorem RWs.mono(p:ρ <+: ρ') (s:Sub G G'):∀ {l:List W}{vs:List V},RWs K cl ρ G l vs→RWs K cl ρ' G' l vs
 |_,_,.nil=>.nil
 |_,_,.cons h r=>.cons (h.mono p s) (RWs.mono p s r)
theorem RWs.length:∀ {l:List W}{vs:List V},RWs K cl ρ G l vs→l.length=vs.length
 |_,_,.nil=>rfl
 |_,_,.cons _ r=>congrArg Nat.succ (RWs.length r)
theorem RWs.get:∀ {l:List W}{vs:List V}{i:Nat}{x:W},RWs K cl ρ G l vs→l[i]?=some x→∃v,vs[i]?=some v∧RW K cl ρ G x v
 |_,_,_,_,.nil,e=>by simp at e
 |_,_,0,_,.cons h _,e=>by simp at e;subst e;exact⟨_,rfl,h⟩
 |_,_,i+1,x,.cons _ r,e=>by
  obtain⟨u,h1,h2⟩:=RWs.get (i:=i) (x:=x) r (by simpa using e)
  exact⟨u,by simpa using h1,h2⟩
theorem RWs.set{w:W}{v:V} (h:RW K cl ρ G w v):∀ {l:List W}{vs:List V} (i:Nat),RWs K cl ρ G l vs→RWs K cl ρ G (l.set i w) (vs.set i v)
 |_,_,_,.nil=>.nil
 |_,_,0,.cons _ r=>.cons h r
 |_,_,i+1,.cons q r=>.cons q (RWs.set h i r)
theorem RWs.take:∀ {l:List W}{vs:List V} (n:Nat),RWs K cl ρ G l vs→RWs K cl ρ G (l.take n) (vs.take n)
 |_,_,0,_=>.nil
 |_,_,_+1,.nil=>.nil
 |_,_,n+1,.cons h r=>.cons h (RWs.take n r)
theorem RWs.drop:∀ {l:List W}{vs:List V} (n:Nat),RWs K cl ρ G l vs→RWs K cl ρ G (l.drop n) (vs.drop n)
 |_,_,0,r=>r
 |_,_,_+1,.nil=>.nil
 |_,_,n+1,.cons _ r=>RWs.drop n r
theorem RWs.of_pures:∀ {l:List P}{vs:List V},RPs K cl G l vs→RWs K cl ρ G (l.map W.p) vs
 |_,_,.nil=>.nil
 |_,_,.cons h r=>.cons h (RWs.of_pures r)
def pures:List W→Option (List P)
 |[]=>some []
 | .p x::l=>(pures l).map (x :: ·)
 | .r _::_=>none
theorem zHr:∀ {l:List W}{m:List P},pures l=some m→l=m.map W.p
 |[],m,h=>by
  obtain rfl:[]=m:=Jd h;rfl
 | .p x::l,m,h=>by
  have h:(pures l).map (x :: ·)=some m:=h
  cases e:pures l with
  |none=>rw[e]at h;cases h
  |some k =>
   rw[e]at h;obtain rfl:x::k=m:=Jd h;rw[zHr e];rfl
 | .r i::l,m,h=>by cases h
theorem RWs.pure':∀ {l:List P}{vs:List V},RWs K cl ρ G (l.map W.p) vs→RPs K cl G l vs
 |[],_,.nil=>.nil
 |_::_,_,.cons h r=>.cons h (RWs.pure' r)
theorem RWs.pures{l:List W}{m:List P}{vs:List V} (h:RWs K cl ρ G l vs) (e:Y.pures l=some m):RPs K cl G m vs:=by
 rw[zHr e]at h;exact h.pure'
end
def RS(K:PySem.W.Frag) (cl:Cls) (ρ:List Addr) (G:Hp) (σ:Sg) (τ:L2.St):Prop :=
 σ.length=τ.length∧∀(i:Nat) (w:W),σ[i]?=some (some w)→∃v,τ[i]?=some (some v)∧RW K cl ρ G w v
def CA(K:PySem.W.Frag) (cl:Cls) (ρ:List Addr) (G:Hp) (H:Hp) (a:Addr):Cell→Prop
 | .lst l=>∃vs,H a=some (.lst vs)∧RWs K cl ρ G l vs
 | .dk ks l=>∃vs,H a=some (.dK (ks.zip vs))∧ks.length=vs.length∧RWs K cl ρ G l vs
 | .ins c l=>∃C dx ns vs,cl[c]?=some (C,ns)∧H a=some (.ins C dx (ns.zip vs))∧vs.length≤ns.length∧RWs K cl ρ G l vs
 | .dead=>∃o,G a=some o
 | .dn ks l=>∃nks as vs,(a==sysModules)=false∧H a=some (NDict cl.wd a nks as vs)∧ks.map nkT=nks.map some∧RPs K cl G ks (as.map V.ref)∧RWs K cl ρ G l vs
 | .tp l=>∃(oe:Obj) (its:List Value) (n:Nat),H a=some (exq a oe)∧oe.cls=.type "tuple" ∧ oe.dict=none∧oe.data=.seq its.toArray n∧Vals (l.map V.int) its
def strip(H:Hp):Hp:=fun a=>match H a with
 |some (.tbl _)=>none
 |o=>o
def NT(u:HO):Prop:=∀ps,u≠.tbl ps
theorem strip_of{H:Hp}{a:Addr}{u:HO} (h:H a=some u) (nt:NT u):strip H a=some u:=by
 unfold strip;rw[h];split
 ·rename_i ps e
  exact absurd (Jd e) (nt ps)
 ·rfl
theorem zFU{H:Hp}{a:Addr} (h:strip H a=none):H a=none∨∃ps,H a=some (.tbl ps):=by
 cases e:H a with
 |none=>exact .inl rfl
 |some u =>
  by_cases nt:NT u
  ·rw[strip_of e nt]at h;cases h
  ·exact .inr (Classical.byContradiction fun z=>nt fun ps q=>z ⟨ps,by rw[q]⟩)
def TabG(G H:Hp) (P:Addr) (q:Str):Prop:=∃ps:Array Value,H P=some (.tbl ps)∧TriplesOk ps.toList∧∀(pos:Pos) (cv:Value),codeAmong pos ps.toList=some cv→∃c,cv=.ref c∧G c=some (LamX.CodeO c q)
theorem TabG.nil{G H:Hp}{P:Addr}{q:Str} (h:H P=some (.tbl #[])):TabG G H P q:=⟨#[],h,True.intro,fun pos cv hc=>by
 have z:codeAmong pos []=some cv:=hc
 simp[codeAmong]at z⟩
theorem TabG.ext{G H H':Hp}{P:Addr}{q:Str} (t:TabG G H P q) (e:∀b o,H b=some o→H' b=some o):TabG G H' P q:=by
 obtain⟨ps,h1,h2,h3⟩:=t;exact⟨ps,e _ _ h1,h2,h3⟩
theorem TabG.sub{G G' H:Hp}{P:Addr}{q:Str} (t:TabG G H P q) (s:Sub G G'):TabG G' H P q:=by
 obtain⟨ps,h1,h2,h3⟩:=t
 exact⟨ps,h1,h2,fun pos cv hc=>by
  obtain⟨c,e1,e2⟩:=h3 pos cv hc
  exact⟨c,e1,s _ _ e2⟩⟩
theorem zHm{G H:Hp}{P p:Addr}{q:Str}{o:HO} (t:TabG G H P q) (h:H p=none):TabG G (upd H p o) P q:=t.ext fun b u e=>by
 rw[JF (VF e h)];exact e
def PlO(u:HO):Prop:=NT u∧True
theorem zNT{u:HO} (h:match u with | .tbl _=>False | .ext _=>False|_=>True):PlO u:=by
 refine⟨fun ps z=>?_,trivial⟩
 subst z;exact h
structure En where
 H0:Hp
 n0:Nat
 G0:Hp
structure Rel (K:PySem.W.Frag) (cl:Cls) (E0:En) (ρ:List Addr) (G:Hp) (st:List Cell) (H:Hp):Prop where
 len:ρ.length=st.length
 nd:ρ.Nodup
 cell:∀(i:Nat) c a,st[i]?=some c→ρ[i]?=some a→CA K cl ρ G H a c
 sep:∀(i:Nat) c a,st[i]?=some c→ρ[i]?=some a→c=.dead∨G a=none
 sub:Sub G H
 old:∀a u,E0.H0 a=some u→(∀i:Nat,i<E0.n0→ρ[i]?≠some a)→H a=some u
 new:∀(i:Nat) a,E0.n0≤i→ρ[i]?=some a→E0.H0 a=none
 n0:E0.n0≤ρ.length
 grow:∀a o,G a=some o→E0.G0 a=some o∨E0.H0 a=none∨∃i:Nat,i<E0.n0∧ρ[i]?=some a
 ent:∀a u,E0.H0 a=some u→NT u
 gnt:∀a u,G a=some u→NT u
 tabs:∀p∈cl.tb,TabG G H p.1 p.2
section
variable {K:PySem.W.Frag}{cl:Cls}{E0:En}{ρ ρ':List Addr}{G G':Hp}{st:List Cell}{H H':Hp}
theorem CA.mono(p:ρ <+: ρ') (s:Sub G G'){a:Addr} (e:H' a=H a):∀ {c:Cell},CA K cl ρ G H a c→CA K cl ρ' G' H' a c
 | .lst l,⟨vs,h,r⟩=>⟨vs,e.trans h,r.mono p s⟩
 | .dk ks l,⟨vs,h,z,r⟩=>⟨vs,e.trans h,z,r.mono p s⟩
 | .ins c l,⟨C,dx,ns,vs,k,h,z,r⟩=>⟨C,dx,ns,vs,k,e.trans h,z,r.mono p s⟩
 | .dead,⟨o,h⟩=>⟨o,s _ _ h⟩
 | .dn ks l,⟨nks,as,vs,n,h,z,q,r⟩=>⟨nks,as,vs,n,e.trans h,z,RPs.mono s q,r.mono p s⟩
 | .tp _,⟨oe,its,n,h,r⟩=>⟨oe,its,n,e.trans h,r⟩
theorem Rel.at(R:Rel K cl E0 ρ G st H){i:Nat}{c:Cell} (h:st[i]?=some c):∃a,ρ[i]?=some a∧CA K cl ρ G H a c∧(c=.dead∨G a=none):=by
 have hi:i<st.length:=(Ja.mp h).1;have hj:i<ρ.length:=by rw[R.len];exact hi
 exact⟨ρ[i],by simp[hj],R.cell i c _ h (by simp[hj]),R.sep i c _ h (by simp[hj])⟩
theorem Rel.there(R:Rel K cl E0 ρ G st H){i:Nat}{a:Addr} (h:ρ[i]?=some a):∃o,H a=some o:=by
 have hi:i<ρ.length:=(Ja.mp h).1;have hj:i<st.length:=by rw[←R.len];exact hi
 have x:=R.cell i _ a (Jf hj) h;cases e:st[i]with
 |lst l=>rw[e]at x;obtain⟨vs,z,_⟩:=x;exact⟨_,z⟩
 |dk ks l=>rw[e]at x;obtain⟨vs,z,_⟩:=x;exact⟨_,z⟩
 |ins c l=>rw[e]at x;obtain⟨C,dx,ns,vs,_,z,_⟩:=x;exact⟨_,z⟩
 |dead=>rw[e]at x;obtain⟨o,z⟩:=x;exact⟨o,R.sub _ _ z⟩
 |dn ks l=>rw[e]at x;obtain⟨_,_,_,_,z,_⟩:=x;exact⟨_,z⟩
 |tp l=>rw[e]at x;obtain⟨_,_,_,z,_⟩:=x;exact⟨_,z⟩
theorem Rel.gnone(R:Rel K cl E0 ρ G st H){p:Addr} (h:H p=none):G p=none:=by
 cases e:G p with
 |none=>rfl
 |some o=>rw[R.sub _ _ e]at h;cases h
theorem Rel.fresh0(R:Rel K cl E0 ρ G st H){p:Addr} (h:H p=none):E0.H0 p=none:=by
 cases e:E0.H0 p with
 |none=>rfl
 |some u =>
  by_cases q:∀i:Nat,i<E0.n0→ρ[i]?≠some p
  ·rw[R.old p u e q]at h;cases h
  ·exfalso;apply q;intro i _ z;obtain⟨o,y⟩:=R.there z;rw[h]at y;cases y
theorem Rel.froze(R:Rel K cl E0 ρ G st H){p:Addr}{o:HO} (h:H p=none) (nt:NT o:=by intro _ z;cases z):Rel K cl E0 ρ (upd G p o) st (upd H p o):=by
 have gp:=R.gnone h
 have ne:∀(i:Nat) a,ρ[i]?=some a→a≠p:=fun i a e z=>by
  obtain⟨u,q⟩:=R.there e;rw[z,h]at q;cases q
 refine⟨R.len,R.nd,fun i c a e1 e2=>?_,fun i c a e1 e2=>?_,fun a u e=>?_,fun a u e q=>?_,R.new,R.n0,fun a u e=>?_,R.ent,fun a u e=>?_,fun q hq=>(zHm (R.tabs q hq) h).sub (Sub.new gp)⟩
 ·exact(R.cell i c a e1 e2).mono (Je _) (Sub.new gp) (JF (ne i a e2))
 ·rw[JF (ne i a e2)];exact R.sep i c a e1 e2
 ·by_cases z:a=p
  ·subst z;rw[Ju]at e ⊢;exact e
  ·rw[JF z]at e ⊢;exact R.sub a u e
 ·have q2:=R.old a u e q;rw[JF (VF q2 h)];exact q2
 ·by_cases z:a=p
  ·subst z;exact .inr (.inl (R.fresh0 h))
  ·rw[JF z]at e;exact R.grow a u e
 ·by_cases z:a=p
  ·subst z;rw[Ju]at e;cases e;exact nt
  ·rw[JF z]at e;exact R.gnt a u e
theorem CA.po{K:PySem.W.Frag}{cl:Cls}{ρ:List Addr}{G H:Hp}{a:Addr}:∀ {c:Cell},CA K cl ρ G H a c→c≠.dead→∃u,H a=some u∧PlO u
 | .lst l,⟨vs,h,_⟩,_=>⟨_,h,zNT trivial⟩
 | .dk ks l,⟨vs,h,_⟩,_=>⟨_,h,zNT trivial⟩
 | .ins c l,⟨C,dx,ns,vs,_,h,_⟩,_=>⟨_,h,zNT trivial⟩
 | .dead,_,n=>absurd rfl n
 | .dn ks l,⟨nks,as,vs,_,h,_⟩,_=>⟨_,h,⟨fun _ z=>(nomatch z),trivial⟩⟩
 | .tp _,⟨_,_,_,h,_⟩,_=>⟨_,h,⟨fun _ z=>(nomatch z),trivial⟩⟩
theorem Rel.tblF(R:Rel K cl E0 ρ G st H){a:Addr}{ps:Array Value} (h:H a=some (.tbl ps)):(∀i:Nat,ρ[i]?≠some a)∧E0.H0 a=none:=by
 have h1:∀i:Nat,ρ[i]?≠some a:=fun i z=>by
  have hi:i<st.length:=by rw[←R.len];exact(Ja.mp z).1
  by_cases hcd:st[i]=.dead
  ·obtain⟨o2,z2⟩:=R.cell i _ a (by rw[Jf hi,hcd]) z
   have z3:=R.sub _ _ z2;rw[h]at z3;exact R.gnt a o2 z2 ps (Jd z3).symm
  ·obtain⟨u2,z2,po⟩:=(R.cell i _ a (Jf hi) z).po hcd;rw[h]at z2;exact po.1 ps (Jd z2).symm
 refine⟨h1,?_⟩;cases e:E0.H0 a with
 |none=>rfl
 |some u =>
  have z1:=R.old a u e fun i _=>h1 i
  rw[h]at z1;exact absurd (Jd z1).symm (R.ent a u e ps)
end
def RX(K:PySem.W.Frag) (cl:Cls) (G:Hp) (H:Hp) (x:Exn) (cls:Value) (d:Option Addr):Prop :=
 ∃C ns dd vs,cl[x.c]?=some (C,ns)∧cls=.ref C∧d=some dd∧H dd=some (.xd (ns.zip vs))∧ns.length=vs.length∧RPs K cl G x.l vs
structure Bs where
 K:PySem.W.Frag
 cl:Cls
 E0:En
abbrev Bs.Rel(B:Bs) (ρ:List Addr) (G:Hp) (st:List Cell) (H:Hp):Prop:=Y.Rel B.K B.cl B.E0 ρ G st H
abbrev Bs.RW(B:Bs) (ρ:List Addr) (G:Hp):W→V→Prop:=Y.RW B.K B.cl ρ G
abbrev ZX:=Value→Option Addr→Hp→Prop
def Aft(B:Bs){α β:Type} (V:List Addr→Hp→α→β→Prop) (ρ:List Addr) (G:Hp) (R:Res α) (Q:β→Hp→Prop) (Z:ZX):Prop:=match R with
 | .ok a st=>∀ρ' G' H' b,ρ <+: ρ'→Sub G G'→B.Rel ρ' G' st H'→V ρ' G' a b→Q b H'
 | .exc x st=>∀ρ' G' H' cls d,ρ <+: ρ'→Sub G G'→B.Rel ρ' G' st H'→RX B.K B.cl G' H' x cls d→Z cls d H'
 | .no=>False
section
variable {B:Bs}{α β γ δ:Type}{U:List Addr→Hp→α→β→Prop}{U2:List Addr→Hp→γ→δ→Prop}{ρ ρ':List Addr}{G G':Hp}{Z:ZX}
theorem Aft.mono{R:Res α}{Q:β→Hp→Prop} (p:ρ <+: ρ') (s:Sub G G') (h:Aft B U ρ G R Q Z):Aft B U ρ' G' R Q Z:=by
 cases R with
 |ok a st=>exact fun ρ2 G2 H2 b p2 s2 r u=>h ρ2 G2 H2 b (p.trans p2) (s.trans s2) r u
 |exc x st=>exact fun ρ2 G2 H2 c d p2 s2 r u=>h ρ2 G2 H2 c d (p.trans p2) (s.trans s2) r u
 |no=>exact h
theorem Aft.seq{R:Res α}{k:α→List Cell→Res γ}{Q:δ→Hp→Prop}{Q':β→Hp→Prop} (h:Aft B U2 ρ G (R.bind k) Q Z)
  (g:∀a st ρ' G' H' b,R=.ok a st→ρ <+: ρ'→Sub G G'→B.Rel ρ' G' st H'→U ρ' G' a b→Aft B U2 ρ' G' (k a st) Q Z→Q' b H'):Aft B U ρ G R Q' Z:=by
 cases R with
 |ok a st=>exact fun ρ2 G2 H2 b p s r u=>g a st ρ2 G2 H2 b rfl p s r u (Aft.mono p s h)
 |exc x st=>exact h
 |no=>exact h
end
section
variable {X:Cx}
def T(X:Cx) (e:Expr):TE:=fun σ H Q=>∀(pins:List (Addr×Obj)) (s:Shared),Inv X pins σ H s→wpAny (model X.prog X.w) X.A (eval e X.env) (EP X pins σ Q) X.xe s
theorem T.of{e:Expr}{t:TE}{σ:L2.St}{H:Hp}{Q:VK} (h:PE X e t) (q:t σ H Q):T X e σ H Q:=fun pins s I=>h.run pins s σ H Q I q
end
abbrev TM:=Sg→List Cell→Res Bool
abbrev AM:=Sg→List Cell→Res (List W)
abbrev bs(K:PySem.W.Frag) (cl:Cls) (E0:En):Bs:=⟨K,cl,E0⟩
structure SE (K:PySem.W.Frag) (cl:Cls) (X:Cx) (Wx:WX) (m:EM) (e:Expr):Prop where
 run:∀E0 ρ G σ st τ H Q,(bs K cl E0).Rel ρ G st H→RS K cl ρ G σ τ→Aft (bs K cl E0) (bs K cl E0).RW ρ G (m σ st) Q (fun c d H'=>Wx c d τ H')→T X e τ H Q
structure GX (K:PySem.W.Frag) (X:Cx):Prop where
 hK:X.K=K
 hc:X.calm=true
 hN:X.N.Nodup
 hu:X.A.units+65<cLine
 hh:X.A.handled=none
section
variable {K:PySem.W.Frag}{cl:Cls}{X:Cx}{Wx:WX}{E0:En}{ρ ρ':List Addr}{G G':Hp}{σ:Sg}{τ:L2.St}{st:List Cell}{H:Hp}
theorem RS.mono(p:ρ <+: ρ') (s:Sub G G') (h:RS K cl ρ G σ τ):RS K cl ρ' G' σ τ:=⟨h.1,fun i w e=>by
 obtain⟨v,e1,r⟩:=h.2 i w e
 exact⟨v,e1,r.mono p s⟩⟩
theorem Aft.here{B:Bs}{α β:Type}{U:List Addr→Hp→α→β→Prop}{a:α}{b:β}{Q:β→Hp→Prop}{Z:ZX} (h:Aft B U ρ G (.ok a st) Q Z) (R:B.Rel ρ G st H) (u:U ρ G a b):Q b H :=
 h ρ G H b (Je _) (Sub.refl _) R u
def mVar(i:Nat):EM:=fun σ st=>match σ[i]? with
 |some (some w)=>.ok w st
 |_=>.no
theorem se_var{i:Nat}{x:Str}{pos:Pos} (hN:X.N[i]?=some x) (hv:Vis X.env.scope x) (hd:(x==("__debug__" : Str))=false:=by decide +kernel) (hcd:(x==("__classdict__" : Str))=false:=by decide +kernel):SE K cl X Wx (mVar i) (.Name x pos):=by
 refine⟨fun E0 ρ G σ st τ H Q R S h=>T.of (Y4 hN hv hd hcd) ?_⟩
 unfold mVar at h;split at h
 ·rename_i w e
  obtain⟨v,e1,r⟩:=S.2 i w e;exact⟨v,e1,h.here R r⟩
 ·exact h.elim
end
section
variable {K:PySem.W.Frag}{cl:Cls}{X:Cx}{Wx:WX}{E0:En}{ρ ρ':List Addr}{G G':Hp}{σ:Sg}{τ:L2.St}{st:List Cell}{H:Hp}
theorem RPs.empty{l:List P}{vs:List V} (r:RPs K cl G l vs):l.isEmpty=vs.isEmpty:=by cases r<;>rfl
theorem RWs.empty{l:List W}{vs:List V} (r:RWs K cl ρ G l vs):l.isEmpty=vs.isEmpty:=by cases r<;>rfl
theorem T.bind{e:Expr}{Q Q':VK} (h:T X e τ H Q) (k:∀v H',Q v H'→Q' v H'):T X e τ H Q':=fun pins s I=>thn (h pins s I) fun u s1 ⟨v,H1,I1,r,q⟩=>⟨v,H1,I1,r,k v H1 q⟩
end
inductive SR where
 |ok (f:Fl) (σ:Sg) (st:List Cell)|exc (x:Exn) (σ:Sg) (st:List Cell)|no
abbrev SMm:=Sg→List Cell→SR
section
variable {K:PySem.W.Frag}{cl:Cls}{X:Cx}{Wx:WX}{E0:En}{ρ ρ':List Addr}{G G':Hp}{σ:Sg}{τ:L2.St}{st:List Cell}{H:Hp}{D:Ends}
theorem RS.set(S:RS K cl ρ G σ τ){w:W}{v:V} (r:RW K cl ρ G w v) (i:Nat):RS K cl ρ G (σ.set i (some w)) (τ.set i (some v)):=by
 refine⟨by rw[JQ,JQ];exact S.1,fun j z e=>?_⟩
 by_cases hj:i=j
 ·subst hj
  have hl:i<σ.length:=by
   have:=(Ja.mp e).1
   rwa [JQ]at this
  rw[JL hl]at e;cases e;exact⟨v,JL (by rw[←S.1];exact hl),r⟩
 ·rw[JN hj]at e;obtain⟨u,e1,r1⟩:=S.2 j z e;exact⟨u,by rw[JN hj];exact e1,r1⟩
inductive Tg where
 |nm (i:Nat)|tp (l:List Tg)
mutual
def Tg.slots:Tg→List Nat
 | .nm i=>[i]
 | .tp ts=>Tg.slotss ts
def Tg.slotss:List Tg→List Nat
 |[]=>[]
 |t::ts=>Tg.slots t++Tg.slotss ts
end
end
structure Src where
 get:List Cell→Nat→Option (Option W)
 n:Nat
abbrev IM:=Sg→List Cell→Res Src
def content:Cell→List W
 | .lst l=>l
 | .dk _ l=>l
 | .ins _ l=>l
 | .dead=>[]
 | .dn _ l=>l
 | .tp _=>[]
def zBS(c:Cell):Bool:=match c with
 | .dead=>false
 |c=>(pures (content c)).isSome
def getCells(st:List Cell):List Nat→Option (List Cell)
 |[]=>some []
 |i::is=>match st[i]? with
  |some c=>if zBS c=true then match getCells st is with
    |some cs=>some (c::cs)
    |none=>none else none
  |none=>none
def putCells:List Nat→List Cell→List Cell→List Cell
 |i::is,c::cs,st=>(putCells is cs st).set i c
 |_,_,st=>st
section
variable {K:PySem.W.Frag}{cl:Cls}{X:Cx}{Wx:WX}{E0:En}{ρ ρ' ρ2:List Addr}{G G':Hp}{σ:Sg}{τ:L2.St}{st st':List Cell}{H H' Hm:Hp}{D:Ends}
theorem zE3{l:List W}{vs:List V} (h:(pures l).isSome=true) (r:RWs K cl ρ G l vs):RWs K cl ρ2 G l vs:=by
 cases e:pures l with
 |none=>rw[e]at h;cases h
 |some m =>
  have q:=r.pures e;rw[zHr e];exact .of_pures q
theorem CA.plain{a:Addr}{c:Cell} (h:zBS c=true) (x:CA K cl ρ G H a c):CA K cl ρ2 G H a c:=by
 cases c with
 |lst l=>obtain⟨vs,h1,h2⟩:=x;exact⟨vs,h1,zE3 h h2⟩
 |dk ks l=>obtain⟨vs,h1,z,h2⟩:=x;exact⟨vs,h1,z,zE3 h h2⟩
 |ins c l=>obtain⟨C,dx,ns,vs,k,h1,z,h2⟩:=x;exact⟨C,dx,ns,vs,k,h1,z,zE3 h h2⟩
 |dead=>cases h
 |dn ks l=>obtain⟨nks,as,vs,n,h1,z,q,h2⟩:=x;exact⟨nks,as,vs,n,h1,z,q,zE3 h h2⟩
 |tp l=>exact x
theorem zDA:∀ {refs:List Nat}{cs st:List Cell},(putCells refs cs st).length=st.length
 |[],_,_=>by unfold putCells;rfl
 |_::_,[],_=>by unfold putCells;rfl
 |i::is,c::cs,st=>by unfold putCells;rw[JQ];exact zDA
theorem zEP:∀ {refs:List Nat}{cs st:List Cell}{i:Nat},i∉refs→(putCells refs cs st)[i]?=st[i]?
 |[],_,_,_,_=>by unfold putCells;rfl
 |_::_,[],_,_,_=>by unfold putCells;rfl
 |k::is,c::cs,st,i,h=>by
  unfold putCells;rw[JN (fun e=>h (by rw[e];exact Jc))]
  exact zEP fun m=>h (Jg _ m)
theorem zEt:∀ {refs:List Nat}{cs st:List Cell}{j i:Nat},refs.Nodup→refs[j]?=some i→refs.length≤cs.length→i<st.length→(putCells refs cs st)[i]?=cs[j]?
 |[],_,_,_,_,_,h,_,_=>by simp at h
 |_::_,[],_,_,_,_,_,h,_=>by simp at h
 |k::is,c::cs,st,0,i,nd,h,hl,hi=>by
  simp at h;subst h;unfold putCells;rw[JL (by rw[zDA];exact hi)]
  rfl
 |k::is,c::cs,st,j+1,i,nd,h,hl,hi=>by
  have h:is[j]?=some i:=by simpa using h
  have ne:k≠i:=fun e=>(Vb.mp nd).1 (by rw[e];exact Jn h)
  unfold putCells;rw[JN ne];rw[zEt (Vb.mp nd).2 h (by simpa using hl) hi]
  simp
theorem zDh:∀ {refs:List Nat}{cs:List Cell}{j i:Nat},getCells st refs=some cs→refs[j]?=some i→∃c,cs[j]?=some c∧st[i]?=some c∧zBS c=true
 |[],_,_,_,_,h=>by simp at h
 |k::is,cs,j,i,e,h=>by
  rw[getCells]at e;split at e
  ·rename_i c ec
   split at e
   ·rename_i hp
    split at e
    ·rename_i ds ed
     cases e;cases j with
     |zero =>
      simp at h;subst h;exact⟨c,rfl,ec,hp⟩
     |succ j =>
      obtain⟨d,h1,h2⟩:=zDh (j:=j) ed (by simpa using h)
      exact⟨d,by simpa using h1,h2⟩
    ·cases e
   ·cases e
  ·cases e
def rhos(ρ:List Addr) (refs:List Nat):List Addr:=refs.map fun i=>ρ.getD i 0
theorem zFJ(R:Rel K cl E0 ρ G st H){refs:List Nat}{cs:List Cell} (e:getCells st refs=some cs){j i:Nat} (h:refs[j]?=some i):∃a,ρ[i]?=some a∧(rhos ρ refs)[j]?=some a:=by
 obtain⟨c,_,h2,_⟩:=zDh e h;obtain⟨a,ha,_⟩:=R.at h2;refine⟨a,ha,?_⟩;unfold rhos;rw[Ji,h];show some (ρ.getD i 0)=some a;rw[Vh,ha];rfl
theorem zEo(R:Rel K cl E0 ρ G st H){refs:List Nat}{cs:List Cell} (e:getCells st refs=some cs){j:Nat}{a:Addr} (h:(rhos ρ refs)[j]?=some a):∃i,refs[j]?=some i∧ρ[i]?=some a:=by
 unfold rhos at h;rw[Ji]at h;cases q:refs[j]? with
 |none=>rw[q]at h;cases h
 |some i =>
  obtain⟨b,h1,h2⟩:=zFJ R e q;unfold rhos at h2;rw[Ji]at h2;rw[h]at h2;cases h2;exact⟨i,rfl,h1⟩
theorem getElem?_inj {α:Type}{l:List α} (nd:l.Nodup){i j:Nat}{a:α} (h1:l[i]?=some a) (h2:l[j]?=some a):i=j:=by
 have e1:=Ja.mp h1;have e2:=Ja.mp h2;exact(Y5 (h₀:=e1.1) (h₁:=e2.1) nd).mp (e1.2.trans e2.2.symm)
theorem zDY{α:Type}{l m:List α}{i:Nat}{a:α} (h:(l++m)[i]?=some a):(i<l.length∧l[i]?=some a)∨(l.length≤i∧m[i-l.length]?=some a):=by
 by_cases hi:i<l.length
 ·rw[Jh hi]at h;exact .inl ⟨hi,h⟩
 ·rw[JA ∅]at h;exact .inr ⟨∅,h⟩
theorem Rel.ret(R:Rel K cl E0 ρ G st H){refs:List Nat}{cs:List Cell}{xs:List Addr} (nd:refs.Nodup) (hc:getCells st refs=some cs) (up:Sub H Hm) (hx:∀x∈xs,H x=none)
  (p:(xs++rhos ρ refs) <+: ρ') (s:Sub G G') (R':Rel K cl ⟨strip Hm,(xs++rhos ρ refs).length,G⟩ ρ' G' st' H') (pl:((st'.drop xs.length).take refs.length).all zBS=true) (ln:xs.length+refs.length≤st'.length) :
  Rel K cl E0 ρ G' (putCells refs (st'.drop xs.length) st) H':=by
 have lr:(rhos ρ refs).length=refs.length:=Jb ..;obtain⟨tl,rfl⟩:=p
 -- a cell of the caller that is not handed in
 have notin:∀(i:Nat) a,ρ[i]?=some a→i∉refs→∀j:Nat,j<(xs++rhos ρ refs).length→(xs++rhos ρ refs++tl)[j]?≠some a:=fun i a ha hi j hj e=>by
  rw[Jh hj]at e;rcases zDY e with⟨h1,h2⟩|⟨h1,h2⟩
  ·obtain⟨o,q⟩:=R.there ha;rw[hx a (Jn h2)]at q;cases q
  ·obtain⟨k,r1,r2⟩:=zEo R hc h2
   have:=getElem?_inj R.nd r2 ha
   subst this;exact hi (Jn r1)
 -- what was handed in,by places
 have inn:∀(j:Nat) a,j<(xs++rhos ρ refs).length→(xs++rhos ρ refs++tl)[j]?=some a→a∈xs∨∃i,i∈refs∧ρ[i]?=some a:=fun j a hj e=>by
  rw[Jh hj]at e;rcases zDY e with⟨h1,h2⟩|⟨h1,h2⟩
  ·exact .inl (Jn h2)
  ·obtain⟨k,r1,r2⟩:=zEo R hc h2;exact .inr ⟨k,Jn r1,r2⟩
 have at':∀(i:Nat) a,i∈refs→ρ[i]?=some a→∃j,refs[j]?=some i∧(xs++rhos ρ refs++tl)[xs.length+j]?=some a∧j<refs.length:=fun i a hi ha=>by
  obtain⟨j,hj⟩:=Ve hi;obtain⟨b,h1,h2⟩:=zFJ R hc hj;rw[ha]at h1;cases h1;have hl:j<refs.length:=(Ja.mp hj).1;refine⟨j,hj,?_,hl⟩;rw[Jh (by rw[Jl,lr];omega),JA ∅]
  rw[show xs.length+j-xs.length=j by omega];exact h2
 have hil:∀(i:Nat) a,ρ[i]?=some a→i<st.length:=fun i a ha=>by rw[←R.len];exact(Ja.mp ha).1
 refine⟨by rw[zDA];exact R.len,R.nd,fun i c a e1 e2=>?_,fun i c a e1 e2=>?_,R'.sub,fun a u e q=>?_,R.new,R.n0,fun a u e=>?_,R.ent,R'.gnt,R'.tabs⟩
 ·by_cases hi:i∈refs
  ·obtain⟨j,h1,h2,h3⟩:=at' i a hi e2;rw[zEt nd h1 (by rw[Vz];omega) (hil i a e2)]at e1
   have x:=R'.cell (xs.length+j) c a (by rw[YC]at e1;exact e1) h2
   have hp:zBS c=true:=Jp.mp pl c (Jn (i:=j) (by rw[List.getElem?_take_of_lt h3];exact e1))
   exact CA.plain hp x
  ·rw[zEP hi]at e1
   by_cases hcd:c=.dead
   ·subst hcd;obtain⟨o,z⟩:=R.cell i _ a e1 e2;exact⟨o,s _ _ z⟩
   ·obtain⟨o,q,po⟩:=(R.cell i c a e1 e2).po hcd;have q2:=R'.old a o (strip_of (up a o q) po.1) (notin i a e2 hi);exact(R.cell i c a e1 e2).mono (Je _) s (q2.trans q.symm)
 ·by_cases hi:i∈refs
  ·obtain⟨j,h1,h2,h3⟩:=at' i a hi e2;rw[zEt nd h1 (by rw[Vz];omega) (hil i a e2)]at e1
   exact R'.sep (xs.length+j) c a (by rw[YC]at e1;exact e1) h2
  ·rw[zEP hi]at e1;rcases R.sep i c a e1 e2 with z|z
   ·exact .inl z
   ·refine .inr ?_
    cases g:G' a with
    |none=>rfl
    |some u =>
     obtain⟨o,q⟩:=R.there e2;rcases R'.grow a u g with y|y|⟨j,hj,y⟩
     ·have y:G a=some u:=y;rw[z]at y;cases y
     ·have y:strip Hm a=none:=y;rcases zFU y with y|⟨ps,y⟩
      ·rw[up a o q]at y;cases y
      ·rw[up a o q]at y;cases y;exact absurd e2 ((R.tblF q).1 i)
     ·exact absurd y (notin i a e2 hi j hj)
 ·have h1:=R.old a u e q;refine R'.old a u (strip_of (up a u h1) (R.ent a u e)) fun j hj y=>?_
  rcases inn j a hj y with m|⟨i,hi,r⟩
  ·rw[hx a m]at h1;cases h1
  ·by_cases hn:i<E0.n0
   ·exact q i hn r
   ·rw[R.new i a ∅ r]at e;cases e
 ·rcases R'.grow a u e with y|y|⟨j,hj,y⟩
  ·exact R.grow a u y
  ·have y:strip Hm a=none:=y;refine .inr (.inl ?_);rcases zFU y with y|⟨ps,y⟩
   ·exact R.fresh0 (by
     cases g:H a with
     |none=>rfl
     |some o=>rw[up a o g]at y;cases y)
   ·cases g:H a with
    |none=>exact R.fresh0 g
    |some o =>
     rw[up a o g]at y;cases y;exact(R.tblF g).2
  ·rcases inn j a hj y with m|⟨i,hi,r⟩
   ·exact .inr (.inl (R.fresh0 (hx a m)))
   ·by_cases hn:i<E0.n0
    ·exact .inr (.inr ⟨i,hn,r⟩)
    ·exact .inr (.inl (R.new i a ∅ r))
section
variable {f:Addr}{fd:FuncData}{ps:List Str}{F:FM}{a:AM}{k:Nat}{x m:Str}{p pos apos:Pos}{e:Expr}{es:List Expr}
structure zGW (K:PySem.W.Frag) (cl:Cls) (fn:Str) (c i:Nat):Prop where
 ex:∃C ns,cl[c]?=some (C,ns)∧ns.Nodup∧ns[i]?=some fn∧L2.Cls K C∧NoAttr K C fn
end
end
inductive ZK where
 |L (a:Addr)|T (a:Addr)|S (x:Str)
def ZK.val:ZK→V
 | .L a=>.ref a
 | .T a=>.ref a
 | .S x=>.str x
def ZK.len(K:PySem.W.Frag) (H:Hp) (n:Nat):ZK→Prop
 | .L a=>∃xs,SqL K H a xs∧xs.length=n
 | .T a=>∃xs,SqT K H a xs∧xs.length=n
 | .S x=>x.cps.size=n
section
variable {K:PySem.W.Frag}{cl:Cls}{X:Cx}{Wx:WX}{E0:En}{ρ ρ':List Addr}{G G':Hp}{σ:Sg}{τ:L2.St}{st:List Cell}{H:Hp}{D:Ends}
def vis(sc:Scope) (x:Str):Bool:=match sc.names.lookup x with
 |some .local=>true
 |some .cell=>true
 |some .free=>true
 |_=>false
theorem zEJ{sc:Scope}{x:Str} (h:vis sc x=true):Vis sc x:=by
 unfold vis at h;split at h
 ·exact .inl (by assumption)
 ·exact .inr (.inl (by assumption))
 ·exact .inr (.inr (by assumption))
 ·cases h
theorem v{i:Nat}{x:Str}{pos:Pos} (hN:X.N[i]?=some x) (hv:vis X.env.scope x=true) (hd:((x==("__debug__" : Str))||(x==("__classdict__" : Str)))=false):SE K cl X Wx (mVar i) (.Name x pos):=by
 rw[Bool.or_eq_false_iff]at hd;exact se_var hN (zEJ hv) hd.1 hd.2
end
section
open PySem.W (ksEnv ksFn kxs_mw)
section
variable {K:PySem.W.Frag}{cl:Cls}{X:Cx}{Wx:WX}{E0:En}{ρ ρ':List Addr}{G G':Hp}{σ:Sg}{τ:L2.St}{st:List Cell}{H:Hp}{D:Ends}
abbrev WE(E:XK):WX:=fun c d _ H=>E c d H
end
end
section
open LamX
section
variable {K:PySem.W.Frag}{cl:Cls}{E0:En}{ρ:List Addr}{G:Hp}{st:List Cell}{H H1:Hp}
theorem Rel.grown(R:Rel K cl E0 ρ G st H) (eN:ExtN H H1) (T1:∀p∈cl.tb,TabG G H1 p.1 p.2):Rel K cl E0 ρ G st H1:=by
 refine⟨R.len,R.nd,fun i c a e1 e2=>?_,R.sep,fun a u e=>eN a u (R.sub a u e) (R.gnt a u e),fun a u e q=>eN a u (R.old a u e q) (R.ent a u e),R.new,R.n0,R.grow,R.ent,R.gnt,T1⟩
 by_cases hcd:c=.dead
 ·subst hcd;exact R.cell i _ a e1 e2
 ·obtain⟨o,z,po⟩:=(R.cell i c a e1 e2).po hcd;exact(R.cell i c a e1 e2).mono (Je _) (Sub.refl _) ((eN a o z po.1).trans z.symm)
end
end
section
open LamX (GivesTo CodeO LamS lamCx lamEnv TabB Tabs ExtN tLam)
section
variable {K:PySem.W.Frag}{cl:Cls}{X:Cx}{Wx:WX}
open LamX (CodeO ExtN TabB)
def kE:Expr→Nat→Option Expr
 | .BoolOp _ vs _,k=>vs[k]?
 | .BinOp l _ r _,k=>[l,r][k]?
 | .UnaryOp _ o _,k=>[o][k]?
 | .IfExp t b o _,k=>[t,b,o][k]?
 | .Compare l _ cs _,k=>(l::cs)[k]?
 | .Call f as _ _,k=>(f::as)[k]?
 | .List es _,k=>es[k]?
 | .Tuple es _ _,k=>es[k]?
 | .Subscript v s _,k=>[v,s][k]?
 | .Attribute v _ _,k=>[v][k]?
 | .ListComp e _ _ _,k=>[e][k]?
 |_,_=>none
def kS:Stmt→Option Expr
 | .Assign _ v _=>some v
 | .Return v _=>v
 | .If t _ _ _=>some t
 | .For _ i _ _ _=>some i
 | .While t _ _ _=>some t
 | .Expr v _=>some v
 | .AugAssign _ _ v _=>some v
 |_=>none
def bS:Stmt→List Stmt
 | .FunctionDef (body:=b) .. => b
 | .If _ b o _=>b++o
 | .For _ _ b o _=>b++o
 | .While _ b o _=>b++o
 | .Try b _ _ _ _=>b
 |_=>[]
def dnS:Option Stmt→List Nat→Option Stmt
 |s,[]=>s
 |some s,k::l=>dnS (bS s)[k]? l
 |none,_::_=>none
def dnE:Option Expr→List Nat→Option Expr
 |s,[]=>s
 |some s,k::l=>dnE (kE s k) l
 |none,_::_=>none
def zO7(s:Stmt) (sp ep:List Nat):LamR:=match dnE ((dnS (some s) sp).bind kS) ep with
 |some (.Lambda a b sc _)=>⟨a,b,sc,!a.args.isEmpty⟩
 |_=>⟨⟨[],[],none,[],[],none,[]⟩,.Name Str.empty ⟨0,0,0,0⟩,default,false⟩
end
end
section
open LamX (CodeO ExtN TabB)
section
variable {K:PySem.W.Frag}{cl:Cls}{X:Cx}{Wx:WX}{E0:En}{ρ:List Addr}{G:Hp}{σ:Sg}{τ:L2.St}{st:List Cell}{H:Hp}
theorem zKB{c:Addr}{q:Str}:NT (CodeO c q):=fun _ z=>by unfold CodeO at z;cases z
theorem Rel.code{Pt c':Addr}{q:Str}{ps ps':Array Value} (R:Rel K cl E0 ρ G st H) (hP:H Pt=some (.tbl ps)) (hc:H c'=none) (hu:∀p∈cl.tb,p.1=Pt→p.2=q) (ht:TriplesOk ps'.toList)
  (ha:∀(pos:Pos) (cv:Value),codeAmong pos ps'.toList=some cv→∃c,cv=.ref c∧upd G c' (CodeO c' q) c=some (CodeO c q)):Rel K cl E0 ρ (upd G c' (CodeO c' q)) st (upd (upd H Pt (.tbl ps')) c' (CodeO c' q)):=by
 have R':=R.froze (o:=CodeO c' q) hc zKB;have ne:Pt≠c':=VF hP hc;refine R'.grown (fun b o e n=>?_) fun p hp=>?_
 ·by_cases hb:b=c'
  ·rw[hb]at e ⊢;rw[Ju]at e ⊢;exact e
  ·rw[JF hb]at e ⊢;rw[JF fun z=>by rw[z,hP]at e;exact n ps (Jd e).symm]
   exact e
 ·by_cases hb:p.1=Pt
  ·rw[hu p hp hb,hb];exact⟨ps',by rw[JF ne,Ju],ht,ha⟩
  ·obtain⟨qs,e1,e2,e3⟩:=R'.tabs p hp
   have ec:p.1≠c':=fun z=>by
    rw[z,Ju]at e1;exact zKB qs (Jd e1)
   rw[JF ec]at e1;exact⟨qs,by rw[JF ec,JF hb];exact e1,e2,e3⟩
end
end
section
open PySem.W (ksFn ksEnv)
structure DefE where
 at_:PySem.W.Frag→Addr
 name:Str
 qual:Str
 params:Arguments
 body:List Stmt
 scope:Scope
 clo:List Str
abbrev FnE:Type:=Option ((Str×Str×Arguments)×(FuncBody×Scope)×Addr×List Str×Addr)
def fnE(K:PySem.W.Frag) (a:Addr):FnE:=(K.lookup a).bind fun o=>match o.data with
 | .func d=>some ((d.name,d.qualname,d.params),(d.body,d.scope),d.globals,d.closure.map Prod.fst,d.builtins)
 |_=>none
def DefE.val(d:DefE):FnE:=some ((d.name,d.qual,d.params),(.stmts d.body,d.scope),mainGlobals,d.clo,builtinsNs)
def DefE.okB(K:PySem.W.Frag) (d:DefE):Bool:=(K.lookup (d.at_ K)).any fun o=>match o.data with
 | .func e=>PySem.W.keepIn K (.ref (d.at_ K))&&PySem.W.codeIn K e.code d.qual&&He.dflB K e.defaults []&&He.kwdB K e.kwdefaults []
 |_=>false
theorem DefE.ex{K:PySem.W.Frag}{d:DefE} (e:fnE K (d.at_ K)=d.val) (c:d.okB K=true):∃(oc:Value) (od:Option Addr) (osl:Array (Option Value)) (clo:List (Str×Addr)) (dV kV doc pm cdv ct:Value) (an:Option Addr),
  K.lookup (d.at_ K)=some ⟨oc,od,.func (PySem.W.fnX d.name d.qual d.params d.body d.scope clo dV kV doc pm an cdv ct),osl⟩∧clo.map Prod.fst=d.clo∧PySem.W.keepIn K (.ref (d.at_ K))=true∧PySem.W.codeIn K cdv d.qual=true∧DflV K dV []∧KwdV K kV []:=by
 unfold fnE at e;unfold DefE.okB at c;cases q:K.lookup (d.at_ K)with
 |none=>rw[q]at c;cases c
 |some o =>
  obtain⟨oc,od,dt,osl⟩:=o;rw[q]at c e;cases dt with
  |func fd =>
   obtain⟨n1,n2,n3,n4,n5,n6,n7,n8,n9,n10,n11,n12,n13,n14,n15⟩:=fd;have e2:(some ((n1,n2,n3),(n4,n5),n6,n7.map Prod.fst,n15):FnE)=some ((d.name,d.qual,d.params),(.stmts d.body,d.scope),mainGlobals,d.clo,builtinsNs):=e;simp only[Option.some.injEq,YU]at e2;obtain⟨⟨h1,h2,h3⟩,⟨h4,h5⟩,h6,h7,h8⟩:=e2;have c2:(PySem.W.keepIn K (.ref (d.at_ K))&&PySem.W.codeIn K n13 d.qual&&He.dflB K n8 []&&He.kwdB K n9 [])=true:=c;simp only[Jj]at c2;obtain⟨⟨⟨k1,k2⟩,k3⟩,k4⟩:=c2;refine⟨oc,od,osl,n7,n8,n9,n10,n11,n13,n14,n12,?_,h7,k1,k2,He.dflB_ok k3,He.kwdB_ok k4⟩;subst h1 h2 h3 h4 h5 h6 h8;rfl
  |_=>cases c
structure SaysE (fa:List He.Fa) (fn:List He.DefD) (ts:List He.Tab) (tf:List He.Defn) (ex:PySem.W.Frag→Bool) (es:List DefE) (w:World) (h:Heap) (K:PySem.W.Frag):Prop where
 x:He.SaysX fa fn ts tf ex w h K
 e:es.map (fun d=>fnE K (d.at_ K))=es.map DefE.val
 ok:es.all (fun d=>d.okB K)=true
abbrev AlE:Type:=He.AlX×Bool×List FnE
def zOY(fn:List He.DefD) (ts:List He.Tab) (es:List DefE) (w:World):AlE:=(He.valX fn ts w,true,es.map DefE.val)
def oexD(C:Addr):Value→Data→List (Option Value)→Bool
 | .type "type",.cls cd,sl=>(match cd.mro,sl with
  | .ref c::bm,[_,_,_,_,some (.builtin n),_]=>decide (c=C)&&decide (n = "ValueError.__new__") && !cd.hasDel&&cd.hasDict&&PySem.HandSPX.refsVE bm
  |_,_=>false)
 |_,_,_=>false
def oexB(K:PySem.W.Frag) (C:Addr):Bool:=((K.lookup C).any fun o=>oexD C o.cls o.data o.slots.toList)&&He.eqO (PySem.W.findIn K (.ref C) "__setattr__") (some (some (.builtin "object.__setattr__")))&&decide (PySem.W.subIn K (.ref C) (.type "BaseException")=some true)&&decide (PySem.W.typeIn K (.ref C)=some (.type "type"))&&PySem.W.keepIn K (.ref C)
def zQa(C:Addr):Data→Bool
 | .cell (some (.ref c))=>decide (c=C)
 |_=>false
def strIs(z:Str):Option Value→Bool
 |some (.str y _)=>z==y
 |_=>false
def fileD(z:Str):Data→Bool
 | .fields vs=>strIs z vs[2]?
 |_=>false
def zO6(K:PySem.W.Frag) (cc C:Addr):Bool:=(K.lookup cc).any fun o=>zQa C o.data
def zOo(K:PySem.W.Frag) (a:Addr) (z:Str):Bool:=(K.lookup a).any fun o=>fileD z o.data
def cloOf(K:PySem.W.Frag) (f:Addr):Option (Addr×Addr):=(K.lookup f).bind fun o=>match o.data with
 | .func d=>(match d.closure,d.code with|[q],.ref a=>some (q.2,a)|_,_=>none)
 |_=>none
def excB(K:PySem.W.Frag) (x z:Str) (g:Option Str):Bool:=oexB K (He.ga K x)&&xfB K (He.ga K x)&&He.eqO (PySem.W.findIn K (.ref (He.ga K x)) "tag") (some none)&&(g.all fun f=>He.eqO (PySem.W.findIn K (.ref (He.ga K x)) f) (some none) && !(f==("tag" : Str))) &&
 He.eqO (PySem.W.findIn K (.ref (He.ga K x)) "__init__") (some (some (.ref (He.ma K (He.ga K x) "__init__"))))&&decide (PySem.W.typeIn K (.ref (He.ma K (He.ga K x) "__init__"))=some (.type "function")) &&
 ((cloOf K (He.ma K (He.ga K x) "__init__")).any fun q=>zO6 K q.1 (He.ga K x)&&zOo K q.2 z)&&He.eqO (PySem.W.ks_superIn K (He.ga K x) (He.ga K x) "__init__") (some (some (.builtin "ValueError.__init__"))) &&
 decide (PySem.W.mroIn K (He.ga K x) (.ref (He.ga K x))=some true)&&decide (PySem.W.subIn K (.ref (He.ga K x)) (.type "ValueError")=some true)&&He.eqO (PySem.W.nsIn K cStatics "thirdparty.any") (some none)
structure FileOf (P:Program) (z:Str):Prop where
 file:((P.main.file:Str)==z)=true
 top:(P.main.scope.names.lookup ("super" : Str)).isSome=false
end
section
open PySem.W (ksFn ksEnv)
def zBn(K:PySem.W.Frag) (C:Addr) (f:Str):Addr×Addr:=match PySem.W.findIn K (.ref C) f with
 |some (some (.ref p))=>(match PySem.W.recIn K p "property" with
  |some (.ref g::_)=>(p,g)
  |_=>(p,0))
 |_=>(0,0)
def zQK(K:PySem.W.Frag) (C:Addr) (f:Str):Bool:=He.eqO (PySem.W.findIn K (.ref C) f) (some (some (.ref (zBn K C f).1)))&&He.eqO (PySem.W.specialIn K (.ref (zBn K C f).1) "__get__") (some (some (.builtin "property.__get__")))&&decide (PySem.W.takesIn K (.ref (zBn K C f).1)=some true) &&
 ((PySem.W.recIn K (zBn K C f).1 "property").any fun l=>match l with | .ref g::_=>decide (g=(zBn K C f).2)|_=>false)
end
section
open PySem.W PySem.Calls HandSHeadRun
noncomputable section
def RunA(r:OpenRow) (q:Program) (M:Nat) (loose:List PySem.Str) (w:World):Prop :=
 ∀os:OsState,(endF (stepQ (denQ tabQ) r.prog w) M r.prog w os).map (fun s=>(looksF r.prog (boot_heap w.params) s.abs,seenQ q loose (importedModules r.prog.main.body) (fun s=>xlAt q [] s&&recOk r.toRowW.records s) s.abs))=some (true,openGood q loose)
def RunB(r:OpenRow) (H:Hook) (ob:SharedT→H.α) (M:Nat) (w:World):Prop :=
 ∀os:OsState,(endF (stepQ (denQ tabQ) r.prog w) M r.prog w os).map ob=some (H.val w)
theorem two3{α β γ δ:Type}{x:Option α}{f:α→β}{g:α→γ}{h:α→δ}{a:β}{b:γ}{c:δ} (h1:x.map (fun s=>(f s,g s))=some (a,b)) (h2:x.map h=some c):x.map (fun s=>(f s,g s,h s))=some (a,b,c):=by
 cases x with
 |none=>cases h1
 |some s =>
  simp only[bc,Option.some.injEq,YU]at h1 h2 ⊢;exact⟨h1.1,h1.2,h2⟩
theorem zNG{r:OpenRow}{q:Program}{H:Hook}{ob:SharedT→H.α}{M:Nat}{loose:List PySem.Str}{w:World} (a:RunA r q M loose w) (b:RunB r H ob M w):RunEq r q H ob M loose w:=fun os=>two3 (a os) (b os)
end
end
def cmB(K:PySem.W.Frag) (C:Addr) (m:Str):Bool:=PySem.W.readsIn K C (.type "type")&&He.eqO (PySem.W.specialIn K (.ref C) "__getattribute__") (some (some (.builtin "type.__getattribute__"))) &&
 He5.wrapB K C "classmethod" "classmethod.__get__" m&&PySem.W.fnIn K (He5.wf K C "classmethod" m)
def z3:List NestedKey→List Addr→List Value→List (NestedKey×Addr×Value)
 |k::ks,a::as,v::vs=>(k,a,v)::z3 ks as vs
 |_,_,_=>[]
section
open GenW
inductive Pjk where
 |id|fst
end
section
open GenW
abbrev SpJ:=Pjk→List V→Hp→(List V→Hp→Prop)→XK→Prop
end
section
open PySem.W PySem.Calls HandSHeadRun
noncomputable section
def RunH{γ:Type} (r:OpenRow) (M:Nat) (w:World) (h:SharedT→γ) (c:γ):Prop:=∀os:OsState,(endF (stepQ (denQ tabQ) r.prog w) M r.prog w os).map h=some c
def zLr(ts:List He.Tab) (es:List DefE) (w:World):(List (Option (List (Option (PySem.Str×Int))))×Bool)×(Bool×List FnE):=((ts.map fun t=>some (He.keysIn w.params t.2),true),true,es.map DefE.val)
variable {r:OpenRow}{M n:Nat}{w:World}{fa fb:List He.Fa}{fn fm:List He.DefD}{ts:List He.Tab}{tf:List He.Defn}{ex:PySem.W.Frag→Bool}{es:List DefE}
theorem two2{α β γ:Type}{x:Option α}{f:α→β}{g:α→γ}{a:β}{b:γ} (h1:x.map f=some a) (h2:x.map g=some b):∃s,x=some s∧f s=a∧g s=b:=by
 cases x with
 |none=>cases h1
 |some s=>exact⟨s,rfl,Jd h1,Jd h2⟩
end
end
end Y
namespace NS
def ask(m:Nat) (h:Int) (c:Nat):SetTable.Probe:=nth m (runAt m (SetTable.bits h%(m+1)) (SetTable.bits h)) c
abbrev Lk:=List (NestedKey×Addr)
end NS
namespace Y
open GenW
inductive LR where
 |ok (f:Fl) (σ:Sg) (st:List Cell) (ys:List P)|no (ys:List P)
abbrev LMn:=Sg→List Cell→List P→LR
def LR.ys:LR→List P
 | .ok _ _ _ ys=>ys
 | .no ys=>ys
def Mono(m:LMn):Prop:=∀σ st ys,ys <+: (m σ st ys).ys
structure Gf where
 P:Program
 w:World
 K:PySem.W.Frag
 mg:Str→Option Value
 base:Heap
 cl:Cls
 N:List Str
 qual:Str
 scope:Scope
 f:Addr
 cd:Value
 A:Around
 outer:List Env
 n0:Nat
abbrev Gf.env(g:Gf):Env:=envOfC g.qual g.scope g.n0 g.f g.cd
structure Ix where
 s0:Shared
 H0:Hp
 pn:List (Addr×Obj)
 E0:En
 ρ0:List Addr
 i:Nat
def Gf.X(g:Gf) (x:Ix):Cx:=gcxOf g.P g.w g.K g.mg g.base g.N g.qual g.scope g.f g.cd g.A g.outer x.s0 x.H0 (fun _ _ _=>False) x.pn
def Gf.Ok(g:Gf) (x:Ix):Prop:=x.s0.heap.objs.size=g.n0
section
variable {g:Gf}{x x2:Ix}
theorem Gf.AX(h:g.Ok x):(g.X x).A=g.A.deeper g.env:=by
 show g.A.deeper (envOfC g.qual g.scope x.s0.heap.objs.size g.f g.cd)=_;rw[h]
end
structure Game where
 Wk:Shared→Ix→Prop
 yf:List P
 Bud:Nat
 fin:Bool
def GSt(g:Gf) (x:Ix) (ρ:List Addr) (G:Hp) (st:List Cell) (τ:L2.St) (H:Hp) (s:Shared):Prop :=
 g.Ok x∧(bs g.K g.cl x.E0).Rel ρ G st H∧Inv (g.X x) [] τ H s∧Sub x.E0.G0 G∧x.ρ0 <+: ρ
def Bd(W:Game) (n c:Nat):Prop:=n+c=W.Bud∧1≤n
def YP(g:Gf) (W:Game):Protocol:=fun n s₀ v s kap =>
 ∃x ρ G σ st τ H z xv,W.Wk s₀ x∧GSt g x ρ G st τ H s∧RS g.K g.cl ρ G σ τ∧RelV xv v∧RP g.K g.cl G z xv∧W.yf[x.i]?=some z∧n+1+x.i=W.Bud ∧
  (1≤n→∀s2 x2 G2 H2,W.Wk s2 x2→x2.i=x.i+1→GSt g x2 ρ G2 st τ H2 s2→RS g.K g.cl ρ G2 σ τ→kap (.send .none) s2)
def RE(g:Gf) (W:Game):GenEnd:=fun n s₀ r s =>
 ((r=.ok (.ret .none)∨r=.ok .next)∧∃x ρ G st τ H,W.Wk s₀ x∧GSt g x ρ G st τ H s∧x.i=W.yf.length∧W.fin=true∧n+x.i=W.Bud)∨∃e,r=.error e∧False
structure JCL (g:Gf) (c:Code) (fs:List Frame) (gd:Bool→Bool):Prop where
 over:g.A.over c fs=g.A.deeper g.env
 split:splitAtGen fs=none
 guard:fs.any Frame.guarded=false
 gd:gd false=false
def FlR(g:Gf) (ρ:List Addr) (G:Hp) (σ:Sg) (τ:L2.St):Fl→Flow→Prop
 | .nx,fl=>fl=.next∧RS g.K g.cl ρ G σ τ
 | .bk,fl=>fl=.brk∧RS g.K g.cl ρ G σ τ
 | .ct,fl=>fl=.cont∧RS g.K g.cl ρ G σ τ
 | .rt w,fl=>∃v u,RW g.K g.cl ρ G w v∧RelV v u∧fl=.ret u
def Acc(g:Gf) (W:Game) (c:Code) (fs:List Frame) (k:Flow→Sem PySem.Fin):LR→Prop
 | .ok f σ st ys=>ys <+: W.yf∧∀n s₀ s x ρ G τ H fl,Bd W n ys.length→x.i=ys.length→W.Wk s₀ x→GSt g x ρ G st τ H s→FlR g ρ G σ τ f fl→Seg (model g.P g.w) g.A (RE g W) (YP g W) n s₀ c (k fl) fs s
 | .no ys=>ys <+: W.yf∧W.Bud≤ys.length
theorem Acc.pre{g:Gf}{W:Game}{c:Code}{fs:List Frame}{k:Flow→Sem PySem.Fin}{r:LR} (h:Acc g W c fs k r):r.ys <+: W.yf:=by
 cases r<;>exact h.1
def JX(g:Gf) (W:Game) (c:Code) (fs:List Frame) (j:Value→Sem PySem.Fin):Prop :=
 ∀n s₀ e s x,g.Ok x→(g.X x).xe e s→Seg (model g.P g.w) g.A (RE g W) (YP g W) n s₀ c (j e) fs s
def TL(g:Gf) (m:LMn) (t:(Flow→Sem PySem.Fin)→(Value→Sem PySem.Fin)→(Bool→Bool)→(List Value→List Value)→Sem PySem.Fin):Prop :=
 ∀(W:Game) (n:Nat) (s₀ s:Shared) (c:Code) (fs:List Frame) (k:Flow→Sem PySem.Fin) (j:Value→Sem PySem.Fin) (gd:Bool→Bool) (lv:List Value→List Value) (x:Ix) (ρ:List Addr) (G:Hp) (σ:Sg) (st:List Cell) (ys:List P) (τ:L2.St) (H:Hp),
  JCL g c fs gd→Bd W n ys.length→x.i=ys.length→W.Wk s₀ x→GSt g x ρ G st τ H s→RS g.K g.cl ρ G σ τ→Acc g W c fs k (m σ st ys)→JX g W c fs j→Seg (model g.P g.w) g.A (RE g W) (YP g W) n s₀ c (t k j gd lv) fs s
structure YLs (g:Gf) (m:LMn) (e:List Stmt):Prop where
 mono:Mono m
 run:TL g m fun k j gd lv=>(execs e g.env).wrap k j gd lv
abbrev WN:WX:=WE (fun _ _ _=>False)
def cut(h:Heap) (n:Nat):Heap:=⟨h.objs.extract 0 n,h.life⟩
def Gf.own(g:Gf):List Addr:=g.n0::(g.env.cells.map (·.1)).filterMap fun y=>g.env.cells.lookup y
theorem Gf.own_of{g:Gf}{a:Addr} (h:a∈g.own):a=g.n0∨∃y,g.env.cells.lookup y=some a:=by
 rcases Jr.mp h with e|e
 ·exact .inl e
 ·obtain⟨y,_,e⟩:=V6.mp e;exact .inr ⟨y,e⟩
def AccE(W:Game):LR→Prop
 | .ok .nx _ _ ys=>ys=W.yf∧W.fin=true
 | .ok (.rt (.p .non)) _ _ ys=>ys=W.yf∧W.fin=true
 | .no ys=>ys=W.yf∧W.Bud≤ys.length
 |_=>False
abbrev sgN(ws:List W) (np N:Nat):Sg:=ws.map some++List.replicate (N-np) none
def MadeL(P:Program) (w:World) (K:PySem.W.Frag) (mg:Str→Option Value) (base:Heap) (cl:Cls) (k:Nat) (outer:List Env) (H:Hp) (s:Shared) (m:LMn) (np Nn:Nat) (vs:List V) (u:Value) (s':Shared):Prop :=
 ∃(a:Addr) (go:Obj) (gi:Nat) (c:Code) (N:List Str) (qual:Str) (scope:Scope) (f:Addr) (cd:Value),u=.ref a∧s.heap.objs.size≤a∧s'.heap.get? a=some go∧(∀v,go.data≠.cell v)∧(∀h:Heap,h.get? a=some go→h.IsGen a gi) ∧
  s'.gens[gi]?=some (.fresh c)∧s'.os=s.os∧AllBare s'.gens∧s'.heap.NoLimit∧(∀b o,s.heap.get? b=some o→s'.heap.get? b=some o) ∧
  ∀A,Room k A→A.frames=some outer→∀g:Gf,g=⟨P,w,K,mg,base,cl,N,qual,scope,f,cd,A,outer,s.heap.objs.size⟩ →
   (∀b∈g.own,s.heap.objs.size≤b∧b≠a∧∃o,s'.heap.get? b=some o)∧(∃x0 τ0,g.Ok x0∧Inv (g.X x0) [] τ0 H s'∧(∀ws G,ws.length=np→RPs K cl G ws vs→RS K cl [] G (sgN (ws.map W.p) np Nn) τ0) ∧
   ∀(W:Game) (s2:Shared) (x:Ix) (G H2:Hp) (σ0:Sg),W.Wk s2 x→x.i=0→1≤W.Bud→GSt g x [] G [] τ0 H2 s2→RS K cl [] G σ0 τ0→AccE W (m σ0 [] [])→Seg (model P w) A (RE g W) (YP g W) W.Bud s2 c ((model P w).den c) [] s2)
structure GenL (P:Program) (w:World) (K:PySem.W.Frag) (mg:Str→Option Value) (base:Heap) (cl:Cls) (k:Nat) (f:Addr) (fd:FuncData) (ps:List Str) (Nn:Nat) (m:LMn):Prop where
 run:∀(A:Around) (outer:List Env) (s:Shared) (H:Hp) (args:Args) (us:List Value) (vs:List V),Room k A→Env0 P w K mg base A outer s H→BindsTo s fd args (ps.zip us)→Vals vs us→vs.length=ps.length →
  codeAny (model P w) A (.call (.ref f) args) (fun r s'=>match r with | .ok (.ret u)=>MadeL P w K mg base cl k outer H s m ps.length Nn vs u s'|_=>False) s
theorem zPG{K:PySem.W.Frag}{cl:Cls}{G:Hp}{ws:List P}{vs:List V}{np:Nat}{N:List Str} (hl:ws.length=np) (hN:np≤N.length) (r:RPs K cl G ws vs):RS K cl [] G (sgN (ws.map W.p) np N.length) (L2.start N vs):=by
 have lv:=r.length;unfold L2.start sgN;refine⟨by simp[hl,←lv],fun i w' e=>?_⟩
 rcases zDY e with⟨h1,h2⟩|⟨h1,h2⟩
 ·rw[Jb,Jb]at h1;rw[Ji]at h2;cases q:(ws.map W.p)[i]? with
  |none=>rw[q]at h2;cases h2
  |some u =>
   rw[q]at h2;have h2:some (some u)=some (some w'):=h2;cases h2;obtain⟨v,ev,rv⟩:=(RWs.of_pures (ρ:=[]) r).get q;refine⟨v,?_,rv⟩;rw[Jh (by rw[Jb,←lv];exact h1),Ji,ev];rfl
 ·rw[Vo]at h2;split at h2<;>cases h2
theorem zRM{P:Program}{w:World}{K:PySem.W.Frag}{mg:Str→Option Value}{base:Heap}{cl:Cls}{k:Nat}{f:Addr}{name qual:Str}{params:Arguments}{body:List Stmt}{scope:Scope}{dV kV doc pm cdv ct oc:Value}{an od:Option Addr}
  {osl:Array (Option Value)}{N ps:List Str}{m:LMn} (lk:K.lookup f=some ⟨oc,od,.func (PySem.W.fnOf name qual params body scope dV kV doc pm an cdv ct),osl⟩) (hcd:PySem.W.codeIn K cdv qual=true) (S:GScope N ps scope)
  (hbody:∀(A:Around) (outer:List Env) (n0:Nat),Room k (A.deeper (envOfC qual scope n0 f cdv))→YLs ⟨P,w,K,mg,base,cl,N,qual,scope,f,cdv,A,outer,n0⟩ m body) :
  GenL P w K mg base cl (k+1) f (PySem.W.fnOf name qual params body scope dV kV doc pm an cdv ct) ps N.length m:=by
 refine⟨fun A outer s H args us vs hr e0 hb r hl=>?_⟩
 have KX:K.In s.heap:=e0.mod.kin.keeps fun b o e=>(e0.bs b o e).1
 have lim:s.heap.NoLimit:=e0.mod.nolimit.keeps fun b o e=>(e0.bs b o e).1
 have kinds:∀y∈ps.zip us,scope.names.lookup y.1=some .local∨(scope.names.lookup y.1=some .cell∧((cellsFrom (s.heap.objs.size+1) scope.names []).lookup y.1).isSome=true):=fun⟨n,v⟩ hy =>
  (S.par n (be hy).1).elim .inl fun q=>.inr ⟨q,PySem.W.cellsFrom_some _ _ _ (.inl q)⟩
 refine codeAny_call_generator hr.depth (KX _ _ lk) rfl S.co S.gen rfl (YD KX hcd) (hb _ _ _ _ ?_);refine YB S.kind kinds fun env he s1 x=>?_
 subst he;have lim1:s1.heap.NoLimit:=lim.keeps x.toInCall.keep;refine⟨lim1,?_⟩;obtain⟨h1,tk,es1,_⟩:=x.done;have os1:s1.os=s.os:=by rw[es1]
 have gen1:s1.gens=s.gens:=by rw[es1]
 have lt1:s.heap.objs.size<s1.heap.objs.size:=x.toInCall.ns.lt;have kp1:∀b o,s.heap.get? b=some o→s1.heap.get? b=some o:=x.toInCall.keep;generalize hL:s1.heap.objs.size=L at lt1
 have main:∀(go:Obj) (nm qn:Value) (tk2:Nat),go.cls=.type "generator" → go.data=.fields #[.int s1.gens.size 0,nm,qn]→go.slots = #[]→(∀h:Heap,(h.push go).get? h.objs.size=some go) →
   MadeL P w K mg base cl (k+1) outer H s m ps.length N.length vs (.ref L) { s1 with gens:=s1.gens.push (.fresh (.func body (envOfC qual scope s.heap.objs.size f cdv))),toks:=tk2,heap:=s1.heap.push go }:=by
  intro go nm qn tk2 hgc hgd0 hgs hgp;have isg:∀h:Heap,h.get? L=some go→h.IsGen L s1.gens.size:=fun h e=>⟨go,nm,qn,e,hgc,hgd0,hgs⟩
  have pushed:(s1.heap.push go).get? L=some go:=by rw[←hL];exact hgp _
  have ab:AllBare (s1.gens.push (.fresh (.func body (envOfC qual scope s.heap.objs.size f cdv)))):=AllBare.push (by rw[gen1];exact e0.bare) rfl
  refine⟨L,go,s1.gens.size,_,N,qual,scope,f,cdv,rfl,∅,pushed,(fun v q=>by rw[hgd0]at q;cases q),isg,Array.getElem?_push_size ..,os1,ab,lim1.keeps fun b o e=>Jo _ e,fun b o e=>Jo _ (kp1 b o e),?_⟩
  intro Aw hrw hfr g hg;have e0w:Env0 P w K mg base Aw outer s H:=⟨hfr,e0.mod,e0.bs,e0.bsz,e0.funs,e0.frf,e0.hok,e0.bare⟩;have I1:Inv (gcxOf P w K mg base N qual scope f cdv Aw outer s H (fun _ _ _=>False) []) [] (L2.start N vs) H s1:=inv_startG S hrw.hd e0w hl r x
  have I2:Inv (gcxOf P w K mg base N qual scope f cdv Aw outer s H (fun _ _ _=>False) []) [] (L2.start N vs) H { s1 with gens:=s1.gens.push (.fresh (.func body (envOfC qual scope s.heap.objs.size f cdv))),toks:=tk2,heap:=s1.heap.push go } :=
   I1.call' (ch:=[]) rfl (Un.kept fun b o e=>Jo _ e) (I1.hok.kept fun b o e=>Jo _ e) ab fun b z=>by simp at z
  have hln:ps.length≤N.length:=by have:=congrArg List.length S.pre;rw[List.length_take]at this;omega
  refine⟨fun b hb=>?_,⟨s,H,[],⟨H,0,H⟩,[],0⟩,L2.start N vs,by rw[hg];rfl,by rw[hg];exact I2,fun ws G hw hr2=>zPG hw hln hr2,?_⟩
  ·have lt_L:∀o,s1.heap.get? b=some o→b<L:=fun o e=>by rw[←hL];exact JB e
   rcases Gf.own_of hb with e|⟨y,e⟩
   ·rw[hg]at e;have e:b=s.heap.objs.size:=e;obtain⟨o,_,_,ho,_⟩:=x.toInCall.ns;rw[e];exact⟨Jq _,VA lt1,o,Jo _ ho⟩
   ·rw[hg]at e;have e':(gcxOf P w K mg base N qual scope f cdv Aw outer s H (fun _ _ _=>False) []).env.cells.lookup y=some b:=e
    obtain⟨v,ob,ho,_⟩:=I1.cell y b e';exact⟨I1.ok.cab y b rfl e',VA (lt_L ob ho),ob,Jo _ ho⟩
  intro W s2 xx G H2 σ0 hw hi hbud hgs S0 acc;have ht:=hbody Aw outer s.heap.objs.size (hrw.deeper _);rw[←hg]at ht;have ev:g.env=envOfC qual scope s.heap.objs.size f cdv:=by rw[hg]
  have gP:g.P=P:=by rw[hg]
  have gw:g.w=w:=by rw[hg]
  have gA:g.A=Aw:=by rw[hg]
  have key:=ht.run W W.Bud s2 s2 (.func body (envOfC qual scope s.heap.objs.size f cdv)) [] (fun f=>.pure (.done (.ret (match f with | .ret v=>v|_=>.none)))) (fun e=>(leaving (envOfC qual scope s.heap.objs.size f cdv) e).wrap (fun _=>.raise e) .raise id id) id id
   xx [] G σ0 [] [] _ H2 ⟨by rw[gA,ev];exact over_func,rfl,rfl,rfl⟩ ⟨Nat.add_zero _,hbud⟩ hi hw hgs (by rw[hg];exact S0) ?_ ?_
  ·refine seg_func ?_
   rw[gP,gw,gA,ev]at key;exact key
  ·generalize m σ0 [] []=r at acc;cases r with
   |no ys=>exact⟨by rw[acc.1];exact Je _,acc.2⟩
   |ok fl σ st ys =>
    cases fl with
    |nx =>
     refine⟨by rw[acc.1];exact Je _,fun n s₀ s3 x' ρ' G' τ' H' fl hn hi' hw' hg' hf=>?_⟩
     obtain⟨rfl,_⟩:=hf;exact seg_end (.ok (.ret .none)) (.inl ⟨.inl rfl,x',ρ',G',st,τ',H',hw',hg',by rw[hi',acc.1],acc.2,by rw[hi'];exact hn.1⟩)
    |rt u =>
     cases u with
     |r i=>exact acc.elim
     |p y =>
      cases y with
      |non =>
       refine⟨by rw[acc.1];exact Je _,fun n s₀ s3 x' ρ' G' τ' H' fl hn hi' hw' hg' hf=>?_⟩
       obtain⟨v,u,hv,hr,rfl⟩:=hf;cases hv;have eu:u=Value.none:=hr;subst eu;exact seg_end (.ok (.ret .none)) (.inl ⟨.inl rfl,x',ρ',G',st,τ',H',hw',hg',by rw[hi',acc.1],acc.2,by rw[hi'];exact hn.1⟩)
      |_=>exact acc.elim
    |bk=>exact acc.elim
    |ct=>exact acc.elim
  ·intro n s₀ e s3 x' hok hx;refine seg_wrap ?_
   have hx:wpAny (model g.P g.w) (g.A.deeper (envOfC g.qual g.scope x'.s0.heap.objs.size g.f g.cd)) (leaving (envOfC g.qual g.scope x'.s0.heap.objs.size g.f g.cd) e) (fun _ s''=>CX g.P g.w g.outer x'.H0 x'.s0 (fun _ _ _=>False) e s''∧∀p∈x'.pn,s''.heap.get? p.1=some p.2) (fun _ _=>False) s3:=hx
   have hok:x'.s0.heap.objs.size=g.n0:=hok;rw[hok]at hx;have ev2:envOfC g.qual g.scope g.n0 g.f g.cd=envOfC qual scope s.heap.objs.size f cdv:=ev;rw[ev2]at hx;rw[over_func];refine V5 hx ?_ ?_
   ·intro _ s4 q;obtain⟨⟨_,_,_,_,_,_,_,_,_,_,_,_,q⟩,_⟩:=q;exact q.elim
   ·exact fun _ s4 q=>q.elim
 exact hL▸main _ _ _ _ rfl rfl rfl fun h=>JH _ rfl
structure Lk (P:Program) (w:World) (K:PySem.W.Frag) (mg:Str→Option Value) (base:Heap) (cl:Cls) (k:Nat) (f:Addr) (ps:List Str) (Nn:Nat) (m:LMn):Prop where
 ex:∃fd,GenL P w K mg base cl k f fd ps Nn m∧Binds K fd ps []
 kp:PySem.W.keepIn K (.ref f)=true
structure FXL (k:Nat) (g:Gf):Prop where
 gx:∀x,g.Ok x→GX g.K (g.X x)
 tk:∀x,g.Ok x→Takes (g.X x) WN
 own:∀x,g.Ok x→PassesOwn (model (g.X x).prog (g.X x).w) (g.X x).A (g.X x).env (g.X x).xe
 rm:∀x,g.Ok x→Room k (g.X x).A
section
variable {K:PySem.W.Frag}{cl:Cls}
theorem Lk.of{P:Program}{w:World}{mg:Str→Option Value}{base:Heap}{N ps:List Str}{x qual:Str}{params:Arguments}{body:List Stmt}{scope:Scope}{f:Addr}{k:Nat}{m:LMn}
  (F:∃fd,FunD K x qual params body scope [] [] f fd) (S:GScope N ps scope) (bd:∀(kV doc pm:Value) (an:Option Addr) (cdv ct:Value) (us:List Value),us.length=ps.length→bindArgs (PySem.W.fnOf x qual params body scope .none kV doc pm an cdv ct) ⟨us,[]⟩=pure (ps.zip us))
  (hb:∀(cd:Value) (A:Around) (outer:List Env) (n0:Nat),FXL k ⟨P,w,K,mg,base,cl,N,qual,scope,f,cd,A,outer,n0⟩→YLs ⟨P,w,K,mg,base,cl,N,qual,scope,f,cd,A,outer,n0⟩ m body) :
  Lk P w K mg base cl (k+1) f ps N.length m:=by
 obtain⟨fd,F⟩:=F;refine⟨⟨fd,?_,F.bindsN bd⟩,F.kp⟩;obtain⟨oc,od,dV,kV,doc,pm,an,cdv,ct,osl,rfl,lk,hcd,_,_⟩:=F.ex;refine zRM lk hcd S fun A outer n0 hr=>hb cdv A outer n0 ⟨fun y hy=>?_,fun y hy=>takes_gcx,fun y hy=>owns_gcx,fun y hy=>?_⟩
 ·have eA:=Gf.AX hy;refine⟨rfl,rfl,S.nd,?_,?_⟩
  ·rw[eA]
   have:=hr.un
   show(A.deeper (envOfC qual scope n0 f cdv)).units+65<cLine;omega
  ·rw[eA];exact hr.hd
 ·rw[Gf.AX hy];exact hr
end
section
variable {K:PySem.W.Frag}{cl:Cls}{E0 E1:En}{ρ ρg ρg' ρ':List Addr}{G G':Hp}{st stg stg' st':List Cell}{H H':Hp}
def Dsj(E0:En) (ρ ρg:List Addr):Prop:=∀b∈ρg,(∀j:Nat,ρ[j]?≠some b)∧E0.H0 b=none
def trk(H:Hp) (L:List Addr) (h:Heap):Hp:=fun b=>if b∈L then(h.get? b).map (exq b)else H b
theorem trk_in{L:List Addr}{h:Heap}{b:Addr} (m:b∈L){o:Obj} (e:h.get? b=some o):trk H L h b=some (exq b o):=by
 unfold trk;rw[Jm m,e];rfl
theorem zMY{L:List Addr}{h:Heap}{b:Addr} (m:b∉L):trk H L h b=H b:=Js m
def zQt(E0:En) (Hb:Hp) (L ρg:List Addr) (G:Hp):En:=⟨fun b=>if b∈L++ρg then Hb b else E0.H0 b,E0.n0,G⟩
theorem Rel.body{L:List Addr}{h:Heap} (R:Rel K cl E0 ρ G st H) (Rg:Rel K cl E1 ρg G stg H) (d:Dsj E0 ρ ρg) (hL:∀b∈L,H b=none∧∃o,h.get? b=some o):Rel K cl (zQt E0 (trk H L h) L ρg G) ρ G st (trk H L h):=by
 have off:∀a u,H a=some u→a∉L:=fun a u e m=>by rw[(hL a m).1]at e;cases e
 have up:∀a u,H a=some u→trk H L h a=some u:=fun a u e=>by rw[zMY (off a u e)];exact e
 have at_:∀(i:Nat) a,ρ[i]?=some a→a∉L++ρg:=fun i a e m=>by
  rcases JC.mp m with m|m
  ·obtain⟨o,q⟩:=R.there e;exact off a o q m
  ·exact(d a m).1 i e
 have hin:∀a,a∈L++ρg→(zQt E0 (trk H L h) L ρg G).H0 a=trk H L h a:=fun a m=>Jm m
 have hout:∀a,a∉L++ρg→(zQt E0 (trk H L h) L ρg G).H0 a=E0.H0 a:=fun a m=>Js m
 refine⟨R.len,R.nd,fun i c a e1 e2=>?_,R.sep,fun a u e=>up a u (R.sub a u e),fun a u e q=>?_,fun i a hi e=>?_,R.n0,fun a o e=>.inl e,fun a u e=>?_,R.gnt,fun q hq=>(R.tabs q hq).ext up⟩
 ·obtain⟨o,q⟩:=R.there e2;exact(R.cell i c a e1 e2).mono (Je _) (Sub.refl _) ((up a o q).trans q.symm)
 ·by_cases m:a∈L++ρg
  ·rw[hin a m]at e;exact e
  ·rw[hout a m]at e;exact up a u (R.old a u e q)
 ·rw[hout a (at_ i a e)];exact R.new i a hi e
 ·by_cases m:a∈L++ρg
  ·rw[hin a m]at e
   by_cases m2:a∈L
   ·obtain⟨o,q⟩:=(hL a m2).2;rw[trk_in m2 q]at e;cases e;exact fun ps z=>nomatch z
   ·rw[zMY m2]at e;have m3:a∈ρg:=(JC.mp m).resolve_left m2;obtain⟨j,hj⟩:=Ve m3;intro ps z;subst z;exact(Rg.tblF e).1 j hj
  ·rw[hout a m]at e;exact R.ent a u e
end
structure Lp where
 K:PySem.W.Frag
 cl:Cls
 X:Cx
 Wx:WX
 E0:En
 pins:List (Addr×Obj)
 ρ1:List Addr
 G1:Hp
 kont:Nat→Sg→List Cell→SR
 D:Ends
 g:Gf
 a:Addr
 go:Obj
 gi:Nat
 xs:List Addr
 yf:List P
 fin:Bool
section
open GenW GT
section
variable {L:Lp}{i:Nat}{ρ ρg:List Addr}{G H:Hp}{σ σg:Sg}{st stg:List Cell}{τ τg:L2.St}{gs:GenState}{s:Shared}
def Lp.obs(L:Lp):List Addr:=L.a::(L.g.own++L.xs)
end
end
section
open PySem.W PySem.Calls HandSHeadRun
noncomputable section
variable {fa fb:List He.Fa}{fn fm:List He.DefD}{ts:List He.Tab}{tf:List He.Defn}{ex:PySem.W.Frag→Bool}{es:List DefE}
theorem zMi{as:List Addr}{w:World}{h:Heap}
  (e:((fun K:PySem.W.Frag=>(((He.obsT fa fn ts K,ex K&&He.tabsB h.get? tf K),(es.all fun d=>d.okB K),es.map fun d=>fnE K (d.at_ K)):AlE)) (He.frT h.get? as))=zOY fn ts es w):SaysE fa fn ts tf ex es w h (He.frT h.get? as):=by
 generalize hK:He.frT h.get? as=K at *
 have e1:He.obsT fa fn ts K=He.valT fn ts w:=congrArg (fun z:AlE=>z.1.1) e
 have e2:(ex K&&He.tabsB h.get? tf K)=true:=congrArg (fun z:AlE=>z.1.2) e
 have e3:(es.all fun d=>d.okB K)=true:=congrArg (fun z:AlE=>z.2.1) e
 have e4:(es.map fun d=>fnE K (d.at_ K))=es.map DefE.val:=congrArg (fun z:AlE=>z.2.2) e
 rw[Jj]at e2
 have key:∀p∈tf,PySem.W.codeHdIn K (He.cT K p).1 (He.cT K p).2=true∧∃o,h.get? (He.cT K p).2=some o∧He.emptyTab o=true:=fun p hp=>by
  have z:=Jp.mp e2.2 p hp;rw[Jj]at z;refine⟨z.1,?_⟩;have z2:=z.2;cases q:h.get? (He.cT K p).2 with
  |none=>rw[q]at z2;cases z2
  |some o=>rw[q]at z2;exact⟨o,rfl,z2⟩
 refine⟨⟨e1,e2.1,fun p hp=>(key p hp).1,fun p hp=>?_,fun p hp=>?_⟩,e4,e3⟩
 ·obtain⟨_,o,q,z⟩:=key p hp
  have:=He.frT_none (as:=as) q z
  rw[hK]at this;exact this
 ·obtain⟨_,o,q,z⟩:=key p hp;rw[q,He.emptyTab_eq z]
def refV:Value→List Addr
 | .ref a=>[a]
 |_=>[]
def refO(o:Obj):List Addr:=match o.data with
 | .func e=>refV e.code++(refV e.defaults++(refV e.kwdefaults++e.closure.map (·.2)))
 | .cls c=>[c.ns]
 | .dict es _=>es.toList.flatMap fun e=>refV e.val
 | .seq xs _=>xs.toList.flatMap refV
 | .fields vs=>(match o.cls with
  | .type "code" => []
  | .none=>[]
  |_=>vs.toList.flatMap refV)
 | .cell v=>(match v with
  |some v=>refV v
  |none=>[])
 | .prim v=>refV v
 |_=>[]
def lvlR(g:Addr→Option Obj) (l:List Addr):List Addr:=l.flatMap fun a=>match g a with
 |some o=>refO o
 |none=>[]
def upR(g:Addr→Option Obj):Nat→List Addr→List Addr
 |0,l=>l
 |n+1,l=>l++upR g n (lvlR g l)
def asR(g:Addr→Option Obj):List Addr:=cStatics::upR g 5 [mainGlobals]
def frR(g:Addr→Option Obj):PySem.W.Frag:=He.frT g (asR g)
def obsR(fa:List He.Fa) (fn:List He.DefD) (ts:List He.Tab) (tf:List He.Defn) (ex:PySem.W.Frag→Bool) (es:List DefE) (g:Addr→Option Obj):AlE :=
 (fun K:PySem.W.Frag=>(((He.obsT fa fn ts K,ex K&&He.tabsB g tf K),(es.all fun d=>d.okB K),es.map fun d=>fnE K (d.at_ K)):AlE)) (frR g)
def zRW(fa:List He.Fa) (fn:List He.DefD) (ts:List He.Tab) (tf:List He.Defn) (ex:PySem.W.Frag→Bool) (es:List DefE):PySem.W.Hook where
 α:=AlE
 obs:=fun s=>obsR fa fn ts tf ex es s.heap.get?
 val:=fun w=>zOY fn ts es w
 says:=fun w h=>∃K:PySem.W.Frag,K.In h∧SaysE fa fn ts tf ex es w h K
 of:=fun _ _ e=>⟨_,He.frT_in,zMi e⟩
 keeps:=fun _ _ _ ⟨K,hK,c⟩ k=>⟨K,PySem.W.Frag.In.keeps hK k,⟨⟨c.x.t,c.x.more,c.x.hd,c.x.out,fun p hp=>k _ _ (c.x.empty p hp)⟩,c.e,c.ok⟩⟩
def obR(fa:List He.Fa) (fn:List He.DefD) (ts:List He.Tab) (tf:List He.Defn) (ex:PySem.W.Frag→Bool) (es:List DefE) (s:PySem.W.SharedT):AlE:=obsR fa fn ts tf ex es (getT s)
theorem obR_eq(s:PySem.W.SharedT):obR fa fn ts tf ex es s=(zRW fa fn ts tf ex es).obs s.abs:=by
 have e:getT s=s.abs.heap.get?:=funext (getT_eq s);show obsR fa fn ts tf ex es (getT s)=obsR fa fn ts tf ex es s.abs.heap.get?;rw[e]
def hFaR(fa:List He.Fa) (s:PySem.W.SharedT):Bool:=(fun K:PySem.W.Frag=>fa.all fun f=>f.ok K) (frR (getT s))
def hFnR(fn:List He.DefD) (s:PySem.W.SharedT):He.AlD:=(fun K:PySem.W.Frag=>(fn.all fun d=>d.ok K,fn.map fun d=>He.fnW K d.at_)) (frR (getT s))
def zID(ts:List He.Tab) (tf:List He.Defn) (ex:PySem.W.Frag→Bool) (es:List DefE) (s:PySem.W.SharedT):(List (Option (List (Option (PySem.Str×Int))))×Bool)×(Bool×List FnE) :=
 (fun K:PySem.W.Frag=>((ts.map fun t=>He.dicW K (t.1 K),ex K&&He.tabsB (getT s) tf K),(es.all fun d=>d.okB K),es.map fun d=>fnE K (d.at_ K))) (frR (getT s))
variable {r:OpenRow}{M:Nat}{w:World}
theorem run_fnR(a:RunH r M w (hFnR fn) (He.valD fn)) (b:RunH r M w (hFnR fm) (He.valD fm)):RunH r M w (hFnR (fn++fm)) (He.valD (fn++fm)):=fun os=>by
 obtain⟨s,e,h1,h2⟩:=two2 (a os) (b os);rw[e];unfold hFnR He.valD at *
 show some _=_
 congr 1
 simp only[YU]at *
 exact⟨by rw[List.all_append,h1.1,h2.1];rfl,by rw[JV,JV,h1.2,h2.2]⟩
theorem zHR(a:RunH r M w (hFaR fa) true) (b:RunH r M w (hFnR fn) (He.valD fn)) (c:RunH r M w (zID ts tf ex es) (zLr ts es w)):RunB r (zRW fa fn ts tf ex es) (obR fa fn ts tf ex es) M w:=fun os=>by
 obtain⟨s,e,h1,h2⟩:=two2 (a os) (b os);have h3:=c os;rw[e]at h3 ⊢;have h3:zID ts tf ex es s=zLr ts es w:=Jd h3;show some (obR fa fn ts tf ex es s)=some (zOY fn ts es w)
 congr 1
 unfold hFaR at h1;dsimp only at h1;unfold hFnR He.valD at h2;unfold zID zLr at h3;unfold obR obsR zOY He.valX He.valT He.valD He.obsT He.obsD;simp only[YU]at h2 h3 ⊢;obtain⟨⟨h4,h5⟩,h6,h7⟩:=h3;exact⟨⟨⟨⟨by rw[h1,h2.1];rfl,h2.2⟩,h4⟩,h5⟩,h6,h7⟩
end
end
theorem rm{j k:Nat}{A:Around} (r:Room k A) (h:j≤k:=by decide):Room j A:=r.mono h
section
variable {X:Cx}{CX:CXT}{k:Nat}{f:Addr}{fd:FuncData}{ps:List Str}{sp:Sp}{x:Str}{p pos:Pos}{e tg:Expr}{es:List Expr}{t:TA}{te:TE}{g:TG}{E:XK}{ds:List Value}{dvs:List V}
theorem PAT.of(h:PA X es t):PAT X es t:=fun pos pins s σ H Q _ I q=>h.run pos pins s σ H Q I q
end
end Y
namespace YZ
end YZ
namespace YS
end YS
namespace K33
open Y YZ YS
def top(i:Nat):Stmt:=PySem.Challenge.pw_sharesay_k33_texts_that_are_no_questions.main.body.getD i (.Pass ⟨0,0,0,0⟩)
def clsB:Stmt→List Stmt
 | .ClassDef (body:=b) .. => b
 |_=>[]
abbrev zC8:Stmt:=(top 35)
abbrev zBM:Stmt:=(top 49)
abbrev zCb:Stmt:=(top 50)
abbrev zCa:Stmt:=(top 36)
abbrev zDl:Stmt:=(top 37)
abbrev zDH:Stmt:=(top 44)
abbrev zCc:Stmt:=(top 45)
abbrev zB9:Stmt:=(top 38)
abbrev zCE:Stmt:=(top 47)
abbrev zCe:Stmt:=(top 46)
abbrev zBK:Stmt:=(top 55)
abbrev zBJ:Stmt:=(top 54)
abbrev zA6:Stmt:=(top 57)
abbrev zA8:Stmt:=(top 56)
abbrev zBB:Stmt:=(top 43)
abbrev zBu:Stmt:=(top 51)
abbrev zBc:Stmt:=(top 52)
abbrev zCB:Stmt:=(top 48)
abbrev zBL:Stmt:=(top 53)
abbrev zCW:Stmt:=(top 39)
abbrev zBE:Stmt:=((clsB (top 31)).getD 3 (.Pass ⟨0,0,0,0⟩))
abbrev zBd:Stmt:=((clsB (top 32)).getD 0 (.Pass ⟨0,0,0,0⟩))
abbrev zBY:Stmt:=((clsB (top 32)).getD 1 (.Pass ⟨0,0,0,0⟩))
abbrev zAj:Stmt:=((clsB (top 32)).getD 2 (.Pass ⟨0,0,0,0⟩))
abbrev zA9:Stmt:=((clsB (top 32)).getD 4 (.Pass ⟨0,0,0,0⟩))
abbrev zBC:Stmt:=((clsB (top 32)).getD 3 (.Pass ⟨0,0,0,0⟩))
abbrev zCY:Stmt:=(top 33)
abbrev zA7:Stmt:=((clsB (top 32)).getD 7 (.Pass ⟨0,0,0,0⟩))
abbrev zBZ:Stmt:=((clsB (top 32)).getD 6 (.Pass ⟨0,0,0,0⟩))
abbrev zBX:Stmt:=((clsB (top 32)).getD 5 (.Pass ⟨0,0,0,0⟩))
abbrev zCA:Stmt:=(top 10)
abbrev zCC:Stmt:=(top 11)
abbrev zBV:Stmt:=(top 21)
abbrev zDJ:Stmt:=(top 22)
abbrev zDE:Stmt:=(top 23)
abbrev zCh:Stmt:=(top 24)
abbrev zCX:Stmt:=(top 29)
abbrev zCF:Stmt:=(top 30)
abbrev zBD:Stmt:=((clsB (top 31)).getD 1 (.Pass ⟨0,0,0,0⟩))
abbrev zBF:Stmt:=((clsB (top 31)).getD 2 (.Pass ⟨0,0,0,0⟩))
abbrev zEr:Stmt:=(top 58)
abbrev zDZ:Stmt:=(top 41)
abbrev zCd:Stmt:=(top 40)
abbrev zC3:Stmt:=(top 42)
abbrev zBk:Stmt:=((clsB (top 5)).getD 0 (.Pass ⟨0,0,0,0⟩))
abbrev zCO:DefE:=⟨fun K=>He.ma K (He.ga K "InvalidQuestion") "__init__", "__init__", "InvalidQuestion.__init__",defArgs zBk,defBody zBk,defScope zBk,["__class__"]⟩
abbrev zDX:Stmt:=((clsB (top 6)).getD 0 (.Pass ⟨0,0,0,0⟩))
abbrev zFN:DefE:=⟨fun K=>He.ma K (He.ga K "TooMany") "__init__", "__init__", "TooMany.__init__",defArgs zDX,defBody zDX,defScope zDX,["__class__"]⟩
abbrev zCN:Stmt:=((clsB (top 7)).getD 0 (.Pass ⟨0,0,0,0⟩))
abbrev zDW:DefE:=⟨fun K=>He.ma K (He.ga K "InvalidText") "__init__", "__init__", "InvalidText.__init__",defArgs zCN,defBody zCN,defScope zCN,["__class__"]⟩
abbrev zFr:DefE:=⟨fun K=>(zBn K (He.ga K "Question") "tree").2, "tree", "Question.tree",defArgs zBE,defBody zBE,defScope zBE,[]⟩
abbrev zFs:DefE:=⟨fun K=>(He5.wf K (He.ga K "Question") "classmethod" "read"), "read", "Question.read",defArgs zBF,defBody zBF,defScope zBF,[]⟩
def lamQ:Str:=(envOfC "law" (defScope zEr) 0 0 .none).qual++("<lambda>" : Str)
def lamsL:List LamR:=[zO7 zEr [12,2] [0,1,1],zO7 zEr [15] [0,0,1]]
def cl(K:PySem.W.Frag) (fr:List (Str×List (Str×Addr))):Cls := { l:=[(He.ga K "Question",(["shape", "leaves", "written"]:List Str)),(He.ga K "Reader",(["words", "at"]:List Str)),(0,([]:List Str)),(0,([]:List Str)),(0,([]:List Str)),(0,([]:List Str)),(0,([]:List Str)),(0,([]:List Str)),(0,([]:List Str)),(0,([]:List Str)),(0,([]:List Str)),(0,([]:List Str)),(0,([]:List Str)),(0,([]:List Str)),(0,([]:List Str)),(0,([]:List Str)),(0,([]:List Str)),(0,([]:List Str)),(0,([]:List Str)),(0,([]:List Str)),(0,([]:List Str)),(0,([]:List Str)),(0,([]:List Str)),(0,([]:List Str)),(0,([]:List Str)),(0,([]:List Str)),(0,([]:List Str)),(0,([]:List Str)),(0,([]:List Str)),(He.ga K "InvalidQuestion",(["tag"]:List Str)),(He.ga K "TooMany",(["most", "tag"]:List Str)),(He.ga K "InvalidText",(["tag"]:List Str))],tb:=[((He.cT K ("law",none)).2,lamQ)],lm:=lamsL,fr:=fr }
theorem clsm{K:PySem.W.Frag}{fr:List (Str×List (Str×Addr))}:∀(c:Nat) (C:Addr) (ns:List Str),(cl K fr)[c]?=some (C,ns)→ns.length<1000:=by
 intro c C ns h;have hm:=Jn h;simp only[cl,Jr,VL,bv]at hm;rcases hm with hm|hm|hm|hm|hm|hm|hm|hm|hm|hm|hm|hm|hm|hm|hm|hm|hm|hm|hm|hm|hm|hm|hm|hm|hm|hm|hm|hm|hm|hm|hm|hm<;>(cases hm;decide)
theorem fld1{K:PySem.W.Frag}{cl:Cls}{fn:Str}{c i:Nat} (h:zGW K cl fn c i):∀q∈[(c,i)],zGW K cl fn q.1 q.2:=fun q m=>by
 have e:q=(c,i):=by simpa using m
 rw[e];exact h
def zFC:List (Str×Str):=[("at least", ">="),("at most", "<="),("equal", "=")]
def fa0:List He.Fa:=([.glo "_law_bag",.glo "_law_sum_text",.glo "_law_text",.glo "_law_pull",.glo "_law_of",.glo "_law_sum",.glo "_law_atom",.glo "_law_mixed",.glo "_law_depth",.glo "_law_tree",.glo "_law_read_all",.glo "_law_read_any"]:List He.Fa)++([.glo "_law_read_atom",.glo "_law_read_part",.glo "_law_is_number",.glo "_law_is_sum",.glo "_law_is_tree",.glo "_law_atoms",.glo "_law_tree_due",.glo "_law_same",.glo "is_digit",.glo "is_number",.glo "is_within",.glo "are_factors"]:List He.Fa)++([.glo "is_atom",.glo "is_tree",.glo "atoms_in",.glo "sum_text",.glo "tree_text",.glo "law",.glo "_law_try",.glo "_law_field",.glo "_law_word",.glo "InvalidQuestion",.glo "TooMany",.glo "InvalidText"]:List He.Fa)++([.glo "Question",.glo "Reader",.glo "SIGNS_OF",.glo "Missing",.glo "NothingLeft",.glo "SayError",.free "abs",.free "all",.free "any",.free "bool",.free "int",.free "isinstance"]:List He.Fa)++([.free "len",.free "list",.free "max",.free "range",.free "str",.free "super",.free "tuple",.free "zip",.int "MOST_ATOMS" 3,.int "MOST_BOUND" 9,.int "MOST_BRACKETS" 12,.int "MOST_DEPTH" 4]:List He.Fa)++([.int "MOST_FACTOR" 3,.int "MOST_PARTS" 4,.int "MOST_TEXT" 250,.exm "InvalidQuestion" "SayError" true,.exm "InvalidText" "SayError" true,.exm "TooMany" "SayError" true,.cls "Question",.mkr "Question",.cls "Reader",.mkr "Reader",.meth "Reader" "all_of",.meth "Reader" "any_of"]:List He.Fa)++([.meth "Reader" "atom",.meth "Reader" "ending",.meth "Reader" "joined_parts",.meth "Reader" "next",.meth "Reader" "part",.noat "Question" "leaves",.noat "Question" "shape",.noat "Question" "written",.noat "Reader" "at",.noat "Reader" "words"]:List He.Fa)
def fa:List He.Fa:=fa0
def fn0:List He.DefD:=([⟨("_law_bag",none), "_law_bag", "_law_bag",defArgs zC8,defBody zC8,defScope zC8,[],[]⟩,⟨("_law_sum_text",none), "_law_sum_text", "_law_sum_text",defArgs zBM,defBody zBM,defScope zBM,[],[]⟩,⟨("_law_text",none), "_law_text", "_law_text",defArgs zCb,defBody zCb,defScope zCb,[],[]⟩,⟨("_law_pull",none), "_law_pull", "_law_pull",defArgs zCa,defBody zCa,defScope zCa,[],[]⟩,⟨("_law_of",none), "_law_of", "_law_of",defArgs zDl,defBody zDl,defScope zDl,[],[]⟩,⟨("_law_sum",none), "_law_sum", "_law_sum",defArgs zDH,defBody zDH,defScope zDH,[],[]⟩,⟨("_law_atom",none), "_law_atom", "_law_atom",defArgs zCc,defBody zCc,defScope zCc,[],[]⟩,⟨("_law_mixed",none), "_law_mixed", "_law_mixed",defArgs zB9,defBody zB9,defScope zB9,[],[]⟩,⟨("_law_depth",none), "_law_depth", "_law_depth",defArgs zCE,defBody zCE,defScope zCE,[],[]⟩,⟨("_law_tree",none), "_law_tree", "_law_tree",defArgs zCe,defBody zCe,defScope zCe,[],[]⟩,⟨("_law_read_all",none), "_law_read_all", "_law_read_all",defArgs zBK,defBody zBK,defScope zBK,[],[]⟩,⟨("_law_read_any",none), "_law_read_any", "_law_read_any",defArgs zBJ,defBody zBJ,defScope zBJ,[],[]⟩]:List He.DefD)++([⟨("_law_read_atom",none), "_law_read_atom", "_law_read_atom",defArgs zA6,defBody zA6,defScope zA6,[],[]⟩,⟨("_law_read_part",none), "_law_read_part", "_law_read_part",defArgs zA8,defBody zA8,defScope zA8,[],[]⟩,⟨("_law_is_number",none), "_law_is_number", "_law_is_number",defArgs zBB,defBody zBB,defScope zBB,[],[]⟩,⟨("_law_is_sum",none), "_law_is_sum", "_law_is_sum",defArgs zBu,defBody zBu,defScope zBu,[],[]⟩,⟨("_law_is_tree",none), "_law_is_tree", "_law_is_tree",defArgs zBc,defBody zBc,defScope zBc,[],[]⟩,⟨("_law_atoms",none), "_law_atoms", "_law_atoms",defArgs zCB,defBody zCB,defScope zCB,[],[]⟩,⟨("_law_tree_due",none), "_law_tree_due", "_law_tree_due",defArgs zBL,defBody zBL,defScope zBL,[],[]⟩,⟨("_law_same",none), "_law_same", "_law_same",defArgs zCW,defBody zCW,defScope zCW,[],[]⟩,⟨("Reader",some "__init__"), "__init__", "Reader.__init__",defArgs zBd,defBody zBd,defScope zBd,[],[]⟩]:List He.DefD)
def fn1:List He.DefD:=([⟨("Reader",some "next"), "next", "Reader.next",defArgs zBY,defBody zBY,defScope zBY,[],[]⟩,⟨("Reader",some "joined_parts"), "joined_parts", "Reader.joined_parts",defArgs zAj,defBody zAj,defScope zAj,[],[]⟩,⟨("Reader",some "all_of"), "all_of", "Reader.all_of",defArgs zA9,defBody zA9,defScope zA9,[],[]⟩,⟨("Reader",some "any_of"), "any_of", "Reader.any_of",defArgs zBC,defBody zBC,defScope zBC,[],[]⟩,⟨("is_digit",none), "is_digit", "is_digit",defArgs zCY,defBody zCY,defScope zCY,[],[]⟩,⟨("Reader",some "ending"), "ending", "Reader.ending",defArgs zA7,defBody zA7,defScope zA7,[],[]⟩,⟨("Reader",some "atom"), "atom", "Reader.atom",defArgs zBZ,defBody zBZ,defScope zBZ,[],[]⟩,⟨("Reader",some "part"), "part", "Reader.part",defArgs zBX,defBody zBX,defScope zBX,[],[]⟩,⟨("is_number",none), "is_number", "is_number",defArgs zCA,defBody zCA,defScope zCA,[],[]⟩,⟨("is_within",none), "is_within", "is_within",defArgs zCC,defBody zCC,defScope zCC,[],[]⟩,⟨("are_factors",none), "are_factors", "are_factors",defArgs zBV,defBody zBV,defScope zBV,[],[]⟩,⟨("is_atom",none), "is_atom", "is_atom",defArgs zDJ,defBody zDJ,defScope zDJ,[],[]⟩]:List He.DefD)++([⟨("is_tree",none), "is_tree", "is_tree",defArgs zDE,defBody zDE,defScope zDE,[],[]⟩,⟨("atoms_in",none), "atoms_in", "atoms_in",defArgs zCh,defBody zCh,defScope zCh,[],[]⟩,⟨("sum_text",none), "sum_text", "sum_text",defArgs zCX,defBody zCX,defScope zCX,[],[]⟩,⟨("tree_text",none), "tree_text", "tree_text",defArgs zCF,defBody zCF,defScope zCF,[],[]⟩,⟨("Question",some "__init__"), "__init__", "Question.__init__",defArgs zBD,defBody zBD,defScope zBD,[],[]⟩,⟨("law",none), "law", "law",defArgs zEr,defBody zEr,defScope zEr,[],[]⟩,⟨("_law_try",none), "_law_try", "_law_try",defArgs zDZ,defBody zDZ,defScope zDZ,[],[]⟩,⟨("_law_field",none), "_law_field", "_law_field",defArgs zCd,defBody zCd,defScope zCd,[],[]⟩,⟨("_law_word",none), "_law_word", "_law_word",defArgs zC3,defBody zC3,defScope zC3,[],[]⟩]:List He.DefD)
def fn:List He.DefD:=fn0++(fn1)
def ts:List He.Tab:=[(fun K=>He.ga K "SIGNS_OF",zFC.map (·.1))]
def es:List DefE:=[zCO,zFN,zDW,zFr,zFs]
def tf:List He.Defn:=[("law",none)]
def exl(K:PySem.W.Frag):List Bool:=[He.valsB K (He.ga K "SIGNS_OF") (zFC.map fun q=>(q.1,He.Dv.str q.2)),excB K "InvalidQuestion" "/claim/cut.py" none,excB K "TooMany" "/claim/cut.py" (some "most"),excB K "InvalidText" "/claim/cut.py" none,zQK K (He.ga K "Question") "tree",cmB K (He.ga K "Question") "read"]
def ex(K:PySem.W.Frag):Bool:=(exl K).all id
def loose:List Str:=(["_wall", "__name__", "SayError", "Missing", "InvalidCounts", "InvalidQuestion", "TooMany", "InvalidText", "NothingLeft", "is_number", "is_within", "MOST_ATOMS"]:List Str)++(["MOST_DEPTH", "MOST_PARTS", "MOST_FACTOR", "MOST_BOUND", "MOST_TEXT", "MOST_BRACKETS", "SIGNS_OF", "are_factors", "is_atom", "is_tree", "atoms_in", "weighed"]:List Str)++(["atom_answer", "joined", "need_counts", "sum_text", "tree_text", "Question", "Reader", "is_digit", "_law_bag", "_law_pull", "_law_of", "_law_mixed"]:List Str)++(["_law_same", "_law_field", "_law_try", "_law_word", "_law_is_number", "_law_sum", "_law_atom", "_law_tree", "_law_depth", "_law_atoms", "_law_sum_text", "_law_text"]:List Str)++(["_law_is_sum", "_law_is_tree", "_law_tree_due", "_law_read_any", "_law_read_all", "_law_read_part", "_law_read_atom"]:List Str)
abbrev R:PySem.W.OpenRow:=PySem.W.OpenLaw.row PySem.Challenge.rw_sharesay_k33_texts_that_are_no_questions
abbrev hk:PySem.W.Hook:=zRW fa fn ts tf ex es
def ob(s:PySem.W.SharedT):AlE:=obR fa fn ts tf ex es s
theorem ob_eq(s:PySem.W.SharedT):ob s=hk.obs s.abs:=obR_eq s
section
open PySem.W PySem.Calls HandSHeadRun
theorem fileOf:Y.FileOf (PySem.Challenge.rw_sharesay_k33_texts_that_are_no_questions).prog "/claim/cut.py" := ⟨by kernel_rfl,by kernel_rfl⟩
theorem hj1:opening R.prog=plainProg R.prog.main.scope.names:=by kernel_rfl
theorem hj2:∀s,fenceModules? R.prog s=some s:=fun s=>by kernel_rfl
theorem hj3:defOf (view R.prog [58]) R.name=some (topDef R.prog 58,[]):=by kernel_rfl
theorem hj4:R.prog.theDef R.name=some ((topDef R.prog 58).params,(topDef R.prog 58).body,(topDef R.prog 58).scope):=by kernel_rfl
theorem hj5:kwWritten? (topDef R.prog 58).params.kwonlyargs (topDef R.prog 58).params.kw_defaults=some []:=by kernel_rfl
theorem hj6:(!R.writes||R.records.isEmpty)=true:=by rfl
theorem hj8:(chainsOk (view R.prog [58])&&opensWell R.prog&&(frees R.toRowW&&R.within.isEmpty))=true:=by decide +kernel
theorem hj9:R.prog.bare:=⟨rfl,rfl,rfl,rfl,rfl,⋯⟩
theorem hjw:R.toRowW.promised:=by w_witness2
end
theorem runFa(w:World):RunA R (PySem.W.view R.prog [58]) 60000 loose (w.withFollow "special-get-raises" false):=by
 intro os
 kernel_rfl
theorem zOu(w:World):RunH R 60000 (w.withFollow "special-get-raises" false) (hFaR fa0) true:=by
 intro os
 kernel_rfl
theorem zNs(w:World):RunH R 60000 (w.withFollow "special-get-raises" false) (hFnR fn0) (He.valD fn0):=by
 intro os
 kernel_rfl
theorem zOA(w:World):RunH R 60000 (w.withFollow "special-get-raises" false) (hFnR fn1) (He.valD fn1):=by
 intro os
 kernel_rfl
theorem zQj(w:World):RunH R 60000 (w.withFollow "special-get-raises" false) (zID ts tf ex es) (zLr ts es (w.withFollow "special-get-raises" false)):=by
 intro os
 kernel_rfl
theorem runFb(w:World):RunB R hk ob 60000 (w.withFollow "special-get-raises" false):=zHR (zOu w) (run_fnR (zNs w) (zOA w)) (zQj w)
theorem runTa(w:World):RunA R (PySem.W.view R.prog [58]) 60000 loose (w.withFollow "special-get-raises" true):=by
 intro os
 kernel_rfl
theorem zOl(w:World):RunH R 60000 (w.withFollow "special-get-raises" true) (hFaR fa0) true:=by
 intro os
 kernel_rfl
theorem zNx(w:World):RunH R 60000 (w.withFollow "special-get-raises" true) (hFnR fn0) (He.valD fn0):=by
 intro os
 kernel_rfl
theorem zNl(w:World):RunH R 60000 (w.withFollow "special-get-raises" true) (hFnR fn1) (He.valD fn1):=by
 intro os
 kernel_rfl
theorem zRz(w:World):RunH R 60000 (w.withFollow "special-get-raises" true) (zID ts tf ex es) (zLr ts es (w.withFollow "special-get-raises" true)):=by
 intro os
 kernel_rfl
theorem runTb(w:World):RunB R hk ob 60000 (w.withFollow "special-get-raises" true):=zHR (zOl w) (run_fnR (zNx w) (zNl w)) (zRz w)
theorem run(w:World):HandSHeadRun.RunEq R (PySem.W.view R.prog [58]) hk ob 60000 loose w :=
 PySem.W.byRow2 "special-get-raises" (P:=fun w=>HandSHeadRun.RunEq R (PySem.W.view R.prog [58]) hk ob 60000 loose w) (fun w=>zNG (runFa w) (runFb w)) (fun w=>zNG (runTa w) (runTb w)) w
section
open PySem.W PySem.Calls HandSHeadRun
/-- the looks at the law,early (less memory stands) -/
theorem early(hc:PySem.W.WalkO (view R.prog [58]) loose (XL (view R.prog [58]) []) hk.says R.toRowW (topDef R.prog 58) [] fun f vs=>PySem.call f vs):PySem.Challenge.rw_sharesay_k33_texts_that_are_no_questions.Holds:=by
 w_on;o_law
 refine HandSHeadRun.head_any (r:=R) (q:=view R.prog [58]) (H:=hk) (ob:=ob) (M:=60000) (loose:=loose) (d:=topDef R.prog 58) (kwd:=[]) ob_eq
  hj1 hj2 run hj3 hj4 hj5 hj6 (by first|assumption|decide +kernel) hj8 hj9 hjw hc
end
end K33
namespace Y
section
variable {K:PySem.W.Frag}{cl:Cls}{G G':Hp}
theorem RPs.append:∀ {l m:List P}{vs us:List V},RPs K cl G l vs→RPs K cl G m us→RPs K cl G (l++m) (vs++us)
 |_,_,_,_,.nil,s=>s
 |_,_,_,_,.cons h r,s=>.cons h (RPs.append r s)
theorem RPs.reverse{l:List P}{vs:List V} (r:RPs K cl G l vs):RPs K cl G l.reverse vs.reverse:=by
 induction l generalizing vs with
 |nil=>cases r;exact .nil
 |cons x l ih =>
  cases r with
  |cons h r =>
   rw[List.reverse_cons,List.reverse_cons];exact(ih r).append (.cons h .nil)
theorem RPs.ints:∀(l:List Int),RPs K cl G (l.map P.int) (l.map V.int)
 |[]=>.nil
 |i::l=>.cons (.int i) (RPs.ints l)
theorem RPs.of_ints:∀ {l:List Int}{vs:List V},RPs K cl G (l.map P.int) vs→vs=l.map V.int
 |[],_,.nil=>rfl
 |i::l,_,.cons h r=>by
  cases h;rw[RPs.of_ints r];rfl
end
section
variable {K:PySem.W.Frag}{cl:Cls}{ρ ρ':List Addr}{G G':Hp}
theorem RWs.append:∀ {l m:List W}{vs us:List V},RWs K cl ρ G l vs→RWs K cl ρ G m us→RWs K cl ρ G (l++m) (vs++us)
 |_,_,_,_,.nil,s=>s
 |_,_,_,_,.cons h r,s=>.cons h (RWs.append r s)
theorem zBI(l:List P):pures (l.map W.p)=some l:=by
 induction l with
 |nil=>rfl
 |cons x l ih =>
  show(pures (l.map W.p)).map (x :: ·)=_
  rw[ih];rfl
end
theorem zEa{H:Hp}{a:Addr}{u:HO} (h:strip H a=some u):H a=some u∧NT u:=by
 unfold strip at h;split at h
 ·cases h
 ·rename_i n
  exact⟨h,fun ps e=>n ps (by rw[h,e])⟩
theorem zQv{G H:Hp}{P p:Addr}{q:Str}{o:HO} (t:TabG G H P q) (h:H p=some o) (nt:NT o):P≠p:=fun e=>by
 obtain⟨ps,z,_⟩:=t;rw[e,h]at z;exact nt ps (Jd z)
theorem zKm{G H:Hp}{P p:Addr}{q:Str}{o u:HO} (t:TabG G H P q) (h:H p=some u) (hu:PlO u):TabG G (upd H p o) P q:=by
 have ne:=zQv t h hu.1;obtain⟨ps,e1,e2,e3⟩:=t;exact⟨ps,by rw[JF ne];exact e1,e2,e3⟩
section
variable {K:PySem.W.Frag}{cl:Cls}{E0:En}{ρ ρ':List Addr}{G G':Hp}{st:List Cell}{H H':Hp}
theorem Rel.cellN(R:Rel K cl E0 ρ G st H){p:Addr}{o:HO}{c:Cell} (h:H p=none) (hc:c≠.dead) (h0:E0.H0 p=none) (x:CA K cl (ρ++[p]) G (upd H p o) p c):Rel K cl E0 (ρ++[p]) G (st++[c]) (upd H p o):=by
 have gp:=R.gnone h
 have ne:∀(i:Nat) a,ρ[i]?=some a→a≠p:=fun i a e z=>by
  obtain⟨u,q⟩:=R.there e;rw[z,h]at q;cases q
 have pn:p∉ρ:=fun m=>by
  obtain⟨i,hi⟩:=Ve m;exact ne i p hi rfl
 have cut:∀(i:Nat) (d:Cell) a,(st++[c])[i]?=some d→(ρ++[p])[i]?=some a→(st[i]?=some d∧ρ[i]?=some a)∨(d=c∧a=p):=fun i d a e1 e2=>by
  by_cases hi:i<st.length
  ·rw[Jh hi]at e1;rw[Jh (by rw[R.len];exact hi)]at e2
   exact .inl ⟨e1,e2⟩
  ·have z:i=st.length:=by
    have:=(Ja.mp e1).1
    rw[Jl]at this;simp at this;omega
   subst z;rw[JA (Jq _)]at e1;rw[←R.len,JA (Jq _)]at e2;simp at e1 e2;exact .inr ⟨e1.symm,e2.symm⟩
 refine⟨by simp[R.len],?_,fun i d a e1 e2=>?_,fun i d a e1 e2=>?_,fun a u e=>?_,fun a u e q=>?_,fun i a hi e=>?_,by rw[Jl];exact Jt R.n0 (VM _ _),fun a u e=>?_,R.ent,R.gnt,fun q hq=>zHm (R.tabs q hq) h⟩
 ·exact Yf.mpr ⟨R.nd,by simp,fun a ha b hb=>by simp at hb;subst hb;exact fun z=>pn (z▸ha)⟩
 ·rcases cut i d a e1 e2 with⟨h1,h2⟩|⟨rfl,rfl⟩
  ·exact(R.cell i d a h1 h2).mono (JY _ _) (Sub.refl _) (JF (ne i a h2))
  ·exact x
 ·rcases cut i d a e1 e2 with⟨h1,h2⟩|⟨rfl,rfl⟩
  ·exact R.sep i d a h1 h2
  ·exact .inr gp
 ·rw[JF (fun z=>by rw[z,gp]at e;cases e)];exact R.sub a u e
 ·have q2:=R.old a u e fun i hi z=>q i hi (by
   have hl:i<ρ.length:=JZ hi R.n0
   rw[Jh hl];exact z)
  rw[JF (VF q2 h)];exact q2
 ·by_cases hl:i<ρ.length
  ·rw[Jh hl]at e;exact R.new i a hi e
  ·rw[JA ∅]at e
   have:a=p:=by
    have hz:=(Ja.mp e).1;simp at hz;rw[hz]at e;simp at e;exact e.symm
   subst this;exact h0
 ·rcases R.grow a u e with q|q|⟨i,hi,q⟩
  ·exact .inl q
  ·exact .inr (.inl q)
  ·exact .inr (.inr ⟨i,hi,by rw[Jh (JZ hi R.n0)];exact q⟩)
theorem Rel.offF(R:Rel K cl E0 ρ G st H){a:Addr} (h:strip H a=none):(∀i:Nat,ρ[i]?≠some a)∧E0.H0 a=none:=by
 rcases zFU h with h|⟨ps,h⟩
 ·refine⟨fun i z=>?_,R.fresh0 h⟩
  obtain⟨o,q⟩:=R.there z;rw[h]at q;cases q
 ·exact R.tblF h
theorem Rel.write(R:Rel K cl E0 ρ G st H){i:Nat}{c d:Cell}{a:Addr}{o:HO} (h:st[i]?=some c) (hc:c≠.dead) (hd:d≠.dead) (ha:ρ[i]?=some a) (x:CA K cl ρ G (upd H a o) a d) :
  Rel K cl E0 ρ G (st.set i d) (upd H a o):=by
 have hi:i<st.length:=(Ja.mp h).1;have ga:G a=none:=(R.sep i c a h ha).resolve_left hc
 have same:∀(j:Nat) b,ρ[j]?=some b→b=a→j=i:=fun j b e z=>by
  subst z;have h1:=Ja.mp e;have h2:=Ja.mp ha;exact(Y5 (h₀:=h1.1) (h₁:=h2.1) R.nd).mp (h1.2.trans h2.2.symm)
 obtain⟨u0,hu0,pu0⟩:=(R.cell i c a h ha).po hc;refine⟨by rw[JQ];exact R.len,R.nd,fun j e b e1 e2=>?_,fun j e b e1 e2=>?_,fun b u e=>?_,fun b u e q=>?_,R.new,R.n0,R.grow,R.ent,R.gnt,fun q hq=>zKm (R.tabs q hq) hu0 pu0⟩
 ·by_cases hj:j=i
  ·subst hj;rw[JL hi]at e1;rw[ha]at e2;cases e1;cases e2;exact x
  ·rw[JN (Vl hj)]at e1;exact(R.cell j e b e1 e2).mono (Je _) (Sub.refl _) (JF fun z=>hj (same j b e2 z))
 ·by_cases hj:j=i
  ·subst hj;rw[ha]at e2;cases e2;exact .inr ga
  ·rw[JN (Vl hj)]at e1;exact R.sep j e b e1 e2
 ·rw[JF (fun z=>by rw[z,ga]at e;cases e)];exact R.sub b u e
 ·have ne:b≠a:=fun z=>by
   subst z
   by_cases hn:i<E0.n0
   ·exact q i hn ha
   ·rw[R.new i b ∅ ha]at e;cases e
  rw[JF ne];exact R.old b u e q
end
abbrev Bs.RWs(B:Bs) (ρ:List Addr) (G:Hp):List W→List V→Prop:=Y.RWs B.K B.cl ρ G
abbrev Bs.RS(B:Bs) (ρ:List Addr) (G:Hp):Sg→L2.St→Prop:=Y.RS B.K B.cl ρ G
section
variable {K:PySem.W.Frag}{cl:Cls}{E0:En}{ρ ρ':List Addr}{G G':Hp}{st:List Cell}{H H':Hp}
def En.hold(E0:En) (G:Hp) (p:Addr) (o:HO):En:=⟨upd E0.H0 p o,E0.n0,G⟩
theorem Rel.apart(R:Rel K cl E0 ρ G st H){p:Addr} (h:H p=none):∀(i:Nat),ρ[i]?≠some p:=fun i e=>by
 obtain⟨u,q⟩:=R.there e;rw[h]at q;cases q
theorem Rel.hold(R:Rel K cl E0 ρ G st H){p:Addr}{o:HO} (h:H p=none) (nt:NT o:=by intro _ z;cases z):Rel K cl (E0.hold G p o) ρ G st (upd H p o):=by
 have gp:=R.gnone h;have ne:∀(i:Nat) a,ρ[i]?=some a→a≠p:=fun i a e z=>R.apart h i (by rw[e,z])
 refine⟨R.len,R.nd,fun i c a e1 e2=>(R.cell i c a e1 e2).mono (Je _) (Sub.refl _) (JF (ne i a e2)),R.sep,fun a u e=>?_,fun a u e q=>?_,fun i a hi e=>?_,R.n0,fun a u e=>.inl e,fun a u e=>?_,R.gnt,fun q hq=>zHm (R.tabs q hq) h⟩
 ·rw[JF (fun z=>by rw[z,gp]at e;cases e)];exact R.sub a u e
 ·have e:upd E0.H0 p o a=some u:=e
  by_cases z:a=p
  ·subst z;rw[Ju]at e ⊢;exact e
  ·rw[JF z]at e ⊢;exact R.old a u e q
 ·show upd E0.H0 p o a=none;rw[JF (ne i a e)];exact R.new i a hi e
 ·have e:upd E0.H0 p o a=some u:=e
  by_cases z:a=p
  ·subst z;rw[Ju]at e;cases e;exact nt
  ·rw[JF z]at e;exact R.ent a u e
theorem Rel.held{p:Addr}{o:HO}{G1:Hp} (R:Rel K cl (E0.hold G1 p o) ρ G st H) (hn:∀i:Nat,i<E0.n0→ρ[i]?≠some p) (g1:G1 p=none):H p=some o∧G p=none∧∀i:Nat,ρ[i]?≠some p:=by
 have a1:∀i:Nat,ρ[i]?≠some p:=fun i e=>by
  by_cases hi:i<E0.n0
  ·exact hn i hi e
  ·have q:upd E0.H0 p o p=none:=R.new i p (by show E0.n0≤i;omega) e
   rw[Ju]at q;cases q
 refine⟨R.old p o (show upd E0.H0 p o p=some o from Ju) hn,?_,a1⟩
 cases e:G p with
 |none=>rfl
 |some u =>
  rcases R.grow p u e with q|q|⟨i,_,q⟩
  ·have q:G1 p=some u:=q;rw[g1]at q;cases q
  ·have q:upd E0.H0 p o p=none:=q;rw[Ju]at q;cases q
  ·exact absurd q (a1 i)
theorem Rel.rehold{p:Addr}{o o':HO}{G1:Hp} (R:Rel K cl (E0.hold G1 p o) ρ G st H) (po:PlO o) (hn:∀i:Nat,i<E0.n0→ρ[i]?≠some p) (g1:G1 p=none) (nt:NT o':=by intro _ z;cases z):Rel K cl (E0.hold G p o') ρ G st (upd H p o'):=by
 obtain⟨h1,h2,h3⟩:=R.held hn g1;have ne:∀(i:Nat) a,ρ[i]?=some a→a≠p:=fun i a e z=>h3 i (by rw[e,z])
 refine⟨R.len,R.nd,fun i c a e1 e2=>(R.cell i c a e1 e2).mono (Je _) (Sub.refl _) (JF (ne i a e2)),R.sep,fun a u e=>?_,fun a u e q=>?_,fun i a hi e=>?_,R.n0,fun a u e=>.inl e,fun a u e=>?_,R.gnt,fun q hq=>zKm (R.tabs q hq) h1 po⟩
 ·rw[JF (fun z=>by rw[z,h2]at e;cases e)];exact R.sub a u e
 ·have e:upd E0.H0 p o' a=some u:=e
  by_cases z:a=p
  ·subst z;rw[Ju]at e ⊢;exact e
  ·rw[JF z]at e ⊢;exact R.old a u (show upd E0.H0 p o a=some u by rw[JF z];exact e) q
 ·show upd E0.H0 p o' a=none;rw[JF (ne i a e)];have q:upd E0.H0 p o a=none:=R.new i a hi e;rw[JF (ne i a e)]at q;exact q
 ·have e:upd E0.H0 p o' a=some u:=e
  by_cases z:a=p
  ·subst z;rw[Ju]at e;cases e;exact nt
  ·rw[JF z]at e;exact R.ent a u (show upd E0.H0 p o a=some u by rw[JF z];exact e)
theorem Rel.unhold{p:Addr}{o:HO}{G1:Hp}{ρ0:List Addr} (R:Rel K cl (E0.hold G1 p o) ρ G st H) (h0:E0.H0 p=none) (gr:∀a u,G1 a=some u→E0.G0 a=some u∨E0.H0 a=none∨∃i:Nat,i<E0.n0∧ρ0[i]?=some a) (pr:ρ0 <+: ρ) (l0:E0.n0≤ρ0.length):Rel K cl E0 ρ G st H:=by
 refine⟨R.len,R.nd,R.cell,R.sep,R.sub,fun a u e q=>R.old a u (show upd E0.H0 p o a=some u by rw[JF (VF e h0)];exact e) q,fun i a hi e=>?_,R.n0,fun a u e=>?_,fun a u e=>R.ent a u (show upd E0.H0 p o a=some u by rw[JF (VF e h0)];exact e),R.gnt,R.tabs⟩
 ·have q:upd E0.H0 p o a=none:=R.new i a hi e
  by_cases z:a=p
  ·subst z;exact h0
  ·rw[JF z]at q;exact q
 ·rcases R.grow a u e with q|q|⟨i,hi,q⟩
  ·rcases gr a u q with q|q|⟨i,hi,q⟩
   ·exact .inl q
   ·exact .inr (.inl q)
   ·obtain⟨t,rfl⟩:=pr;exact .inr (.inr ⟨i,hi,by rw[Jh (JZ hi l0)];exact q⟩)
  ·have q:upd E0.H0 p o a=none:=q
   by_cases z:a=p
   ·subst z;exact .inr (.inl h0)
   ·rw[JF z]at q;exact .inr (.inl q)
  ·exact .inr (.inr ⟨i,hi,q⟩)
theorem Rel.adopt(R:Rel K cl E0 ρ G st H){p:Addr}{o:HO} (h:H p=some o) (gp:G p=none) (hp:∀i:Nat,ρ[i]?≠some p) (h0:E0.H0 p=none) (nt:NT o:=by intro _ z;cases z):Rel K cl E0 ρ (upd G p o) st H:=by
 refine⟨R.len,R.nd,fun i c a e1 e2=>(R.cell i c a e1 e2).mono (Je _) (Sub.new gp) rfl,fun i c a e1 e2=>?_,fun a u e=>?_,R.old,R.new,R.n0,fun a u e=>?_,R.ent,fun a u e=>?_,fun q hq=>(R.tabs q hq).sub (Sub.new gp)⟩
 ·rw[JF (fun z=>hp i (by rw[e2,z]))];exact R.sep i c a e1 e2
 ·by_cases z:a=p
  ·subst z;rw[Ju]at e;cases e;exact h
  ·rw[JF z]at e;exact R.sub a u e
 ·by_cases z:a=p
  ·subst z;exact .inr (.inl h0)
  ·rw[JF z]at e;exact R.grow a u e
 ·by_cases z:a=p
  ·subst z;rw[Ju]at e;cases e;exact nt
  ·rw[JF z]at e;exact R.gnt a u e
theorem Rel.adoptC(R:Rel K cl E0 ρ G st H){p:Addr}{c:Cell} (hc:c≠.dead) (gp:G p=none) (hp:∀i:Nat,ρ[i]?≠some p) (h0:E0.H0 p=none) (x:CA K cl (ρ++[p]) G H p c):Rel K cl E0 (ρ++[p]) G (st++[c]) H:=by
 have pn:p∉ρ:=fun m=>by
  obtain⟨i,hi⟩:=Ve m;exact hp i hi
 have cut:∀(i:Nat) (d:Cell) a,(st++[c])[i]?=some d→(ρ++[p])[i]?=some a→(st[i]?=some d∧ρ[i]?=some a)∨(d=c∧a=p):=fun i d a e1 e2=>by
  by_cases hi:i<st.length
  ·rw[Jh hi]at e1;rw[Jh (by rw[R.len];exact hi)]at e2
   exact .inl ⟨e1,e2⟩
  ·have z:i=st.length:=by
    have:=(Ja.mp e1).1
    rw[Jl]at this;simp at this;omega
   subst z;rw[JA (Jq _)]at e1;rw[←R.len,JA (Jq _)]at e2;simp at e1 e2;exact .inr ⟨e1.symm,e2.symm⟩
 refine⟨by simp[R.len],?_,fun i d a e1 e2=>?_,fun i d a e1 e2=>?_,R.sub,fun a u e q=>?_,fun i a hi e=>?_,by rw[Jl];exact Jt R.n0 (VM _ _),fun a u e=>?_,R.ent,R.gnt,R.tabs⟩
 ·exact Yf.mpr ⟨R.nd,by simp,fun a ha b hb=>by simp at hb;subst hb;exact fun z=>pn (z▸ha)⟩
 ·rcases cut i d a e1 e2 with⟨h1,h2⟩|⟨rfl,rfl⟩
  ·exact(R.cell i d a h1 h2).mono (JY _ _) (Sub.refl _) rfl
  ·exact x
 ·rcases cut i d a e1 e2 with⟨h1,h2⟩|⟨rfl,rfl⟩
  ·exact R.sep i d a h1 h2
  ·exact .inr gp
 ·exact R.old a u e fun i hi z=>q i hi (by
   have hl:i<ρ.length:=JZ hi R.n0
   rw[Jh hl];exact z)
 ·by_cases hl:i<ρ.length
  ·rw[Jh hl]at e;exact R.new i a hi e
  ·rw[JA ∅]at e
   have:a=p:=by
    have hz:=(Ja.mp e).1;simp at hz;rw[hz]at e;simp at e;exact e.symm
   subst this;exact h0
 ·rcases R.grow a u e with q|q|⟨i,hi,q⟩
  ·exact .inl q
  ·exact .inr (.inl q)
  ·exact .inr (.inr ⟨i,hi,by rw[Jh (JZ hi R.n0)];exact q⟩)
end
section
variable {X:Cx}
def TT'(X:Cx) (e:Expr):TT:=fun σ H Q=>∀(pins:List (Addr×Obj)) (s:Shared),Inv X pins σ H s→wpAny (model X.prog X.w) X.A (isTrue e X.env (eval e X.env)) (TP X pins σ Q) X.xe s
def TW'(X:Cx) (e:Expr):TT:=fun σ H Q=>∀(whole:Sem Value) (pins:List (Addr×Obj)) (s:Shared),Inv X pins σ H s→wpAny (model X.prog X.w) X.A (isTrue e X.env whole) (TP X pins σ Q) X.xe s
def TA'(X:Cx) (es:List Expr):TA:=fun σ H Q=>∀(pos:Pos) (pins:List (Addr×Obj)) (s:Shared),Inv X pins σ H s→wpAny (model X.prog X.w) X.A (spliced (backTo pos (starEach es X.env))) (AP X pins σ Q) X.xe s
theorem T.pe{e:Expr}:PE X e (T X e):=⟨fun pins s σ H Q I h=>h pins s I⟩
theorem TT'.pt{e:Expr}:PT X e (TT' X e):=⟨fun pins s σ H Q I h=>h pins s I⟩
theorem TW'.pw{e:Expr}:PW X e (TW' X e):=⟨fun wh pins s σ H Q I h=>h wh pins s I⟩
theorem TA'.pa{es:List Expr}:PA X es (TA' X es):=⟨fun pos pins s σ H Q I h=>h pos pins s I⟩
theorem TT'.of{e:Expr}{t:TT}{σ:L2.St}{H:Hp}{Q:Bool→Hp→Prop} (h:PT X e t) (q:t σ H Q):TT' X e σ H Q:=fun pins s I=>h.run pins s σ H Q I q
theorem TW'.of{e:Expr}{t:TT}{σ:L2.St}{H:Hp}{Q:Bool→Hp→Prop} (h:PW X e t) (q:t σ H Q):TW' X e σ H Q:=fun wh pins s I=>h.run wh pins s σ H Q I q
theorem TA'.of{es:List Expr}{t:TA}{σ:L2.St}{H:Hp}{Q:List V→Hp→Prop} (h:PA X es t) (q:t σ H Q):TA' X es σ H Q:=fun pos pins s I=>h.run pos pins s σ H Q I q
end
abbrev eqB:List Addr→Hp→Bool→Bool→Prop:=fun _ _ a b=>a=b
structure ST (K:PySem.W.Frag) (cl:Cls) (X:Cx) (Wx:WX) (m:TM) (e:Expr):Prop where
 run:∀E0 ρ G σ st τ H Q,(bs K cl E0).Rel ρ G st H→RS K cl ρ G σ τ→Aft (bs K cl E0) eqB ρ G (m σ st) Q (fun c d H'=>Wx c d τ H')→TT' X e τ H Q
structure SW (K:PySem.W.Frag) (cl:Cls) (X:Cx) (Wx:WX) (m:TM) (e:Expr):Prop where
 run:∀E0 ρ G σ st τ H Q,(bs K cl E0).Rel ρ G st H→RS K cl ρ G σ τ→Aft (bs K cl E0) eqB ρ G (m σ st) Q (fun c d H'=>Wx c d τ H')→TW' X e τ H Q
structure SA (K:PySem.W.Frag) (cl:Cls) (X:Cx) (Wx:WX) (m:AM) (es:List Expr):Prop where
 run:∀E0 ρ G σ st τ H Q,(bs K cl E0).Rel ρ G st H→RS K cl ρ G σ τ→Aft (bs K cl E0) (bs K cl E0).RWs ρ G (m σ st) Q (fun c d H'=>Wx c d τ H')→TA' X es τ H Q
section
variable {K:PySem.W.Frag}{cl:Cls}{X:Cx}{Wx:WX}{E0:En}{ρ ρ':List Addr}{G G':Hp}{σ:Sg}{τ:L2.St}{st:List Cell}{H:Hp}
theorem Aft.newP{B:Bs}{x:P}{p:Addr}{o:HO}{Q:VK}{Z:ZX} (h:Aft B B.RW ρ G (.ok (.p x) st) Q Z) (R:B.Rel ρ G st H) (hp:H p=none) (u:RP B.K B.cl (upd G p o) x (.ref p)) (nt:NT o:=by intro _ z;cases z):Q (.ref p) (upd H p o) :=
 h ρ (upd G p o) (upd H p o) (.ref p) (Je _) (Sub.new (R.gnone hp)) (R.froze hp nt) u
theorem Aft.newC{B:Bs}{c:Cell}{p:Addr}{o:HO}{Q:VK}{Z:ZX} (h:Aft B B.RW ρ G (.ok (.r st.length) (st++[c])) Q Z) (R:B.Rel ρ G st H) (hp:H p=none) (hc:c≠.dead) (u:CA B.K B.cl (ρ++[p]) G (upd H p o) p c):Q (.ref p) (upd H p o) :=
 h (ρ++[p]) G (upd H p o) (.ref p) (JY _ _) (Sub.refl _) (R.cellN hp hc (R.fresh0 hp) u) ⟨p,by rw[←R.len];simp,rfl⟩
def mC(x:P):EM:=fun _ st=>.ok (.p x) st
theorem se_C{x:P}{v:V}{e:Expr} (h:PE X e (tC v)) (r:∀G,RP K cl G x v):SE K cl X Wx (mC x) e :=
 ⟨fun E0 ρ G σ st τ H Q R S q=>T.of h (Aft.here (b:=v) q R (r G))⟩
theorem zAC{i:Int}{j:Nat}{pos:Pos}:SE K cl X Wx (mC (.int i)) (.Constant (.int i) j pos):=se_C pe_int fun _=>.int i
theorem zGp{i:Bool}{j:Nat}{pos:Pos}:SE K cl X Wx (mC (.bl i)) (.Constant (.bool i) j pos):=se_C pe_bl fun _=>.bl i
theorem zBT{j:Nat}{pos:Pos}:SE K cl X Wx (mC .non) (.Constant .none j pos):=se_C pe_non fun _=>.non
theorem zAE{i:Str}{j:Nat}{pos:Pos}:SE K cl X Wx (mC (.str i)) (.Constant (.str i) j pos):=se_C bD fun _=>.str i
theorem zR2{x:Str}{z:P}{v:V}{u:Value}{pos:Pos} (hg:Gl X x) (hm:X.mg x=some u) (r:RelV v u) (rp:∀G,RP K cl G z v) (hd:(x==("__debug__" : Str))=false:=by decide +kernel):SE K cl X Wx (mC z) (.Name x pos):=se_C (pe_glob hg hm r hd) rp
def mBin(f:W→W→List Cell→Res W) (a b:EM):EM:=fun σ st=>(a σ st).bind fun x st1=>(b σ st1).bind fun y st2=>f x y st2
def VOp(K:PySem.W.Frag) (cl:Cls) (f:W→W→List Cell→Res W) (r:R2):Prop :=
 ∀E0 ρ G st H x y v u Q Z,(bs K cl E0).Rel ρ G st H→RW K cl ρ G x v→RW K cl ρ G y u→Aft (bs K cl E0) (bs K cl E0).RW ρ G (f x y st) Q Z→r v u H Q
theorem zQC{t:R2→TE→TE→TE}{r:R2}{f:W→W→List Cell→Res W}{a b:EM}{pa pb e:Expr} (ht:∀σ H Q,(T X pa σ H fun x H1=>T X pb σ H1 fun y H2=>r x y H2 Q)→T X e σ H Q) (hf:VOp K cl f r)
  (ha:SE K cl X Wx a pa) (hb:SE K cl X Wx b pb):SE K cl X Wx (mBin f a b) e:=by
 refine⟨fun E0 ρ G σ st τ H Q R S h=>ht τ H Q ?_⟩
 refine ha.run E0 ρ G σ st τ H _ R S (Aft.seq h fun x st1 ρ1 G1 H1 v e1 p1 s1 R1 u1 h1=>?_)
 refine hb.run E0 ρ1 G1 σ st1 τ H1 _ R1 (S.mono p1 s1) (Aft.seq h1 fun y st2 ρ2 G2 H2 u e2 p2 s2 R2 u2 h2=>?_)
 exact hf E0 ρ2 G2 st2 H2 x y v u Q _ R2 (RW.mono p2 s2 u1) u2 h2
theorem zE5{op:Operator}{r:R2}{f:W→W→List Cell→Res W}{a b:EM}{pa pb:Expr}{pos:Pos} (ho:OpR X (binaryOp op) r) (hf:VOp K cl f r) (ha:SE K cl X Wx a pa) (hb:SE K cl X Wx b pb) :
  SE K cl X Wx (mBin f a b) (.BinOp pa op pb pos):=zQC (t:=tOp) (fun σ H Q q=>T.of (pe_op ho T.pe T.pe) q) hf ha hb
theorem zIU{op:CmpOp}{r:R2}{f:W→W→List Cell→Res W}{a b:EM}{pa pb:Expr}{pos:Pos} (ho:OpR X (compareOp op) r) (hm:behindInMarks op pb=false) (hf:VOp K cl f r) (ha:SE K cl X Wx a pa) (hb:SE K cl X Wx b pb) :
  SE K cl X Wx (mBin f a b) (.Compare pa [op] [pb] pos):=zQC (t:=tOp) (fun σ H Q q=>T.of (pe_cmpR ho T.pe T.pe hm) q) hf ha hb
theorem VOp.or{f:W→W→List Cell→Res W}{r r':R2} (h:∀E0 ρ G st H x y v u Q Z,(bs K cl E0).Rel ρ G st H→RW K cl ρ G x v→RW K cl ρ G y u→Aft (bs K cl E0) (bs K cl E0).RW ρ G (f x y st) Q Z→r v u H Q∨r' v u H Q):VOp K cl f (fun x y H Q=>r x y H Q∨r' x y H Q):=h
def zIj(st:List Cell):W→Option (List W)
 | .p (.lst l)=>some (l.map .p)
 | .r i=>match st[i]? with
  |some (.lst l)=>some l
  |_=>none
 |_=>none
theorem zKE(R:(bs K cl E0).Rel ρ G st H){w:W}{v:V} (r:RW K cl ρ G w v){l:List W} (e:zIj st w=some l):∃a vs,v=.ref a∧H a=some (.lst vs)∧RWs K cl ρ G l vs:=by
 cases w with
 |p x =>
  cases x with
  |lst m =>
   obtain rfl:m.map W.p=l:=Jd e;cases r with
   |lst h q=>exact⟨_,_,rfl,R.sub _ _ h,.of_pures q⟩
  |_=>cases e
 |r i =>
  obtain⟨a,ha,rfl⟩:=r;have e:(match st[i]? with|some (.lst l)=>some l|_=>none)=some l:=e
  split at e
  ·rename_i m em
   cases e;obtain⟨b,hb,⟨vs,h1,h2⟩,_⟩:=R.at em;have hb:ρ[i]?=some b:=hb;rw[ha]at hb;cases hb;exact⟨a,vs,rfl,h1,h2⟩
  ·cases e
def LIM:Nat:=1000000
theorem zCo{n:Nat} (h:n≤LIM):n≤sizeLine:=by rw[Vm];unfold LIM at h;omega
theorem zPs{n:Nat} (h:n<LIM):n<sizeLine:=by rw[Vm];unfold LIM at h;omega
def vI2(C:Int→Int→Bool) (g:Int→Int→P):W→W→List Cell→Res W
 | .p (.int i),.p (.int j),st=>if C i j then .ok (.p (g i j)) st else .no
 |_,_,_=>.no
theorem zJ0{C:Int→Int→Bool}{g:Int→Int→P}{g':Int→Int→V} (hg:∀i j G,RP K cl G (g i j) (g' i j)){D:Int→Int→Prop} (hC:∀i j,C i j=true→D i j):VOp K cl (vI2 C g) (rI D g'):=by
 intro E0 ρ G st H x y v u Q Z R rx ry h;unfold vI2 at h;split at h
 ·rename_i i j
  cases rx;cases ry;split at h
  ·rename_i hc
   exact⟨i,j,rfl,rfl,hC i j hc,h.here R (hg i j G)⟩
  ·exact h.elim
 ·exact h.elim
theorem zGc{g:Int→Int→P}{g':Int→Int→V} (hg:∀i j G,RP K cl G (g i j) (g' i j)):VOp K cl (vI2 (fun _ _=>true) g) (rI0 g'):=by
 intro E0 ρ G st H x y v u Q Z R rx ry h;unfold vI2 at h;split at h
 ·rename_i i j
  cases rx;cases ry;exact⟨i,j,rfl,rfl,h.here R (hg i j G)⟩
 ·exact h.elim
end
section
variable {K:PySem.W.Frag}{cl:Cls}{X:Cx}{Wx:WX}{E0:En}{ρ ρ':List Addr}{G G':Hp}{σ:Sg}{τ:L2.St}{st:List Cell}{H:Hp}
def vTru(st:List Cell):W→Option Bool
 | .p .non=>some false
 | .p (.bl b)=>some b
 | .p (.int i)=>some (i != 0)
 | .p (.str s)=>if s.length≤LIM then some ((s.length:Int) != 0)else none
 | .p (.tup l)=>some (!l.isEmpty)
 | .p (.lst l)=>some (!l.isEmpty)
 | .p (.dk ks _)=>some (!ks.isEmpty)
 | .r i=>match st[i]? with
  |some (.lst l)=>some (!l.isEmpty)
  |some (.dk ks _)=>some (!ks.isEmpty)
  |_=>none
 |_=>none
theorem zIY{α β:Type}{l:List α}{m:List β} (h:l.length=m.length):(l.zip m).isEmpty=l.isEmpty:=by
 cases l with
 |nil=>rfl
 |cons a l =>
  cases m with
  |nil=>cases h
  |cons b m=>rfl
theorem zRG(R:(bs K cl E0).Rel ρ G st H){w:W}{v:V} (r:RW K cl ρ G w v){k:Bool} (e:vTru st w=some k):TruV K v H k:=by
 cases w with
 |p x =>
  cases r with
  |non=>exact(Jd e).symm
  |bl b=>exact(Jd e).symm
  |int i=>exact(Jd e).symm
  |str s =>
   have e:(if s.length≤LIM then some ((s.length:Int) != 0)else none)=some k:=e
   split at e
   ·rename_i h
    exact⟨zCo h,(Jd e).symm⟩
   ·cases e
  |tup h q=>exact .inr (.inl ⟨_,R.sub.sqT h,by rw[←q.empty];exact(Jd e).symm⟩)
  |lst h q=>exact .inl ⟨_,.inl (.inl (R.sub _ _ h)),by rw[←q.empty];exact(Jd e).symm⟩
  |dk h z q=>exact .inr (.inr ⟨_,R.sub _ _ h,by rw[zIY z];exact(Jd e).symm⟩)
  |scr h=>cases e
  |obj c h z q=>cases e
  |exn c x h d z q=>cases e
  |lam _ _ _ _ _=>cases e
  |cls _=>cases e
  |fd _ _ _=>cases e
  |fn _ _ _ _ _ _ _=>cases e
 |r i =>
  obtain⟨a,ha,rfl⟩:=r;have e:(match st[i]? with|some (.lst l)=>some (!l.isEmpty)|some (.dk ks _)=>some (!ks.isEmpty)|_=>none)=some k:=e
  split at e
  ·rename_i m em
   obtain⟨b,hb,⟨vs,h1,h2⟩,_⟩:=R.at em;have hb:ρ[i]?=some b:=hb;rw[ha]at hb;cases hb;exact .inl ⟨vs,.inl (.inl h1),by rw[←h2.empty];exact(Jd e).symm⟩
  ·rename_i ks l em
   obtain⟨b,hb,⟨vs,h1,z,h2⟩,_⟩:=R.at em;have hb:ρ[i]?=some b:=hb;rw[ha]at hb;cases hb;exact .inr (.inr ⟨_,h1,by rw[zIY z];exact(Jd e).symm⟩)
  ·cases e
def mTru(m:EM):TM:=fun σ st=>(m σ st).bind fun w st1=>match vTru st1 w with
 |some k=>.ok k st1
 |none=>.no
theorem zBl{a:EM}{pa:Expr} (g:GX K X) (ha:SE K cl X Wx a pa) (he:∀whole,isTrue pa X.env whole=(do let v ←whole;standAt pa.pos;holding [v] (truthy v))):ST K cl X Wx (mTru a) pa:=by
 obtain⟨hK,_⟩:=g;subst hK;refine⟨fun E0 ρ G σ st τ H Q R S h=>TT'.of (pt_truth T.pe he) ?_⟩
 refine ha.run E0 ρ G σ st τ H _ R S (Aft.seq h fun x st1 ρ1 G1 H1 v e1 p1 s1 R1 u1 h1=>?_)
 cases e:vTru st1 x with
 |some k =>
  rw[e]at h1;exact⟨k,zRG R1 u1 e,h1.here R1 rfl⟩
 |none=>rw[e]at h1;exact h1.elim
def mTst(m:EM):TM:=fun σ st=>(m σ st).bind fun w st1=>match w with
 | .p (.bl k)=>.ok k st1
 |_=>.no
theorem zEh{op:CmpOp}{r:R2}{f:W→W→List Cell→Res W}{a b:EM}{pa pb:Expr}{pos:Pos} (ho:OpR X (compareOp op) r) (hm:behindInMarks op pb=false) (hf:VOp K cl f r) (ha:SE K cl X Wx a pa) (hb:SE K cl X Wx b pb) :
  ST K cl X Wx (mTst (mBin f a b)) (.Compare pa [op] [pb] pos):=by
 refine⟨fun E0 ρ G σ st τ H Q R S h=>TT'.of (pt_cmpR ho T.pe T.pe hm) ?_⟩
 have h:Aft (bs K cl E0) eqB ρ G ((a σ st).bind fun x st1=>(b σ st1).bind fun y st2=>(f x y st2).bind fun w st3=>match w with | .p (.bl k)=>.ok k st3|_=>.no) Q (fun c d H'=>Wx c d τ H'):=by
  have e:mTst (mBin f a b) σ st=((a σ st).bind fun x st1=>(b σ st1).bind fun y st2=>(f x y st2).bind fun w st3=>match w with | .p (.bl k)=>.ok k st3|_=>.no):=by
   unfold mTst mBin Res.bind;cases a σ st with
   |ok x st1 =>
    dsimp only;cases b σ st1 with
    |ok y st2=>rfl
    |exc _ _=>rfl
    |no=>rfl
   |exc _ _=>rfl
   |no=>rfl
  rw[←e];exact h
 refine ha.run E0 ρ G σ st τ H _ R S (Aft.seq h fun x st1 ρ1 G1 H1 v e1 p1 s1 R1 u1 h1=>?_)
 refine hb.run E0 ρ1 G1 σ st1 τ H1 _ R1 (S.mono p1 s1) (Aft.seq h1 fun y st2 ρ2 G2 H2 u e2 p2 s2 R2 u2 h2=>?_)
 refine hf E0 ρ2 G2 st2 H2 x y v u _ _ R2 (RW.mono p2 s2 u1) u2 (Aft.seq h2 fun w st3 ρ3 G3 H3 z e3 p3 s3 R3 u3 h3=>?_)
 cases w with
 |p w =>
  cases u3 with
  |bl k=>exact⟨k,rfl,h3.here R3 rfl⟩
  |_=>exact h3.elim
 |r i=>exact h3.elim
def zDV(a b:TM):TM:=fun σ st=>(a σ st).bind fun c st1=>if c=true then b σ st1 else .ok false st1
def mOrT(a b:TM):TM:=fun σ st=>(a σ st).bind fun c st1=>if c=true then .ok true st1 else b σ st1
def zDK(a:TM):TM:=fun σ st=>(a σ st).bind fun c st1=>.ok (!c) st1
theorem zC0{a:TM}{pa:Expr} (h:SW K cl X Wx a pa):ST K cl X Wx a pa:=⟨fun E0 ρ G σ st τ H Q R S q=>TT'.of (TW'.pw.pt) (h.run E0 ρ G σ st τ H Q R S q)⟩
theorem zEz{a:TM}{pa:Expr}{pos:Pos} (h:ST K cl X Wx a pa):SW K cl X Wx a (.BoolOp .And [pa] pos):=⟨fun E0 ρ G σ st τ H Q R S q=>TW'.of (pw_and1 TT'.pt) (h.run E0 ρ G σ st τ H Q R S q)⟩
theorem zCm{a:TM}{pa:Expr}{pos:Pos} (h:ST K cl X Wx a pa):SW K cl X Wx a (.BoolOp .Or [pa] pos):=⟨fun E0 ρ G σ st τ H Q R S q=>TW'.of (pw_or1 TT'.pt) (h.run E0 ρ G σ st τ H Q R S q)⟩
theorem zEA{a b:TM}{pa pb:Expr}{rest:List Expr}{pos:Pos} (ha:ST K cl X Wx a pa) (hb:SW K cl X Wx b (.BoolOp .And (pb::rest) pos)):SW K cl X Wx (zDV a b) (.BoolOp .And (pa::pb::rest) pos):=by
 refine⟨fun E0 ρ G σ st τ H Q R S h=>TW'.of (pw_and TT'.pt TW'.pw) ?_⟩
 refine ha.run E0 ρ G σ st τ H _ R S (Aft.seq h fun c st1 ρ1 G1 H1 d e1 p1 s1 R1 u1 h1=>?_)
 obtain rfl:c=d:=u1;cases c with
 |true=>exact hb.run E0 ρ1 G1 σ st1 τ H1 Q R1 (S.mono p1 s1) h1
 |false=>exact h1.here R1 rfl
theorem zCj{a b:TM}{pa pb:Expr}{rest:List Expr}{pos:Pos} (ha:ST K cl X Wx a pa) (hb:SW K cl X Wx b (.BoolOp .Or (pb::rest) pos)):SW K cl X Wx (mOrT a b) (.BoolOp .Or (pa::pb::rest) pos):=by
 refine⟨fun E0 ρ G σ st τ H Q R S h=>TW'.of (pw_or TT'.pt TW'.pw) ?_⟩
 refine ha.run E0 ρ G σ st τ H _ R S (Aft.seq h fun c st1 ρ1 G1 H1 d e1 p1 s1 R1 u1 h1=>?_)
 obtain rfl:c=d:=u1;cases c with
 |true=>exact h1.here R1 rfl
 |false=>exact hb.run E0 ρ1 G1 σ st1 τ H1 Q R1 (S.mono p1 s1) h1
theorem zCu{a:TM}{pa:Expr}{pos:Pos} (ha:ST K cl X Wx a pa):ST K cl X Wx (zDK a) (.UnaryOp .Not pa pos):=by
 refine⟨fun E0 ρ G σ st τ H Q R S h=>TT'.of (pt_not TT'.pt) ?_⟩
 refine ha.run E0 ρ G σ st τ H _ R S (Aft.seq h fun c st1 ρ1 G1 H1 d e1 p1 s1 R1 u1 h1=>?_)
 obtain rfl:c=d:=u1;exact h1.here R1 rfl
def zCS(a b:EM):EM:=fun σ st=>(a σ st).bind fun w st1=>match w with
 | .p (.bl c)=>if c=true then b σ st1 else .ok (.p (.bl false)) st1
 |_=>.no
def zNZ(a:EM):EM:=fun σ st=>(a σ st).bind fun w st1=>match w with
 | .p (.bl c)=>.ok (.p (.bl (!c))) st1
 |_=>.no
theorem zDG{op:BoolOp}{a:EM}{pa:Expr}{pos:Pos} (h:SE K cl X Wx a pa):SE K cl X Wx a (.BoolOp op [pa] pos):=⟨fun E0 ρ G σ st τ H Q R S q=>T.of (pe_one T.pe) (h.run E0 ρ G σ st τ H Q R S q)⟩
theorem zB6{a b:EM}{pa pb:Expr}{rest:List Expr}{pos:Pos} (ha:SE K cl X Wx a pa) (hb:SE K cl X Wx b (.BoolOp .And (pb::rest) pos)):SE K cl X Wx (zCS a b) (.BoolOp .And (pa::pb::rest) pos):=by
 refine⟨fun E0 ρ G σ st τ H Q R S h=>T.of (pe_and T.pe T.pe) ?_⟩
 refine ha.run E0 ρ G σ st τ H _ R S (Aft.seq h fun w st1 ρ1 G1 H1 v e1 p1 s1 R1 u1 h1=>?_)
 cases w with
 |p w =>
  cases u1 with
  |bl c =>
   refine⟨c,rfl,?_⟩;cases c with
   |true=>exact hb.run E0 ρ1 G1 σ st1 τ H1 Q R1 (S.mono p1 s1) h1
   |false=>exact Aft.here (b:=V.bl false) h1 R1 (RP.bl false)
  |_=>exact h1.elim
 |r i=>exact h1.elim
theorem zPM{a:EM}{pa:Expr}{pos:Pos} (ha:SE K cl X Wx a pa):SE K cl X Wx (zNZ a) (.UnaryOp .Not pa pos):=by
 refine⟨fun E0 ρ G σ st τ H Q R S h=>T.of (pe_not T.pe) ?_⟩
 refine ha.run E0 ρ G σ st τ H _ R S (Aft.seq h fun w st1 ρ1 G1 H1 v e1 p1 s1 R1 u1 h1=>?_)
 cases w with
 |p w =>
  cases u1 with
  |bl c=>exact⟨c,rfl,Aft.here (b:=V.bl (!c)) h1 R1 (RP.bl (!c))⟩
  |_=>exact h1.elim
 |r i=>exact h1.elim
def mIfE(c:TM) (a b:EM):EM:=fun σ st=>(c σ st).bind fun k st1=>if k=true then a σ st1 else b σ st1
theorem zCU{c:TM}{a b:EM}{pc pa pb:Expr}{pos:Pos} (hc:ST K cl X Wx c pc) (ha:SE K cl X Wx a pa) (hb:SE K cl X Wx b pb):SE K cl X Wx (mIfE c a b) (.IfExp pc pa pb pos):=by
 refine⟨fun E0 ρ G σ st τ H Q R S h=>T.of (pe_ifExp TT'.pt T.pe T.pe) ?_⟩
 refine hc.run E0 ρ G σ st τ H _ R S (Aft.seq h fun k st1 ρ1 G1 H1 d e1 p1 s1 R1 u1 h1=>?_)
 obtain rfl:k=d:=u1;cases k with
 |true=>exact ha.run E0 ρ1 G1 σ st1 τ H1 Q R1 (S.mono p1 s1) h1
 |false=>exact hb.run E0 ρ1 G1 σ st1 τ H1 Q R1 (S.mono p1 s1) h1
def mNil:AM:=fun _ st=>.ok [] st
def zAB(a:EM) (r:AM):AM:=fun σ st=>(a σ st).bind fun w st1=>(r σ st1).bind fun ws st2=>.ok (w::ws) st2
theorem zAD:SA K cl X Wx mNil []:=⟨fun E0 ρ G σ st τ H Q R S h=>TA'.of bC (Aft.here (b:=([]:List V)) h R .nil)⟩
theorem zAA{a:EM}{r:AM}{e:Expr}{es:List Expr} (ha:SE K cl X Wx a e) (hr:SA K cl X Wx r es) (hs:starEach (e::es) X.env=(false,eval e X.env)::starEach es X.env):SA K cl X Wx (zAB a r) (e::es):=by
 refine⟨fun E0 ρ G σ st τ H Q R S h=>TA'.of (Yg T.pe TA'.pa hs) ?_⟩
 refine ha.run E0 ρ G σ st τ H _ R S (Aft.seq h fun w st1 ρ1 G1 H1 v e1 p1 s1 R1 u1 h1=>?_)
 refine hr.run E0 ρ1 G1 σ st1 τ H1 _ R1 (S.mono p1 s1) (Aft.seq h1 fun ws st2 ρ2 G2 H2 vs e2 p2 s2 R2 u2 h2=>?_)
 exact Aft.here (b:=v::vs) h2 R2 (.cons (RW.mono p2 s2 u1) u2)
def mTup(a:AM):EM:=fun σ st=>(a σ st).bind fun ws st1=>match pures ws with
 |some l=>if l.length≤LIM then .ok (.p (.tup l)) st1 else .no
 |none=>.no
def mLst(a:AM):EM:=fun σ st=>(a σ st).bind fun ws st1=>match pures ws with
 |some l=>if l.length≤LIM then .ok (.p (.lst l)) st1 else .no
 |none=>.no
def zCs(a:AM):EM:=fun σ st=>(a σ st).bind fun ws st1=>if ws.length≤LIM then .ok (.r st1.length) (st1++[.lst ws])else .no
theorem zAx{a:AM}{es:List Expr}{k:Nat}{pos:Pos} (ha:SA K cl X Wx a es):SE K cl X Wx (mTup a) (.Tuple es k pos):=by
 refine⟨fun E0 ρ G σ st τ H Q R S h=>T.of (pe_tup TA'.pa) ?_⟩
 refine ha.run E0 ρ G σ st τ H _ R S (Aft.seq h fun ws st1 ρ1 G1 H1 vs e1 p1 s1 R1 u1 h1=>?_)
 cases e:pures ws with
 |none=>rw[e]at h1;exact h1.elim
 |some l =>
  rw[e]at h1;have q:=u1.pures e;dsimp only at h1;split at h1
  ·rename_i hl
   refine⟨by rw[←q.length];exact zCo hl,fun p hp=>?_⟩
   exact h1.newP R1 hp (.tup (.inl (.inl Ju)) (q.mono (Sub.new (R1.gnone hp))))
  ·exact h1.elim
theorem zAl{a:AM}{es:List Expr}{pos:Pos} (ha:SA K cl X Wx a es):SE K cl X Wx (mLst a) (.List es pos):=by
 refine⟨fun E0 ρ G σ st τ H Q R S h=>T.of (pe_lst TA'.pa) ?_⟩
 refine ha.run E0 ρ G σ st τ H _ R S (Aft.seq h fun ws st1 ρ1 G1 H1 vs e1 p1 s1 R1 u1 h1=>?_)
 cases e:pures ws with
 |none=>rw[e]at h1;exact h1.elim
 |some l =>
  rw[e]at h1;have q:=u1.pures e;dsimp only at h1;split at h1
  ·rename_i hl
   refine⟨by rw[←q.length];exact zCo hl,fun p hp=>?_⟩
   exact h1.newP R1 hp (.lst Ju (q.mono (Sub.new (R1.gnone hp))))
  ·exact h1.elim
theorem zDv{a:AM}{es:List Expr}{pos:Pos} (ha:SA K cl X Wx a es):SE K cl X Wx (zCs a) (.List es pos):=by
 refine⟨fun E0 ρ G σ st τ H Q R S h=>T.of (pe_lst TA'.pa) ?_⟩
 refine ha.run E0 ρ G σ st τ H _ R S (Aft.seq h fun ws st1 ρ1 G1 H1 vs e1 p1 s1 R1 u1 h1=>?_)
 split at h1
 ·rename_i hl
  refine⟨by rw[←u1.length];exact zCo hl,fun p hp=>?_⟩
  exact h1.newC R1 hp (fun z=>by cases z) ⟨vs,Ju,RWs.mono (JY _ _) (Sub.refl _) u1⟩
 ·exact h1.elim
def zHM(K:PySem.W.Frag) (cl:Cls) (f:List W→List Cell→Res W) (r:List V→Hp→VK→Prop):Prop :=
 ∀E0 ρ G st H ws vs Q Z,(bs K cl E0).Rel ρ G st H→RWs K cl ρ G ws vs→Aft (bs K cl E0) (bs K cl E0).RW ρ G (f ws st) Q Z→r vs H Q
def zAJ(f:List W→List Cell→Res W) (a:AM):EM:=fun σ st=>(a σ st).bind f
theorem zAT{id:String}{r:List V→Hp→VK→Prop}{f:List W→List Cell→Res W}{a:AM}{x:Str}{p pos:Pos}{e:Expr}{es:List Expr} (hc:CallR X (.builtin id) r) (hf:zHM K cl f r) (hg:Gl X x) (hm:X.mg x=none) (hv:bootBuiltins x=some (.builtin id))
  (ha:SA K cl X Wx a (e::es)) (hn:x ≠ "__name__") (hdb:(x==("__debug__" : Str))=false)
  (he:starEach (e::es) X.env=(false,eval e X.env)::starEach es X.env) (hpl:(backTo pos (starEach es X.env)).any (·.1)=false):SE K cl X Wx (zAJ f a) (.Call (.Name x p) (e::es) [] pos):=by
 refine⟨fun E0 ρ G σ st τ H Q R S h=>T.of (pe_callB hc hg hm hv TA'.pa hn hdb he hpl) ?_⟩
 exact ha.run E0 ρ G σ st τ H _ R S (Aft.seq h fun ws st1 ρ1 G1 H1 vs e1 p1 s1 R1 u1 h1=>hf E0 ρ1 G1 st1 H1 ws vs Q _ R1 u1 h1)
theorem zAh{id:String}{r:List V→Hp→VK→Prop}{f:List W→List Cell→Res W}{a:AM}{x:Str}{p pos:Pos}{e:Expr}{es:List Expr} (hc:CallR X (.type id) r) (hf:zHM K cl f r) (hg:Gl X x) (hm:X.mg x=none) (hv:bootBuiltins x=some (.type id))
  (ha:SA K cl X Wx a (e::es)) (hn:x ≠ "__name__") (hdb:(x==("__debug__" : Str))=false)
  (he:starEach (e::es) X.env=(false,eval e X.env)::starEach es X.env) (hpl:(backTo pos (starEach es X.env)).any (·.1)=false):SE K cl X Wx (zAJ f a) (.Call (.Name x p) (e::es) [] pos):=by
 refine⟨fun E0 ρ G σ st τ H Q R S h=>T.of (pe_callTy hc hg hm hv TA'.pa hn hdb he hpl) ?_⟩
 exact ha.run E0 ρ G σ st τ H _ R S (Aft.seq h fun ws st1 ρ1 G1 H1 vs e1 p1 s1 R1 u1 h1=>hf E0 ρ1 G1 st1 H1 ws vs Q _ R1 u1 h1)
theorem se_ix{r:R2}{f:W→W→List Cell→Res W}{a b:EM}{pa pb:Expr}{pos:Pos} (hr:IxR X r) (hf:VOp K cl f r) (hs:PlainIx pb) (ha:SE K cl X Wx a pa) (hb:SE K cl X Wx b pb) :
  SE K cl X Wx (mBin f a b) (.Subscript pa pb pos):=zQC (t:=tOp) (fun σ H Q q=>T.of (pe_ix hr T.pe T.pe hs) q) hf ha hb
theorem RWs.atI{l:List W}{vs:List V} (r:RWs K cl ρ G l vs){i:Int}{w:W} (h:L2.atI l i=some w):∃v,L2.atI vs i=some v∧RW K cl ρ G w v:=by
 unfold L2.atI at h ⊢;rw[←r.length];cases e:ixN l.length i with
 |none=>rw[e]at h;cases h
 |some j =>
  rw[e]at h;exact r.get h
theorem RPs.atI{l:List P}{vs:List V} (r:RPs K cl G l vs){i:Int}{w:P} (h:L2.atI l i=some w):∃v,L2.atI vs i=some v∧RP K cl G w v:=by
 unfold L2.atI at h ⊢;rw[←r.length];cases e:ixN l.length i with
 |none=>rw[e]at h;cases h
 |some j =>
  rw[e]at h;exact r.get h
def vIx(x y:W) (st:List Cell):Res W:=match y with
 | .p (.int i)=>match x with
  | .p (.tup l)=>match L2.atI l i with
   |some z=>.ok (.p z) st
   |none=>.no
  | .p (.str s)=>if s.length≤LIM then match L2.atI s.cps.toList i with
   |some c=>.ok (.p (.str ⟨#[c]⟩)) st
   |none=>.no else .no
  |_=>match zIj st x with
   |some l=>match L2.atI l i with
    |some z=>.ok z st
    |none=>.no
   |none=>.no
 |_=>.no
theorem vIx_ok:VOp K cl vIx (rIx K):=by
 intro E0 ρ G st H x y v u Q Z R rx ry h;unfold vIx at h;split at h
 ·rename_i i
  cases ry;split at h
  ·rename_i l
   cases rx with
   |tup hs q =>
    split at h
    ·rename_i z e
     obtain⟨v,e2,r2⟩:=q.atI e;exact .inr (.inl ⟨_,_,i,v,rfl,rfl,R.sub.sqT hs,e2,h.here R r2⟩)
    ·exact h.elim
  ·rename_i s
   cases rx;split at h
   ·rename_i hl
    split at h
    ·rename_i c e
     exact .inr (.inr ⟨s,i,c,rfl,rfl,zCo hl,e,h.here R (RP.str _)⟩)
    ·exact h.elim
   ·exact h.elim
  ·split at h
   ·rename_i l e
    obtain⟨a,vs,rfl,h1,h2⟩:=zKE R rx e;split at h
    ·rename_i z e2
     obtain⟨v,e3,r3⟩:=h2.atI e2;exact .inl ⟨a,vs,i,v,rfl,rfl,.inl (.inl h1),e3,h.here R r3⟩
    ·exact h.elim
   ·exact h.elim
 ·exact h.elim
def vLen(ws:List W) (st:List Cell):Res W:=match ws with
 |[.p (.tup l)]=>.ok (.p (.int l.length)) st
 |[.p (.str s)]=>if s.length≤LIM then .ok (.p (.int s.length)) st else .no
 |[.p (.dk ks _)]=>.ok (.p (.int ks.length)) st
 |[w]=>match zIj st w with
  |some l=>.ok (.p (.int l.length)) st
  |none=>match w with
   | .r i=>match st[i]? with
    |some (.dk ks _)=>.ok (.p (.int ks.length)) st
    |_=>.no
   |_=>.no
 |_=>.no
def rLen(K:PySem.W.Frag):List V→Hp→VK→Prop:=fun xs H Q=>(∃x n,xs=[x]∧LenV K x H n∧Q (.int n) H)∨∃a kvs,xs=[V.ref a]∧H a=some (.dK kvs)∧Q (.int kvs.length) H
theorem zAa:CallR X (.builtin "len") (rLen X.K):=call_len.or call_lenD
theorem zMG{α β:Type}{l:List α}{m:List β} (h:l.length=m.length):(l.zip m).length=l.length:=by
 rw[V7,h,Nat.min_self]
theorem zAq:zHM K cl vLen (rLen K):=by
 intro E0 ρ G st H ws vs Q Z R rw' h;unfold vLen at h;split at h
 ·rename_i l
  cases rw' with
  |cons r rn =>
   cases rn;cases r with
   |tup hs q=>exact .inl ⟨_,_,rfl,.inr ⟨_,R.sub.sqT hs,rfl⟩,by rw[←q.length];exact h.here R (RP.int _)⟩
 ·rename_i s
  cases rw' with
  |cons r rn =>
   cases rn;cases r;split at h
   ·rename_i hl
    exact .inl ⟨_,_,rfl,⟨zCo hl,rfl⟩,h.here R (RP.int _)⟩
   ·exact h.elim
 ·rename_i ks l
  cases rw' with
  |cons r rn =>
   cases rn;cases r with
   |dk hs z q=>exact .inr ⟨_,_,rfl,R.sub _ _ hs,by rw[zMG z];exact h.here R (RP.int _)⟩
 ·rename_i w _ _ _
  cases rw' with
  |cons r rn =>
   cases rn;split at h
   ·rename_i l e
    obtain⟨a,vs,rfl,h1,h2⟩:=zKE R r e;exact .inl ⟨_,_,rfl,.inl ⟨vs,.inl (.inl h1),rfl⟩,by rw[←h2.length];exact h.here R (RP.int _)⟩
   ·split at h
    ·rename_i i _
     obtain⟨a,ha,rfl⟩:=r;split at h
     ·rename_i ks l em
      obtain⟨b,hb,⟨vs,h1,z,h2⟩,_⟩:=R.at em;cases Jd (ha.symm.trans hb);exact .inr ⟨_,_,rfl,h1,by rw[zMG z];exact h.here R (RP.int _)⟩
     ·exact h.elim
    ·exact h.elim
 ·exact h.elim
end
def SR.then(r:SR) (k:Sg→List Cell→SR):SR:=match r with
 | .ok .nx σ st=>k σ st
 |r=>r
def Res.to{α:Type} (r:Res α) (σ:Sg) (k:α→List Cell→SR):SR:=match r with
 | .ok a st=>k a st
 | .exc x st=>.exc x σ st
 | .no=>.no
def AftS(B:Bs) (ρ:List Addr) (G:Hp) (R:SR) (D:Ends) (Wx:WX):Prop:=match R with
 | .ok f σ st=>∀ρ' G' H' τ',ρ <+: ρ'→Sub G G'→B.Rel ρ' G' st H'→B.RS ρ' G' σ τ'→(match f with
  | .nx=>D.nx τ' H'
  | .bk=>D.bk τ' H'
  | .ct=>D.ct τ' H'
  | .rt w=>∀v,B.RW ρ' G' w v→D.rt v H')
 | .exc x σ st=>∀ρ' G' H' τ' cls d,ρ <+: ρ'→Sub G G'→B.Rel ρ' G' st H'→B.RS ρ' G' σ τ'→RX B.K B.cl G' H' x cls d→Wx cls d τ' H'
 | .no=>False
def TS'(X:Cx) (e:Stmt):TS:=fun D σ H=>∀(pins:List (Addr×Obj)) (s:Shared),Inv X pins σ H s→wpAny (model X.prog X.w) X.A (exec e X.env) (SP X pins D) X.xe s
def TSs'(X:Cx) (e:List Stmt):TS:=fun D σ H=>∀(pins:List (Addr×Obj)) (s:Shared),Inv X pins σ H s→wpAny (model X.prog X.w) X.A (execs e X.env) (SP X pins D) X.xe s
theorem TS'.ps{X:Cx}{e:Stmt}:PS X e (TS' X e):=⟨fun pins s σ H Q I h=>h pins s I⟩
theorem TSs'.pss{X:Cx}{e:List Stmt}:PSs X e (TSs' X e):=⟨fun pins s σ H Q I h=>h pins s I⟩
theorem TS'.of{X:Cx}{e:Stmt}{t:TS}{σ:L2.St}{H:Hp}{D:Ends} (h:PS X e t) (q:t D σ H):TS' X e D σ H:=fun pins s I=>h.run pins s σ H D I q
theorem TSs'.of{X:Cx}{e:List Stmt}{t:TS}{σ:L2.St}{H:Hp}{D:Ends} (h:PSs X e t) (q:t D σ H):TSs' X e D σ H:=fun pins s I=>h.run pins s σ H D I q
structure SS (K:PySem.W.Frag) (cl:Cls) (X:Cx) (Wx:WX) (m:SMm) (e:Stmt):Prop where
 run:∀E0 ρ G σ st τ H D,(bs K cl E0).Rel ρ G st H→RS K cl ρ G σ τ→AftS (bs K cl E0) ρ G (m σ st) D Wx→TS' X e D τ H
structure SSs (K:PySem.W.Frag) (cl:Cls) (X:Cx) (Wx:WX) (m:SMm) (e:List Stmt):Prop where
 run:∀E0 ρ G σ st τ H D,(bs K cl E0).Rel ρ G st H→RS K cl ρ G σ τ→AftS (bs K cl E0) ρ G (m σ st) D Wx→TSs' X e D τ H
section
variable {K:PySem.W.Frag}{cl:Cls}{X:Cx}{Wx:WX}{E0:En}{ρ ρ':List Addr}{G G':Hp}{σ:Sg}{τ:L2.St}{st:List Cell}{H:Hp}{D:Ends}
theorem AftS.mono{B:Bs}{R:SR} (p:ρ <+: ρ') (s:Sub G G') (h:AftS B ρ G R D Wx):AftS B ρ' G' R D Wx:=by
 cases R with
 |ok f σ st=>exact fun ρ2 G2 H2 b p2 s2 r u=>h ρ2 G2 H2 b (p.trans p2) (s.trans s2) r u
 |exc x σ st=>exact fun ρ2 G2 H2 τ c d p2 s2 r u=>h ρ2 G2 H2 τ c d (p.trans p2) (s.trans s2) r u
 |no=>exact h
theorem AftS.nx{B:Bs} (h:AftS B ρ G (.ok .nx σ st) D Wx) (R:B.Rel ρ G st H) (S:B.RS ρ G σ τ):D.nx τ H:=h ρ G H τ (Je _) (Sub.refl _) R S
theorem AftS.rt{B:Bs}{w:W}{v:V} (h:AftS B ρ G (.ok (.rt w) σ st) D Wx) (R:B.Rel ρ G st H) (S:B.RS ρ G σ τ) (u:B.RW ρ G w v):D.rt v H:=h ρ G H τ (Je _) (Sub.refl _) R S v u
theorem AftS.seq{B:Bs}{α β:Type}{U:List Addr→Hp→α→β→Prop}{R:Res α}{k:α→List Cell→SR}{Q':β→Hp→Prop} (S:B.RS ρ G σ τ) (h:AftS B ρ G (R.to σ k) D Wx)
  (g:∀a st ρ' G' H' b,R=.ok a st→ρ <+: ρ'→Sub G G'→B.Rel ρ' G' st H'→U ρ' G' a b→AftS B ρ' G' (k a st) D Wx→Q' b H'):Aft B U ρ G R Q' (fun c d H'=>Wx c d τ H'):=by
 cases R with
 |ok a st=>exact fun ρ2 G2 H2 b p s r u=>g a st ρ2 G2 H2 b rfl p s r u (AftS.mono p s h)
 |exc x st=>exact fun ρ2 G2 H2 c d p s r u=>h ρ2 G2 H2 τ c d p s r (S.mono p s) u
 |no=>exact h
theorem AftS.thn{B:Bs}{R:SR}{k:Sg→List Cell→SR}{D':Ends} (h:AftS B ρ G (R.then k) D Wx)
  (g:∀σ st ρ' G' H' τ',R=.ok .nx σ st→ρ <+: ρ'→Sub G G'→B.Rel ρ' G' st H'→B.RS ρ' G' σ τ'→AftS B ρ' G' (k σ st) D Wx→D'.nx τ' H') (hr:D'.rt=D.rt) (hb:D'.bk=D.bk) (hc:D'.ct=D.ct):AftS B ρ G R D' Wx:=by
 cases R with
 |ok f σ st =>
  cases f with
  |nx=>exact fun ρ2 G2 H2 τ2 p s r u=>g σ st ρ2 G2 H2 τ2 rfl p s r u (AftS.mono p s h)
  |rt w=>intro ρ2 G2 H2 τ2 p s r u v q;rw[hr];exact h ρ2 G2 H2 τ2 p s r u v q
  |bk=>intro ρ2 G2 H2 τ2 p s r u;show D'.bk τ2 H2;rw[hb];exact h ρ2 G2 H2 τ2 p s r u
  |ct=>intro ρ2 G2 H2 τ2 p s r u;show D'.ct τ2 H2;rw[hc];exact h ρ2 G2 H2 τ2 p s r u
 |exc x σ st=>exact h
 |no=>exact h.elim
def sNx:SMm:=fun σ st=>.ok .nx σ st
def sSeq(a b:SMm):SMm:=fun σ st=>(a σ st).then b
theorem zAd:SSs K cl X Wx sNx []:=⟨fun E0 ρ G σ st τ H D R S h=>TSs'.of pss_nil (AftS.nx h R S)⟩
theorem zAI{a:SMm}{s:Stmt} (h:SS K cl X Wx a s):SSs K cl X Wx a [s]:=⟨fun E0 ρ G σ st τ H D R S q=>TSs'.of (YH TS'.ps) (h.run E0 ρ G σ st τ H D R S q)⟩
theorem zAF{a b:SMm}{s:Stmt}{ss:List Stmt} (h1:SS K cl X Wx a s) (h2:SSs K cl X Wx b ss):SSs K cl X Wx (sSeq a b) (s::ss):=by
 refine⟨fun E0 ρ G σ st τ H D R S h=>TSs'.of (pss_cons TS'.ps TSs'.pss) ?_⟩
 refine h1.run E0 ρ G σ st τ H _ R S (AftS.thn (D' := { D with nx:=TSs' X ss D }) h (fun σ1 st1 ρ1 G1 H1 τ1 e p s R1 S1 h1=>?_) rfl rfl rfl)
 exact h2.run E0 ρ1 G1 σ1 st1 τ1 H1 D R1 S1 h1
def sBrk:SMm:=fun σ st=>.ok .bk σ st
def sCnt:SMm:=fun σ st=>.ok .ct σ st
theorem zKn{pos:Pos}:SS K cl X Wx sBrk (.Break pos):=⟨fun E0 ρ G σ st τ H D R S h=>TS'.of ps_break (h ρ G H τ (Je _) (Sub.refl _) R S)⟩
theorem zQw{pos:Pos}:SS K cl X Wx sCnt (.Continue pos):=⟨fun E0 ρ G σ st τ H D R S h=>TS'.of ps_continue (h ρ G H τ (Je _) (Sub.refl _) R S)⟩
def sRet(m:EM):SMm:=fun σ st=>(m σ st).to σ fun w st1=>.ok (.rt w) σ st1
theorem zAQ{m:EM}{e:Expr}{pos:Pos} (h:SE K cl X Wx m e):SS K cl X Wx (sRet m) (.Return (some e) pos):=by
 refine⟨fun E0 ρ G σ st τ H D R S q=>TS'.of (bF T.pe) ?_⟩
 exact h.run E0 ρ G σ st τ H _ R S (AftS.seq S q fun w st1 ρ1 G1 H1 v e1 p1 s1 R1 u1 h1=>AftS.rt h1 R1 (RS.mono p1 s1 S) u1)
def zEG(m:EM):SMm:=fun σ st=>(m σ st).to σ fun _ st1=>.ok .nx σ st1
theorem zEp{m:EM}{e:Expr}{pos:Pos} (h:SE K cl X Wx m e) (hs:swapsWith e none pos.line X.env=pure false):SS K cl X Wx (zEG m) (.Expr e pos):=by
 refine⟨fun E0 ρ G σ st τ H D R S q=>TS'.of (ps_expr T.pe hs) ?_⟩
 exact h.run E0 ρ G σ st τ H _ R S (AftS.seq S q fun w st1 ρ1 G1 H1 v e1 p1 s1 R1 u1 h1=>AftS.nx h1 R1 (RS.mono p1 s1 S))
def sSet(i:Nat) (m:EM):SMm:=fun σ st=>(m σ st).to σ fun w st1=>.ok .nx (σ.set i (some w)) st1
theorem zAb{i:Nat}{m:EM}{x:Str}{e:Expr}{pos pos':Pos} (g:GX K X) (hi:X.N[i]?=some x) (hx:Loc X.env.scope x) (h:SE K cl X Wx m e) (hs:swapsWith e (some (.Name x pos')) pos.line X.env=pure false)
  (hf:X.fn x=true∨X.env.scope.names.lookup x=some .local):SS K cl X Wx (sSet i m) (.Assign [.Name x pos'] e pos):=by
 refine⟨fun E0 ρ G σ st τ H D R S q=>TS'.of (ps_set g.hN hi hx T.pe hs hf) ?_⟩
 exact h.run E0 ρ G σ st τ H _ R S (AftS.seq S q fun w st1 ρ1 G1 H1 v e1 p1 s1 R1 u1 h1=>AftS.nx h1 R1 ((RS.mono p1 s1 S).set u1 i))
def sIf(c:TM) (a b:SMm):SMm:=fun σ st=>(c σ st).to σ fun k st1=>if k=true then a σ st1 else b σ st1
theorem zAw{c:TM}{a b:SMm}{e:Expr}{sa sb:List Stmt}{pos:Pos} (hc:ST K cl X Wx c e) (ha:SSs K cl X Wx a sa) (hb:SSs K cl X Wx b sb):SS K cl X Wx (sIf c a b) (.If e sa sb pos):=by
 refine⟨fun E0 ρ G σ st τ H D R S q=>TS'.of (ps_if TT'.pt TSs'.pss TSs'.pss) ?_⟩
 refine hc.run E0 ρ G σ st τ H _ R S (AftS.seq S q fun k st1 ρ1 G1 H1 k' e1 p1 s1 R1 u1 h1=>?_)
 obtain rfl:k=k':=u1;cases k with
 |true=>exact ha.run E0 ρ1 G1 σ st1 τ H1 D R1 (S.mono p1 s1) h1
 |false=>exact hb.run E0 ρ1 G1 σ st1 τ H1 D R1 (S.mono p1 s1) h1
mutual
def Tg.put:Tg→W→Sg→Option Sg
 | .nm i,w,σ=>some (σ.set i (some w))
 | .tp ts,.p (.tup l),σ=>Tg.puts ts l σ
 | .tp _,_,_=>none
def Tg.puts:List Tg→List P→Sg→Option Sg
 |[],[],σ=>some σ
 |t::ts,x::l,σ=>match Tg.put t (.p x) σ with
  |some σ'=>Tg.puts ts l σ'
  |none=>none
 |_,_,_=>none
end
def TGc(X:Cx) (e:Expr):TG:=fun v σ H Q=>∀(pins:List (Addr×Obj)) (s:Shared) (u:Value),Inv X pins σ H s→RelV v u →
 wpAny (model X.prog X.w) X.A (PySem.assign e X.env u) (fun _ s'=>∃σ' H',Inv X pins σ' H' s'∧Q σ' H') X.xe s
def TGsc(X:Cx) (es:List Expr):TGs:=fun vs σ H Q=>∀(pins:List (Addr×Obj)) (s:Shared) (us:List Value),Inv X pins σ H s→Vals vs us →
 wpAny (model X.prog X.w) X.A (assignInOrder ((assignEach es X.env).map (·.2)) us) (fun _ s'=>∃σ' H',Inv X pins σ' H' s'∧Q σ' H') X.xe s
theorem TGc.pg{e:Expr}:PG X e (TGc X e):=⟨fun pins s σ H v u Q I r h=>h pins s u I r⟩
theorem TGsc.pgs{es:List Expr}:PGs X es (TGsc X es):=⟨fun pins s σ H vs us Q I r h=>h pins s us I r⟩
theorem TGc.of{e:Expr}{t:TG}{v:V}{H:Hp}{Q:L2.St→Hp→Prop} (h:PG X e t) (q:t v τ H Q):TGc X e v τ H Q:=fun pins s u I r=>h.run pins s τ H v u Q I r q
theorem TGsc.of{es:List Expr}{t:TGs}{vs:List V}{H:Hp}{Q:L2.St→Hp→Prop} (h:PGs X es t) (q:t vs τ H Q):TGsc X es vs τ H Q:=fun pins s us I r=>h.run pins s τ H vs us Q I r q
theorem zGE{σ:L2.St}{j:Nat}:∀ {vs:List Nat},(wipe σ vs)[j]?=if j∈vs∧j<σ.length then some none else σ[j]?
 |[]=>by simp[wipe]
 |v::vs=>by
  have ih:=zGE (σ:=σ) (j:=j) (vs:=vs);unfold wipe
  by_cases h:v=j
  ·subst h
   by_cases hl:v<σ.length
   ·rw[JL (by rw[wipe_length];exact hl),Jm ⟨Jc,hl⟩]
   ·rw[Js (fun z=>hl z.2),Jw (by rw[JQ,wipe_length];omega),Jw ∅]
  ·rw[JN h,ih]
   have:j∈v::vs↔j∈vs:=by
    rw[Jr];exact⟨fun z=>z.resolve_left (fun q=>h q.symm),.inr⟩
   simp only[this]
theorem zNU{σ σ':L2.St}{vs:List Nat} (hl:σ.length=σ'.length) (h:∀j,j∉vs→σ[j]?=σ'[j]?):wipe σ vs=wipe σ' vs:=by
 refine List.ext_getElem? fun j=>?_
 rw[zGE,zGE,hl]
 by_cases hj:j∈vs
 ·by_cases hk:j<σ'.length
  ·rw[Jm ⟨hj,hk⟩,Jm ⟨hj,hk⟩]
  ·rw[Js (fun z=>hk z.2),Js (fun z=>hk z.2),Jw ∅,Jw ∅]
 ·rw[Js (fun z=>hj z.1),Js (fun z=>hj z.1)];exact h j hj
theorem zOQ{σ:L2.St}{i:Nat}{x:Option V}{vs:List Nat} (h:i∈vs):wipe (σ.set i x) vs=wipe σ vs :=
 zNU (JQ ..) fun j hj=>JN (fun z=>hj (by rw[←z];exact h))
theorem zGx{σ:L2.St}{vs:List Nat}:wipe (wipe σ vs) vs=wipe σ vs :=
 zNU (wipe_length ..) fun j hj=>by rw[zGE,Js (fun z=>hj z.1)]
structure SG (K:PySem.W.Frag) (cl:Cls) (X:Cx) (t:Tg) (e:Expr):Prop where
 run:∀ρ G H w v σ σ' τ (Q:L2.St→Hp→Prop),Sub G H→RS K cl ρ G σ τ→RW K cl ρ G w v→t.put w σ=some σ'→(∀τ',RS K cl ρ G σ' τ'→(∀vs,(∀i∈t.slots,i∈vs)→wipe τ' vs=wipe τ vs)→Q τ' H)→TGc X e v τ H Q
structure SGs (K:PySem.W.Frag) (cl:Cls) (X:Cx) (t:List Tg) (es:List Expr):Prop where
 run:∀ρ G H l vs σ σ' τ (Q:L2.St→Hp→Prop),Sub G H→RS K cl ρ G σ τ→RPs K cl G l vs→Tg.puts t l σ=some σ'→(∀τ',RS K cl ρ G σ' τ'→(∀vs,(∀i∈Tg.slotss t,i∈vs)→wipe τ' vs=wipe τ vs)→Q τ' H)→TGsc X es vs τ H Q
theorem zQJ{i:Nat}{x:Str}{pos:Pos} (g:GX K X) (hi:X.N[i]?=some x) (hx:Loc X.env.scope x) (hf:X.fn x=true∨X.env.scope.names.lookup x=some .local):SG K cl X (.nm i) (.Name x pos):=by
 refine⟨fun ρ G H w v σ σ' τ Q sub S r e k=>TGc.of (pg_name g.hN hi hx hf) ?_⟩
 have e:some (σ.set i (some w))=some σ':=by simpa[Tg.put]using e
 cases e;exact k _ (S.set r i) fun vs h=>zOQ (h i (by simp[Tg.slots]))
theorem zCr:SGs K cl X [] []:=by
 refine⟨fun ρ G H l vs σ σ' τ Q sub S r e k=>TGsc.of pgs_nil ?_⟩
 cases r with
 |nil =>
  have e:some σ=some σ':=by simpa[Tg.puts]using e
  cases e;exact⟨rfl,k _ S fun _ _=>rfl⟩
 |cons _ _=>simp[Tg.puts]at e
theorem zAp{t:Tg}{ts:List Tg}{e:Expr}{es:List Expr} (h1:SG K cl X t e) (h2:SGs K cl X ts es) (hs:(assignEach (e::es) X.env).map (·.2)=PySem.assign e X.env::(assignEach es X.env).map (·.2)):SGs K cl X (t::ts) (e::es):=by
 refine⟨fun ρ G H l vs σ σ' τ Q sub S r e k=>TGsc.of (pgs_cons TGc.pg TGsc.pgs hs) ?_⟩
 cases r with
 |nil=>simp[Tg.puts]at e
 |cons r rs =>
  simp only[Tg.puts]at e;split at e
  ·rename_i σ1 e1
   refine⟨_,_,rfl,?_⟩
   exact h1.run ρ G H (.p _) _ σ σ1 τ _ sub S r e1 fun τ1 S1 w1=>h2.run ρ G H _ _ σ1 σ' τ1 Q sub S1 rs e fun τ2 S2 w2=>k τ2 S2 fun vs h =>
    (w2 vs fun i hi=>h i (by simp[Tg.slotss,hi])).trans (w1 vs fun i hi=>h i (by simp[Tg.slotss,hi]))
  ·cases e
theorem zKj:∀ {ts:List Tg}{l:List P}{σ σ':Sg},Tg.puts ts l σ=some σ'→l.length=ts.length
 |[],[],_,_,_=>rfl
 |t::ts,x::l,σ,σ',e=>by
  simp only[Tg.puts]at e;split at e
  ·exact congrArg Nat.succ (zKj e)
  ·cases e
 |[],_::_,_,_,e=>by simp[Tg.puts]at e
 |_::_,[],_,_,e=>by simp[Tg.puts]at e
theorem zD3{ts:List Tg}{es:List Expr}{k:Nat}{pos:Pos} (g:GX K X) (h:SGs K cl X ts es) (hl:es.length=ts.length) (hn:(assignEach es X.env).length=es.length) (hst:(assignEach es X.env).findIdx? (·.1)=none):SG K cl X (.tp ts) (.Tuple es k pos):=by
 refine⟨fun ρ G H w v σ σ' τ Q sub S r e k=>TGc.of (pg_tup (n:=es.length) g.hc TGsc.pgs hn hst) ?_⟩
 cases w with
 |r i=>simp[Tg.put]at e
 |p x =>
  cases r with
  |tup hs q =>
   simp only[Tg.put]at e;refine⟨_,_,rfl,?_,?_,h.run ρ G H _ _ σ σ' τ Q sub S q e k⟩
   ·rw[g.hK];exact sub.sqT hs
   ·rw[←q.length,hl];exact zKj e
  |_=>simp[Tg.put]at e
def sPut(t:Tg) (m:EM):SMm:=fun σ st=>(m σ st).to σ fun w st1=>match t.put w σ with
 |some σ'=>.ok .nx σ' st1
 |none=>.no
theorem zG2{t:Tg}{m:EM}{tg e:Expr}{pos:Pos} (ht:SG K cl X t tg) (h:SE K cl X Wx m e) (hs:swapsWithSole [tg] e pos.line X.env=pure false) (hw:swappedStores [tg] e X.env=pure none)
  (h1:(assignEach [tg] X.env).map (·.2)=[PySem.assign tg X.env]):SS K cl X Wx (sPut t m) (.Assign [tg] e pos):=by
 refine⟨fun E0 ρ G σ st τ H D R S q=>TS'.of (ps_asg T.pe TGc.pg hs hw h1) ?_⟩
 refine h.run E0 ρ G σ st τ H _ R S (AftS.seq S q fun w st1 ρ1 G1 H1 v e1 p1 s1 R1 u1 h1=>?_)
 split at h1
 ·rename_i σ' e
  exact ht.run ρ1 G1 H1 w v σ σ' τ _ R1.sub (S.mono p1 s1) u1 e fun τ' S' _=>AftS.nx h1 R1 S'
 ·exact h1.elim
def sPar(i j:Nat) (a:AM):SMm:=fun σ st=>(a σ st).to σ fun ws st1=>match ws with
 |[v,w]=>.ok .nx ((σ.set i (some v)).set j (some w)) st1
 |_=>.no
theorem zKK{i j:Nat}{x y:Str}{a b:Expr}{m:AM}{px py pt:Pos}{kt k2:Nat}{pt2 pos:Pos} (g:GX K X) (hi:X.N[i]?=some x) (hj:X.N[j]?=some y) (hij:i≠j)
  (hx:X.env.scope.names.lookup x=some .local) (hy:X.env.scope.names.lookup y=some .local) (ha:SA K cl X Wx m [a,b])
  (hw:swappedStores [.Tuple [.Name x px,.Name y py] kt pt] (.Tuple [a,b] k2 pt2) X.env=pure (some [x,y]))
  (hs:swapsWithSole [.Tuple [.Name x px,.Name y py] kt pt] (.Tuple [a,b] k2 pt2) pos.line X.env=pure false) :
  SS K cl X Wx (sPar i j m) (.Assign [.Tuple [.Name x px,.Name y py] kt pt] (.Tuple [a,b] k2 pt2) pos):=by
 refine⟨fun E0 ρ G σ st τ H D R S q=>TS'.of (ps_par g.hc g.hN hi hj hij hx hy TA'.pa hw hs) ?_⟩
 refine ha.run E0 ρ G σ st τ H _ R S (AftS.seq S q fun ws st1 ρ1 G1 H1 vs e1 p1 s1 R1 u1 h1=>?_)
 split at h1
 ·rename_i v w
  cases u1 with
  |cons r1 u2 =>
   cases u2 with
   |cons r2 u3 =>
    cases u3;exact⟨_,_,rfl,AftS.nx h1 R1 (((RS.mono p1 s1 S).set r1 i).set r2 j)⟩
 ·exact h1.elim
def zBh(c:TM) (b:SMm):Nat→Sg→List Cell→SR
 |0,_,_=>.no
 |n+1,σ,st=>(c σ st).to σ fun k st1=>if k=true then(match b σ st1 with
  | .ok .nx σ2 st2=>zBh c b n σ2 st2
  | .ok .ct σ2 st2=>zBh c b n σ2 st2
  | .ok .bk σ2 st2=>.ok .nx σ2 st2
  |r=>r)else .ok .nx σ st1
def zDa(n:Nat) (c:TM) (b:SMm):SMm:=fun σ st=>zBh c b n σ st
theorem zEd{n:Nat}{c:TM}{b:SMm}{e:Expr}{sb:List Stmt}{pos:Pos} (hp:PassesOwn (model X.prog X.w) X.A X.env X.xe) (hc:ST K cl X Wx c e) (hb:SSs K cl X Wx b sb):SS K cl X Wx (zDa n c b) (.While e sb [] pos):=by
 refine⟨fun E0 ρ G σ st τ H D R S q=>TS'.of (ps_while hp TT'.pt TSs'.pss) ?_⟩
 refine⟨fun m τ' H'=>∃ρ' G' σ' st',(bs K cl E0).Rel ρ' G' st' H'∧RS K cl ρ' G' σ' τ'∧AftS (bs K cl E0) ρ' G' (zBh c b m σ' st') D Wx,⟨n,ρ,G,σ,st,R,S,q⟩,?_⟩
 rintro m τ1 H1 ⟨ρ1,G1,σ1,st1,R1,S1,q1⟩;cases m with
 |zero=>exact q1.elim
 |succ m =>
  refine hc.run E0 ρ1 G1 σ1 st1 τ1 H1 _ R1 S1 (AftS.seq S1 q1 fun k st2 ρ2 G2 H2 k' e2 p2 s2 R2 u2 h2=>?_)
  obtain rfl:k=k':=u2;cases k with
  |false=>exact AftS.nx h2 R2 (RS.mono p2 s2 S1)
  |true =>
   refine⟨fun τ' H'=>∃m',m'<m+1∧∃ρ' G' σ' st',(bs K cl E0).Rel ρ' G' st' H'∧RS K cl ρ' G' σ' τ'∧AftS (bs K cl E0) ρ' G' (zBh c b m' σ' st') D Wx,fun _ _ z=>z,?_⟩
   refine hb.run E0 ρ2 G2 σ1 st2 τ1 H2 _ R2 (RS.mono p2 s2 S1) ?_
   have h2:AftS (bs K cl E0) ρ2 G2 (match b σ1 st2 with
    | .ok .nx σ2 st2=>zBh c b m σ2 st2
    | .ok .ct σ2 st2=>zBh c b m σ2 st2
    | .ok .bk σ2 st2=>.ok .nx σ2 st2
    |r=>r) D Wx:=h2
   cases er:b σ1 st2 with
   |no=>rw[er]at h2;exact h2.elim
   |exc x σ3 st3=>rw[er]at h2;exact h2
   |ok f σ3 st3 =>
    rw[er]at h2;cases f with
    |nx=>exact fun ρ3 G3 H3 τ3 p3 s3 R3 S3=>⟨m,Vf m,ρ3,G3,σ3,st3,R3,S3,AftS.mono p3 s3 h2⟩
    |ct=>exact fun ρ3 G3 H3 τ3 p3 s3 R3 S3=>⟨m,Vf m,ρ3,G3,σ3,st3,R3,S3,AftS.mono p3 s3 h2⟩
    |bk=>exact fun ρ3 G3 H3 τ3 p3 s3 R3 S3=>h2 ρ3 G3 H3 τ3 p3 s3 R3 S3
    |rt w=>exact h2
end
def WOk(K:PySem.W.Frag) (cl:Cls) (ρ:List Addr) (G:Hp) (J:It) (src:Src):Prop :=
 ∀E0 ρ' G' st H i,ρ <+: ρ'→Sub G G'→(bs K cl E0).Rel ρ' G' st H→match src.get st i with
  |none=>True
  |some none=>J.stop i H
  |some (some w)=>J.go i H∧∀x H',J.yld i H x H'→∃G'',Sub G' G''∧(bs K cl E0).Rel ρ' G'' st H'∧RW K cl ρ' G'' w x
def TIc(X:Cx) (tg e:Expr):TI:=fun σ H R=>∀(pins:List (Addr×Obj)) (s:Shared),Inv X pins σ H s →
 wpAny (model X.prog X.w) X.A (eval e X.env) (fun v s1=>wpAny (model X.prog X.w) X.A (pyIter v) (PIE X pins σ tg R) X.xe s1) X.xe s
theorem TIc.pi{X:Cx}{tg e:Expr}:PI X tg e (TIc X tg e):=⟨fun pins s σ H R I h=>h pins s I⟩
theorem TIc.of{X:Cx}{tg e:Expr}{wi:TI}{σ:L2.St}{H:Hp}{R:It→Hp→Prop} (h:PI X tg e wi) (q:wi σ H R):TIc X tg e σ H R:=fun pins s I=>h.run pins s σ H R I q
structure SI (K:PySem.W.Frag) (cl:Cls) (X:Cx) (Wx:WX) (tg:Expr) (m:IM) (e:Expr):Prop where
 run:∀E0 ρ G σ st τ H R,(bs K cl E0).Rel ρ G st H→RS K cl ρ G σ τ→Aft (bs K cl E0) (fun ρ G (a:Src) (J:It)=>WOk K cl ρ G J a) ρ G (m σ st) R (fun c d H'=>Wx c d τ H')→TIc X tg e τ H R
section
variable {K:PySem.W.Frag}{cl:Cls}{X:Cx}{Wx:WX}{E0:En}{ρ ρ':List Addr}{G G':Hp}{σ:Sg}{τ:L2.St}{st:List Cell}{H:Hp}{D:Ends}
def forF(src:Src) (t:Tg) (b:SMm):Nat→Nat→Sg→List Cell→SR
 |0,_,_,_=>.no
 |n+1,i,σ,st=>match src.get st i with
  |none=>.no
  |some none=>.ok .nx σ st
  |some (some w)=>match t.put w σ with
   |none=>.no
   |some σ1=>match b σ1 st with
    | .ok .nx σ2 st2=>forF src t b n (i+1) σ2 st2
    | .ok .ct σ2 st2=>forF src t b n (i+1) σ2 st2
    | .ok .bk σ2 st2=>.ok .nx σ2 st2
    |r=>r
def sFor(m:IM) (t:Tg) (b:SMm):SMm:=fun σ st=>(m σ st).to σ fun src st1=>forF src t b (src.n+1) 0 σ st1
theorem zFi{m:IM}{t:Tg}{b:SMm}{tg iter:Expr}{body:List Stmt}{pos:Pos} (hp:PassesOwn (model X.prog X.w) X.A X.env X.xe) (g:GX K X) (hi:SI K cl X Wx tg m iter) (ht:SG K cl X t tg) (hb:SSs K cl X Wx b body)
  (hs:∀x,foldedSetIterable iter X.env x=pure x:=by intro _;rfl):SS K cl X Wx (sFor m t b) (.For tg iter body [] pos):=by
 refine⟨fun E0 ρ G σ st τ H D R S q=>TS'.of (ps_for hp g.hc TIc.pi TGc.pg TSs'.pss hs) ?_⟩
 refine hi.run E0 ρ G σ st τ H _ R S (AftS.seq S q fun src st1 ρ1 G1 H1 J e1 p1 s1 R1 wok h1=>?_)
 refine⟨fun i k τ' H'=>∃ρ' G' σ' st',ρ1 <+: ρ'∧Sub G1 G'∧(bs K cl E0).Rel ρ' G' st' H'∧RS K cl ρ' G' σ' τ'∧AftS (bs K cl E0) ρ' G' (forF src t b k i σ' st') D Wx,⟨src.n+1,ρ1,G1,σ,st1,Je _,Sub.refl _,R1,S.mono p1 s1,h1⟩,?_⟩
 rintro i k τ2 H2 ⟨ρ2,G2,σ2,st2,p2,s2,R2,S2,q2⟩;cases k with
 |zero=>exact q2.elim
 |succ k =>
  have w2:=wok E0 ρ2 G2 st2 H2 i p2 s2 R2;unfold forF at q2;cases eg:src.get st2 i with
  |none=>rw[eg]at q2;exact q2.elim
  |some ow =>
   rw[eg]at q2 w2;cases ow with
   |none=>exact .inl ⟨w2,AftS.nx q2 R2 S2⟩
   |some w =>
    dsimp only at q2 w2;refine .inr ⟨w2.1,fun τ' H'=>∃ρ' G' σ' st',ρ1 <+: ρ'∧Sub G1 G'∧(bs K cl E0).Rel ρ' G' st' H'∧RS K cl ρ' G' σ' τ'∧AftS (bs K cl E0) ρ' G' (forF src t b k (i+1) σ' st') D Wx,fun τ' H' z=>⟨k,Vf k,z⟩,fun x H3 y=>?_⟩
    obtain⟨G3,s3,R3,r3⟩:=w2.2 x H3 y;cases ep:t.put w σ2 with
    |none=>rw[ep]at q2;exact q2.elim
    |some σ3 =>
     rw[ep]at q2;dsimp only at q2;refine ht.run ρ2 G3 H3 w x σ2 σ3 τ2 _ R3.sub (S2.mono (Je _) s3) r3 ep fun τ3 S3 _=>?_
     refine hb.run E0 ρ2 G3 σ3 st2 τ3 H3 _ R3 S3 ?_
     cases er:b σ3 st2 with
     |no=>rw[er]at q2;exact q2.elim
     |exc x σ4 st4=>rw[er]at q2;exact AftS.mono (Je _) s3 q2
     |ok f σ4 st4 =>
      rw[er]at q2;cases f with
      |nx=>exact fun ρ4 G4 H4 τ4 p4 s4 R4 S4=>⟨ρ4,G4,σ4,st4,p2.trans p4,s2.trans (s3.trans s4),R4,S4,AftS.mono p4 (s3.trans s4) q2⟩
      |ct=>exact fun ρ4 G4 H4 τ4 p4 s4 R4 S4=>⟨ρ4,G4,σ4,st4,p2.trans p4,s2.trans (s3.trans s4),R4,S4,AftS.mono p4 (s3.trans s4) q2⟩
      |bk=>exact fun ρ4 G4 H4 τ4 p4 s4 R4 S4=>q2 ρ4 G4 H4 τ4 p4 (s3.trans s4) R4 S4
      |rt w=>exact AftS.mono (Je _) s3 q2
structure Hd (K:PySem.W.Frag) (cl:Cls) (E0:En) (D:Addr) (ρ:List Addr) (G:Hp) (st:List Cell) (H:Hp) (acc:List W) (Gh:Hp) (vs:List V):Prop where
 gD:Gh D=none
 gr:∀a u,Gh a=some u→E0.G0 a=some u∨E0.H0 a=none∨∃i:Nat,i<E0.n0∧ρ[i]?=some a
 hn:∀i:Nat,i<E0.n0→ρ[i]?≠some D
 l0:E0.n0≤ρ.length
 h0:E0.H0 D=none
 rw:RWs K cl ρ G acc vs
 R:(bs K cl (E0.hold Gh D (.lst vs))).Rel ρ G st H
theorem Hd.start{Dd:Addr} (R:(bs K cl E0).Rel ρ G st H) (h:H Dd=none):Hd K cl E0 Dd ρ G st (upd H Dd (.lst [])) [] G [] :=
 ⟨R.gnone h,R.grow,fun i _=>R.apart h i,R.n0,R.fresh0 h,.nil,R.hold h⟩
section
variable {Dd:Addr}{acc:List W}{Gh:Hp}{vs:List V}{st':List Cell}{H':Hp}
theorem Hd.held(h:Hd K cl E0 Dd ρ G st H acc Gh vs):H Dd=some (.lst vs)∧G Dd=none∧∀i:Nat,ρ[i]?≠some Dd:=Rel.held h.R h.hn h.gD
theorem Hd.next(h:Hd K cl E0 Dd ρ G st H acc Gh vs) (p:ρ <+: ρ') (s:Sub G G') (R:(bs K cl (E0.hold Gh Dd (.lst vs))).Rel ρ' G' st' H'):Hd K cl E0 Dd ρ' G' st' H' acc Gh vs:=by
 have keep:∀i:Nat,i<E0.n0→ρ'[i]?=ρ[i]?:=fun i hi=>by
  obtain⟨t,rfl⟩:=p;exact Jh (JZ hi h.l0)
 refine⟨h.gD,fun a u e=>?_,fun i hi=>by rw[keep i hi];exact h.hn i hi,Jt h.l0 p.length_le,h.h0,h.rw.mono p s,R⟩
 rcases h.gr a u e with q|q|⟨i,hi,q⟩
 ·exact .inl q
 ·exact .inr (.inl q)
 ·exact .inr (.inr ⟨i,hi,by rw[keep i hi];exact q⟩)
theorem Hd.back(h:Hd K cl E0 Dd ρ G st H acc Gh vs):(bs K cl E0).Rel ρ G st H:=Rel.unhold h.R h.h0 h.gr (Je _) h.l0
theorem Hd.push(h:Hd K cl E0 Dd ρ G st H acc Gh vs){w:W}{y:V} (r:RW K cl ρ G w y):Hd K cl E0 Dd ρ G st (upd H Dd (.lst (vs++[y]))) (acc++[w]) G (vs++[y]) :=
 ⟨h.held.2.1,h.back.grow,h.hn,h.l0,h.h0,h.rw.append (.cons r .nil),Rel.rehold h.R (zNT trivial) h.hn h.gD⟩
end
def Res.nox{α:Type}:Res α→Res α
 | .exc _ _=>.no
 |r=>r
def zBR(σ:Sg):List Nat→Sg
 |[]=>σ
 |v::vs=>(zBR σ vs).set v none
def lcF(src:Src) (t:Tg) (c:TM) (e:EM) (σ0:Sg):Nat→Nat→List Cell→Res (List W)
 |0,_,_=>.no
 |n+1,i,st=>match src.get st i with
  |none=>.no
  |some none=>.ok [] st
  |some (some w)=>match t.put w σ0 with
   |none=>.no
   |some σ1=>(c σ1 st).nox.bind fun k st1=>if k=true then(e σ1 st1).nox.bind fun w st2=>(lcF src t c e σ0 n (i+1) st2).bind fun ws st3=>.ok (w::ws) st3 else lcF src t c e σ0 n (i+1) st1
def mYes:TM:=fun _ st=>.ok true st
def finP(ws:List W) (st:List Cell):Res W:=match pures ws with
 |some l=>.ok (.p (.lst l)) st
 |none=>.no
def finC(ws:List W) (st:List Cell):Res W:=.ok (.r st.length) (st++[.lst ws])
def mLc(m:IM) (t:Tg) (vs:List Nat) (c:TM) (e:EM) (fin:List W→List Cell→Res W):EM:=fun σ st=>(m σ st).bind fun src st1 =>
 if src.n≤LIM then(lcF src t c e (zBR σ vs) (src.n+1) 0 st1).bind fin else .no
theorem RS.wipe(S:RS K cl ρ G σ τ):∀vs:List Nat,RS K cl ρ G (zBR σ vs) (L2.wipe τ vs)
 |[]=>S
 |v::vs=>by
  have ih:=RS.wipe S vs;unfold zBR L2.wipe;refine⟨by rw[JQ,JQ];exact ih.1,fun j w e=>?_⟩
  by_cases hj:v=j
  ·subst hj
   by_cases hl:v<(zBR σ vs).length
   ·rw[JL hl]at e;cases e
   ·rw[Jw (by rw[JQ];omega)]at e;cases e
  ·rw[JN hj]at e ⊢;exact ih.2 j w e
def TTs'(X:Cx) (ifs:List Expr):TT:=fun σ H Q=>∀(pins:List (Addr×Obj)) (s:Shared),Inv X pins σ H s →
 wpAny (model X.prog X.w) X.A (forIn ifs true fun c r=>if r=true then do let ok ←isTrue c X.env (eval c X.env);pure (ForInStep.yield ok)else pure (ForInStep.yield r)) (TP X pins σ Q) X.xe s
theorem TTs'.of{ifs:List Expr}{t:TT}{Q:Bool→Hp→Prop} (h:PTs X ifs t) (q:t τ H Q):TTs' X ifs τ H Q:=fun pins s I=>h.run pins s τ H Q I q
structure STs (K:PySem.W.Frag) (cl:Cls) (X:Cx) (Wx:WX) (m:TM) (e:List Expr):Prop where
 run:∀E0 ρ G σ st τ H Q,(bs K cl E0).Rel ρ G st H→RS K cl ρ G σ τ→Aft (bs K cl E0) eqB ρ G (m σ st) Q (fun c d H'=>Wx c d τ H')→TTs' X e τ H Q
theorem zCR:STs K cl X Wx mYes []:=⟨fun E0 ρ G σ st τ H Q R S h=>TTs'.of pts_nil (h.here (b:=true) R rfl)⟩
theorem zQG{m:TM}{e:Expr} (h:ST K cl X Wx m e):STs K cl X Wx m [e]:=⟨fun E0 ρ G σ st τ H Q R S q=>TTs'.of (pts_one TT'.pt) (h.run E0 ρ G σ st τ H Q R S q)⟩
abbrev WF:WX:=fun _ _ _ _=>False
theorem Aft.seqH{E1:En}{α β γ δ:Type}{U:List Addr→Hp→α→β→Prop}{U2:List Addr→Hp→γ→δ→Prop}{Z Z':ZX}{R:Res α}{k:α→List Cell→Res γ}{Q:δ→Hp→Prop}{Q':β→Hp→Prop} (h:Aft (bs K cl E0) U2 ρ G (R.nox.bind k) Q Z)
  (g:∀a st ρ' G' H' b,R=.ok a st→ρ <+: ρ'→Sub G G'→(bs K cl E1).Rel ρ' G' st H'→U ρ' G' a b→Aft (bs K cl E0) U2 ρ' G' (k a st) Q Z→Q' b H'):Aft (bs K cl E1) U ρ G R Q' Z':=by
 cases R with
 |ok a st=>exact fun ρ2 G2 H2 b p s r u=>g a st ρ2 G2 H2 b rfl p s r u (Aft.mono p s h)
 |exc x st=>exact h.elim
 |no=>exact h.elim
theorem Res.bind_bind{α β γ:Type} (r:Res α) (f:α→List Cell→Res β) (g:β→List Cell→Res γ):(r.bind f).bind g=r.bind fun a st=>(f a st).bind g:=by cases r<;>rfl
theorem Res.bind_ok{α β:Type} (a:α) (st:List Cell) (f:α→List Cell→Res β):(Res.ok a st).bind f=f a st:=rfl
theorem zLh{Dd:Addr}{acc:List W}{Gh:Hp}{vl:List V}{c:TM}{e:EM}{σ1:Sg}{k:List W→List Cell→Res W}{Q:VK}{Z:ZX}{rest:List Cell→Res (List W)}{ifs:List Expr}{elt:Expr}{Nx:Hp→Prop}{J:Type}{Y1:J→Cx}
  (hd:Hd K cl E0 Dd ρ G st H acc Gh vl) (S:RS K cl ρ G σ1 τ) (hc:∀j,STs K cl (Y1 j) WF c ifs) (he:∀j,SE K cl (Y1 j) WF e elt) (hacc:acc.length<sizeLine)
  (q:Aft (bs K cl E0) (bs K cl E0).RW ρ G (((c σ1 st).nox.bind fun b st1=>if b=true then(e σ1 st1).nox.bind fun w st2=>(rest st2).bind fun ws st3=>.ok (w::ws) st3 else rest st1).bind k) Q Z)
  (nx1:∀ρ' G' st' H' Gh' vl' w,ρ <+: ρ'→Sub G G'→Hd K cl E0 Dd ρ' G' st' H' (acc++[w]) Gh' vl'→Aft (bs K cl E0) (bs K cl E0).RW ρ' G' ((rest st').bind fun ws st3=>k (w::ws) st3) Q Z→Nx H')
  (nx0:∀ρ' G' st' H' Gh' vl',ρ <+: ρ'→Sub G G'→Hd K cl E0 Dd ρ' G' st' H' acc Gh' vl'→Aft (bs K cl E0) (bs K cl E0).RW ρ' G' ((rest st').bind k) Q Z→Nx H') :
  (fun σ H Q=>∀j,TTs' (Y1 j) ifs σ H Q:TT) τ H fun b H3=>if b=true then(fun σ H Q=>∀j,T (Y1 j) elt σ H Q:TE) τ H3 fun y H4=>∃acc,H4 Dd=some (.lst acc)∧acc.length<sizeLine∧Nx (upd H4 Dd (.lst (acc++[y])))else Nx H3:=by
 intro j;rw[Res.bind_bind]at q;refine(hc j).run _ ρ G σ1 st τ H _ hd.R S (Aft.seqH q fun b st1 ρ1 G1 H1 b' e1 p1 s1 R1 u1 q1=>?_)
 obtain rfl:b=b':=u1;have hd1:=hd.next p1 s1 R1;cases b with
 |false=>exact nx0 ρ1 G1 st1 H1 _ _ p1 s1 hd1 q1
 |true =>
  intro j;simp only[VG]at q1;rw[Res.bind_bind]at q1;refine(he j).run _ ρ1 G1 σ1 st1 τ H1 _ hd1.R (S.mono p1 s1) (Aft.seqH q1 fun w st2 ρ2 G2 H2 y e2 p2 s2 R2 u2 q2=>?_)
  have hd2:=hd1.next p2 s2 R2;refine⟨vl,hd2.held.1,by rw[←hd2.rw.length];exact hacc,?_⟩
  refine nx1 ρ2 G2 st2 _ _ _ w (p1.trans p2) (s1.trans s2) (hd2.push u2) ?_
  rw[Res.bind_bind]at q2;exact q2
def zJA(K:PySem.W.Frag) (cl:Cls) (fin:List W→List Cell→Res W):Prop :=
 ∀E0 Dd ρ G st H acc Gh vl Q Z,Hd K cl E0 Dd ρ G st H acc Gh vl→Aft (bs K cl E0) (bs K cl E0).RW ρ G (fin acc st) Q Z→Q (.ref Dd) H
theorem zCg:zJA K cl finP:=by
 intro E0 Dd ρ G st H acc Gh vl Q Z hd q;unfold finP at q;split at q
 ·rename_i l e
  obtain⟨h1,h2,h3⟩:=hd.held;exact q ρ (upd G Dd (.lst vl)) H (.ref Dd) (Je _) (Sub.new h2) (Rel.adopt hd.back h1 h2 h3 hd.h0) (.lst Ju ((hd.rw.pures e).mono (Sub.new h2)))
 ·exact q.elim
theorem zRc:zJA K cl finC:=by
 intro E0 Dd ρ G st H acc Gh vl Q Z hd q;obtain⟨h1,h2,h3⟩:=hd.held;exact q (ρ++[Dd]) G H (.ref Dd) (JY _ _) (Sub.refl _) (Rel.adoptC hd.back (fun z=>by cases z) h2 h3 hd.h0 ⟨vl,h1,hd.rw.mono (JY _ _) (Sub.refl _)⟩) ⟨Dd,by rw[←hd.R.len];simp,rfl⟩
theorem zPN{n:Nat} (h:n≤LIM):n<sizeLine:=by rw[Vm];unfold LIM at h;omega
abbrev BJ:=Shared×Hp×Addr×List (Str×Addr)×List Addr
abbrev Xb(X:Cx) (scope:Scope) (j:BJ):Cx:=X.blk j.1 j.2.1 scope (compEnvC scope j.2.2.2.1 j.2.2.1 X.env) j.2.2.2.2
theorem GX.blk(g:GX K X){scope:Scope}{j:BJ}:GX K (Xb X scope j):=⟨g.hK,g.hc,g.hN,g.hu,g.hh⟩
theorem zKJ{m:IM}{t:Tg}{vs:List Nat}{c:TM}{e:EM}{fin:List W→List Cell→Res W}{tg iter elt:Expr}{ifs:List Expr}{Y1:BJ→Cx}{Q:VK} (hf:zJA K cl fin)
  (hi:SI K cl X Wx tg m iter) (ht:∀j,SG K cl (Y1 j) t tg) (hv:∀i∈t.slots,i∈vs) (hc:∀j,STs K cl (Y1 j) WF c ifs) (he:∀j,SE K cl (Y1 j) WF e elt)
  (R:(bs K cl E0).Rel ρ G st H) (S:RS K cl ρ G σ τ) (h:Aft (bs K cl E0) (bs K cl E0).RW ρ G (mLc m t vs c e fin σ st) Q (fun c d H'=>Wx c d τ H')) :
  tLc (TIc X tg iter) (fun v σ H Q=>∀j,TGc (Y1 j) tg v σ H Q) (fun σ H Q=>∀j,TTs' (Y1 j) ifs σ H Q) (fun σ H Q=>∀j,T (Y1 j) elt σ H Q) vs τ H Q:=by
 refine hi.run E0 ρ G σ st τ H _ R S (Aft.seq h fun src st1 ρ1 G1 H1 J e1 p1 s1 R1 wok h1=>?_)
 intro Dd hD;split at h1
 case isFalse=>exact h1.elim
 rename_i hn
 refine⟨fun i k H'=>∃ρ' G' st' acc Gh vl,ρ1 <+: ρ'∧Sub G1 G'∧Hd K cl E0 Dd ρ' G' st' H' acc Gh vl∧acc.length≤i∧i+k≤src.n+1 ∧
  Aft (bs K cl E0) (bs K cl E0).RW ρ' G' ((lcF src t c e (zBR σ vs) k i st').bind fun ws st3=>fin (acc++ws) st3) Q (fun c d H'=>Wx c d τ H'),⟨src.n+1,ρ1,G1,st1,[],G1,[],Je _,Sub.refl _,Hd.start R1 hD,Jq _,∅,h1⟩,?_⟩
 rintro i k H2 ⟨ρ2,G2,st2,acc,Gh,vl,p2,s2,hd,ha,hk,q2⟩;cases k with
 |zero=>exact q2.elim
 |succ k =>
  have w2:=wok _ ρ2 G2 st2 H2 i p2 s2 hd.R;unfold lcF at q2;cases eg:src.get st2 i with
  |none=>rw[eg]at q2;exact q2.elim
  |some ow =>
   rw[eg]at q2 w2;cases ow with
   |none =>
    refine .inl ⟨w2,?_⟩;have q2:Aft (bs K cl E0) (bs K cl E0).RW ρ2 G2 (fin (acc++[]) st2) Q (fun c d H'=>Wx c d τ H'):=q2
    rw[JK]at q2;exact hf _ _ _ _ _ _ _ _ _ _ _ hd q2
   |some w =>
    dsimp only at q2 w2
    refine .inr ⟨w2.1,fun H'=>∃ρ' G' st' acc Gh vl,ρ1 <+: ρ'∧Sub G1 G'∧Hd K cl E0 Dd ρ' G' st' H' acc Gh vl∧acc.length≤i+1∧i+1+k≤src.n+1 ∧
     Aft (bs K cl E0) (bs K cl E0).RW ρ' G' ((lcF src t c e (zBR σ vs) k (i+1) st').bind fun ws st3=>fin (acc++ws) st3) Q (fun c d H'=>Wx c d τ H'),fun H' z=>⟨k,Vf k,z⟩,fun x H3 y=>?_⟩
    obtain⟨G3,s3,R3,r3⟩:=w2.2 x H3 y;have hd3:=hd.next (Je _) s3 R3;cases ep:t.put w (zBR σ vs)with
    |none=>rw[ep]at q2;exact q2.elim
    |some σ3 =>
     rw[ep]at q2;dsimp only at q2;intro j;refine(ht j).run ρ2 G3 H3 w x (zBR σ vs) σ3 _ _ R3.sub ((S.mono (p1.trans p2) (s1.trans (s2.trans s3))).wipe vs) r3 ep fun τ3 S3 w3=>⟨(w3 vs hv).trans zGx,?_⟩
     refine zLh (rest:=fun st1=>lcF src t c e (zBR σ vs) k (i+1) st1) (Q:=Q) hd3 S3 hc he (zPN ∅) (Aft.mono (Je _) s3 q2) (fun ρ4 G4 st4 H4 Gh4 vl4 w4 p4 s4 hd4 q4=>?_) (fun ρ4 G4 st4 H4 Gh4 vl4 p4 s4 hd4 q4=>?_)
     ·refine⟨ρ4,G4,st4,acc++[w4],Gh4,vl4,p2.trans p4,s2.trans (s3.trans s4),hd4,by rw[Jl];simp;exact ha,∅,?_⟩
      simp only[Vi,Yl];exact q4
     ·exact⟨ρ4,G4,st4,acc,Gh4,vl4,p2.trans p4,s2.trans (s3.trans s4),hd4,∅,∅,q4⟩
theorem zIl{m:IM}{t:Tg}{vs:List Nat}{c:TM}{e:EM}{fin:List W→List Cell→Res W}{tg iter elt:Expr}{ifs:List Expr}{scope:Scope}{own:List (Str×Nat)}{pos:Pos} (g:GX K X) (hf:zJA K cl fin)
  (ok:blkC X.N X.env.scope scope own=true) (hvs:own.map (·.2)=vs) (hi:SI K cl X Wx tg m iter) (hv:t.slots.all (fun i=>decide (i∈vs))=true) (ht:∀j,SG K cl (Xb X scope j) t tg) (hc:∀j,STs K cl (Xb X scope j) WF c ifs) (he:∀j,SE K cl (Xb X scope j) WF e elt)
  (hs:∀x,foldedSetIterable iter X.env x=pure x:=by intro _;rfl):SE K cl X Wx (mLc m t vs c e fin) (.ListComp elt [⟨tg,iter,ifs,0⟩] scope pos):=by
 subst hvs
 refine⟨fun E0 ρ G σ st τ H Q R S h=>T.of (pe_lc (g:=fun v σ H Q=>∀j,TGc (Xb X scope j) tg v σ H Q) (tt:=fun σ H Q=>∀j,TTs' (Xb X scope j) ifs σ H Q) (te:=fun σ H Q=>∀j,T (Xb X scope j) elt σ H Q) g.hc g.hN TIc.pi (blkOk_by ok)
  (fun s H C cl fp=>⟨fun pins s' σ H' v u Q I r h=>h (s,H,C,cl,fp) pins s' u I r⟩) (fun s H C cl fp=>⟨fun pins s' σ H' Q I h=>h (s,H,C,cl,fp) pins s' I⟩) (fun s H C cl fp=>⟨fun pins s' σ H' Q I h=>h (s,H,C,cl,fp) pins s' I⟩) hs) ?_⟩
 exact zKJ hf hi ht (fun i hm=>by simpa using Jp.mp hv i hm) hc he R S h
theorem zFD{i:Nat}{y:Str}{py spos:Pos}{m:IM}{t:Tg}{vs:List Nat}{c:TM}{e:EM}{fin:List W→List Cell→Res W}{tg iter elt:Expr}{ifs:List Expr}{scope:Scope}{own:List (Str×Nat)}{pos:Pos} (g:GX K X) (hf:zJA K cl fin)
  (hy:X.N[i]?=some y) (hyl:X.env.scope.names.lookup y=some .local) (hsw:swapsWith (.ListComp elt [⟨tg,iter,ifs,0⟩] scope pos) (some (.Name y py)) spos.line X.env=pure true)
  (ok:blkC X.N X.env.scope scope own=true) (hvs:own.map (·.2)=vs) (hi:SI K cl X Wx tg m iter) (hv:t.slots.all (fun i=>decide (i∈vs))=true) (ht:∀j,SG K cl (Xb X scope j) t tg) (hc:∀j,STs K cl (Xb X scope j) WF c ifs) (he:∀j,SE K cl (Xb X scope j) WF e elt)
  (hs:∀x,foldedSetIterable iter X.env x=pure x:=by intro _;rfl):SS K cl X Wx (sSet i (mLc m t vs c e fin)) (.Assign [.Name y py] (.ListComp elt [⟨tg,iter,ifs,0⟩] scope pos) spos):=by
 subst hvs
 refine⟨fun E0 ρ G σ st τ H D R S q=>TS'.of (ps_setLc (g:=fun v σ H Q=>∀j,TGc (Xb X scope j) tg v σ H Q) (tt:=fun σ H Q=>∀j,TTs' (Xb X scope j) ifs σ H Q) (te:=fun σ H Q=>∀j,T (Xb X scope j) elt σ H Q) g.hc g.hN hy hyl hsw TIc.pi (blkOk_by ok)
  (fun s H C cl fp=>⟨fun pins s' σ H' v u Q I r h=>h (s,H,C,cl,fp) pins s' u I r⟩) (fun s H C cl fp=>⟨fun pins s' σ H' Q I h=>h (s,H,C,cl,fp) pins s' I⟩) (fun s H C cl fp=>⟨fun pins s' σ H' Q I h=>h (s,H,C,cl,fp) pins s' I⟩) hs) ?_⟩
 exact zKJ hf hi ht (fun i hm=>by simpa using Jp.mp hv i hm) hc he R S (AftS.seq S q fun w st1 ρ1 G1 H1 v e1 p1 s1 R1 u1 h1=>AftS.nx h1 R1 ((RS.mono p1 s1 S).set u1 i))
def lc2F(src:Src) (t:Tg) (c:TM) (m1:IM) (t1:Tg) (vs1:List Nat) (c1:TM) (e:EM) (σ0:Sg):Nat→Nat→List Cell→Res (List W)
 |0,_,_=>.no
 |n+1,i,st=>match src.get st i with
  |none=>.no
  |some none=>.ok [] st
  |some (some w)=>match t.put w σ0 with
   |none=>.no
   |some σ1=>(c σ1 st).nox.bind fun k st1=>if k=true then(m1 σ1 st1).nox.bind fun src1 st2=>if src1.n<1000 then(lcF src1 t1 c1 e (zBR σ1 vs1) (src1.n+1) 0 st2).bind fun ws st3=>(lc2F src t c m1 t1 vs1 c1 e σ0 n (i+1) st3).bind fun ws' st4=>.ok (ws++ws') st4 else .no
    else lc2F src t c m1 t1 vs1 c1 e σ0 n (i+1) st1
def mLc2(m:IM) (t:Tg) (vs:List Nat) (c:TM) (m1:IM) (t1:Tg) (vs1:List Nat) (c1:TM) (e:EM) (fin:List W→List Cell→Res W):EM:=fun σ st=>(m σ st).bind fun src st1 =>
 if src.n<1000 then(lc2F src t c m1 t1 vs1 c1 e (zBR σ vs) (src.n+1) 0 st1).bind fin else .no
theorem zNW{m m1:IM}{t t1:Tg}{vs vs1:List Nat}{c c1:TM}{e:EM}{fin:List W→List Cell→Res W}{tg iter tg1 iter1 elt:Expr}{ifs ifs1:List Expr}{Y1:BJ→Cx}{Q:VK} (hf:zJA K cl fin)
  (hi:SI K cl X Wx tg m iter) (ht:∀j,SG K cl (Y1 j) t tg) (hv:∀i∈t.slots,i∈vs) (hc:∀j,STs K cl (Y1 j) WF c ifs)
  (hi1:∀j,SI K cl (Y1 j) WF tg1 m1 iter1) (ht1:∀j,SG K cl (Y1 j) t1 tg1) (hv1:∀i∈t1.slots,i∈vs1) (hc1:∀j,STs K cl (Y1 j) WF c1 ifs1) (he:∀j,SE K cl (Y1 j) WF e elt)
  (R:(bs K cl E0).Rel ρ G st H) (S:RS K cl ρ G σ τ) (h:Aft (bs K cl E0) (bs K cl E0).RW ρ G (mLc2 m t vs c m1 t1 vs1 c1 e fin σ st) Q (fun c d H'=>Wx c d τ H')) :
  tLc2 (TIc X tg iter) (fun v σ H Q=>∀j,TGc (Y1 j) tg v σ H Q) (fun σ H Q=>∀j,TTs' (Y1 j) ifs σ H Q) (fun σ H R=>∀j,TIc (Y1 j) tg1 iter1 σ H R) (fun v σ H Q=>∀j,TGc (Y1 j) tg1 v σ H Q) (fun σ H Q=>∀j,TTs' (Y1 j) ifs1 σ H Q) (fun σ H Q=>∀j,T (Y1 j) elt σ H Q) vs vs1 τ H Q:=by
 refine hi.run E0 ρ G σ st τ H _ R S (Aft.seq h fun src st1 ρ1 G1 H1 J e1 p1 s1 R1 wok h1=>?_)
 intro Dd hD;split at h1
 case isFalse=>exact h1.elim
 rename_i hn
 refine⟨fun i k H'=>∃ρ' G' st' acc Gh vl,ρ1 <+: ρ'∧Sub G1 G'∧Hd K cl E0 Dd ρ' G' st' H' acc Gh vl∧acc.length≤i*1000∧i+k≤src.n+1 ∧
  Aft (bs K cl E0) (bs K cl E0).RW ρ' G' ((lc2F src t c m1 t1 vs1 c1 e (zBR σ vs) k i st').bind fun ws st3=>fin (acc++ws) st3) Q (fun c d H'=>Wx c d τ H'),⟨src.n+1,ρ1,G1,st1,[],G1,[],Je _,Sub.refl _,Hd.start R1 hD,JI _,∅,h1⟩,?_⟩
 rintro i k H2 ⟨ρ2,G2,st2,acc,Gh,vl,p2,s2,hd,ha,hk,q2⟩;cases k with
 |zero=>exact q2.elim
 |succ k =>
  have w2:=wok _ ρ2 G2 st2 H2 i p2 s2 hd.R;unfold lc2F at q2;cases eg:src.get st2 i with
  |none=>rw[eg]at q2;exact q2.elim
  |some ow =>
   rw[eg]at q2 w2;cases ow with
   |none =>
    refine .inl ⟨w2,?_⟩;have q2:Aft (bs K cl E0) (bs K cl E0).RW ρ2 G2 (fin (acc++[]) st2) Q (fun c d H'=>Wx c d τ H'):=q2
    rw[JK]at q2;exact hf _ _ _ _ _ _ _ _ _ _ _ hd q2
   |some w =>
    dsimp only at q2 w2
    refine .inr ⟨w2.1,fun H'=>∃ρ' G' st' acc Gh vl,ρ1 <+: ρ'∧Sub G1 G'∧Hd K cl E0 Dd ρ' G' st' H' acc Gh vl∧acc.length≤(i+1)*1000∧i+1+k≤src.n+1 ∧
     Aft (bs K cl E0) (bs K cl E0).RW ρ' G' ((lc2F src t c m1 t1 vs1 c1 e (zBR σ vs) k (i+1) st').bind fun ws st3=>fin (acc++ws) st3) Q (fun c d H'=>Wx c d τ H'),fun H' z=>⟨k,Vf k,z⟩,fun x H3 y=>?_⟩
    obtain⟨G3,s3,R3,r3⟩:=w2.2 x H3 y;have hd3:=hd.next (Je _) s3 R3;cases ep:t.put w (zBR σ vs)with
    |none=>rw[ep]at q2;exact q2.elim
    |some σ3 =>
     rw[ep]at q2;dsimp only at q2;intro j;refine(ht j).run ρ2 G3 H3 w x (zBR σ vs) σ3 _ _ R3.sub ((S.mono (p1.trans p2) (s1.trans (s2.trans s3))).wipe vs) r3 ep fun τ3 S3 w3=>⟨(w3 vs hv).trans zGx,?_⟩
     replace q2:=Aft.mono (Je _) s3 q2
     intro j;rw[Res.bind_bind]at q2;refine(hc j).run _ ρ2 G3 σ3 st2 τ3 H3 _ hd3.R S3 (Aft.seqH q2 fun b st4 ρ4 G4 H4 b' e4 p4 s4 R4 u4 q4=>?_)
     obtain rfl:b=b':=u4;have hd4:=hd3.next p4 s4 R4;cases b with
     |false=>exact⟨ρ4,G4,st4,acc,Gh,vl,p2.trans p4,s2.trans (s3.trans s4),hd4,∅,∅,q4⟩
     |true =>
      simp only[VG]at q4 ⊢;intro j;rw[Res.bind_bind]at q4;refine(hi1 j).run _ ρ4 G4 σ3 st4 τ3 H4 _ hd4.R (S3.mono p4 s4) (Aft.seqH q4 fun src1 st5 ρ5 G5 H5 J1 e5 p5 s5 R5 wok1 q5=>?_)
      have hd5:=hd4.next p5 s5 R5;split at q5
      case isFalse=>exact q5.elim
      rename_i hn1
      rw[Res.bind_bind]at q5
      refine⟨fun i1 k1 H'=>∃ρ' G' st' acc' Gh vl,ρ5 <+: ρ'∧Sub G5 G'∧Hd K cl E0 Dd ρ' G' st' H' (acc++acc') Gh vl∧acc'.length≤i1∧i1+k1≤src1.n+1 ∧
       Aft (bs K cl E0) (bs K cl E0).RW ρ' G' ((lcF src1 t1 c1 e (zBR σ3 vs1) k1 i1 st').bind fun ws st3=>(lc2F src t c m1 t1 vs1 c1 e (zBR σ vs) k (i+1) st3).bind fun ws' st4=>fin (acc++(acc'++ws)++ws') st4) Q (fun c d H'=>Wx c d τ H'),
       ⟨src1.n+1,ρ5,G5,st5,[],Gh,vl,Je _,Sub.refl _,by rw[JK];exact hd5,Jq _,∅,by simpa only[Res.bind_bind,Res.bind_ok,Yx,Vi]using q5⟩,?_⟩
      rintro i1 k1 H6 ⟨ρ6,G6,st6,acc1,Gh6,vl6,p6,s6,hd6,ha1,hk1,q6⟩;cases k1 with
      |zero=>exact q6.elim
      |succ k1 =>
       have w6:=wok1 _ ρ6 G6 st6 H6 i1 p6 s6 hd6.R;unfold lcF at q6;cases eg1:src1.get st6 i1 with
       |none=>rw[eg1]at q6;exact q6.elim
       |some ow1 =>
        rw[eg1]at q6 w6;cases ow1 with
        |none =>
         refine .inl ⟨w6,ρ6,G6,st6,acc++acc1,Gh6,vl6,p2.trans (p4.trans (p5.trans p6)),s2.trans (s3.trans (s4.trans (s5.trans s6))),hd6,by rw[Jl];omega,∅,?_⟩
         have q6:Aft (bs K cl E0) (bs K cl E0).RW ρ6 G6 ((lc2F src t c m1 t1 vs1 c1 e (zBR σ vs) k (i+1) st6).bind fun ws' st4=>fin (acc++(acc1++[])++ws') st4) Q (fun c d H'=>Wx c d τ H'):=q6
         rw[JK]at q6;exact q6
        |some w1 =>
         dsimp only at q6 w6
         refine .inr ⟨w6.1,fun H'=>∃ρ' G' st' acc' Gh vl,ρ5 <+: ρ'∧Sub G5 G'∧Hd K cl E0 Dd ρ' G' st' H' (acc++acc') Gh vl∧acc'.length≤i1+1∧i1+1+k1≤src1.n+1 ∧
          Aft (bs K cl E0) (bs K cl E0).RW ρ' G' ((lcF src1 t1 c1 e (zBR σ3 vs1) k1 (i1+1) st').bind fun ws st3=>(lc2F src t c m1 t1 vs1 c1 e (zBR σ vs) k (i+1) st3).bind fun ws' st4=>fin (acc++(acc'++ws)++ws') st4) Q (fun c d H'=>Wx c d τ H'),fun H' z=>⟨k1,Vf k1,z⟩,fun x1 H7 y1=>?_⟩
         obtain⟨G7,s7,R7,r7⟩:=w6.2 x1 H7 y1;have hd7:=hd6.next (Je _) s7 R7;cases ep1:t1.put w1 (zBR σ3 vs1)with
         |none=>rw[ep1]at q6;exact q6.elim
         |some σ7 =>
          rw[ep1]at q6;dsimp only at q6;intro j;refine(ht1 j).run ρ6 G7 H7 w1 x1 (zBR σ3 vs1) σ7 _ _ R7.sub ((S3.mono (p4.trans (p5.trans p6)) (s4.trans (s5.trans (s6.trans s7)))).wipe vs1) r7 ep1 fun τ7 S7 w7=>⟨(w7 vs1 hv1).trans zGx,?_⟩
          have hl:=hd7.rw.length;refine zLh (rest:=fun st1=>lcF src1 t1 c1 e (zBR σ3 vs1) k1 (i1+1) st1) (Q:=Q) hd7 S7 hc1 he (by rw[Jl];exact zPN (by unfold LIM;omega)) (Aft.mono (Je _) s7 q6) (fun ρ8 G8 st8 H8 Gh8 vl8 w8 p8 s8 hd8 q8=>?_) (fun ρ8 G8 st8 H8 Gh8 vl8 p8 s8 hd8 q8=>?_)
          ·refine⟨ρ8,G8,st8,acc1++[w8],Gh8,vl8,p6.trans p8,s6.trans (s7.trans s8),by rw[←Vi];exact hd8,by rw[Jl];simp;exact ha1,∅,?_⟩
           simpa only[Res.bind_bind,Res.bind_ok,Vi,Yl,List.cons_append,Yx]using q8
          ·exact⟨ρ8,G8,st8,acc1,Gh8,vl8,p6.trans p8,s6.trans (s7.trans s8),hd8,∅,∅,q8⟩
theorem se_lc2{m m1:IM}{t t1:Tg}{vs vs1:List Nat}{c c1:TM}{e:EM}{fin:List W→List Cell→Res W}{tg iter tg1 iter1 elt:Expr}{ifs ifs1:List Expr}{scope:Scope}{own:List (Str×Nat)}{pos:Pos} (g:GX K X) (hf:zJA K cl fin)
  (ok:blkC X.N X.env.scope scope own=true) (hvs:own.map (·.2)=vs) (hi:SI K cl X Wx tg m iter) (hv:t.slots.all (fun i=>decide (i∈vs))=true) (hvv:vs1.all (fun i=>decide (i∈vs))=true) (hv1:t1.slots.all (fun i=>decide (i∈vs1))=true)
  (ht:∀j,SG K cl (Xb X scope j) t tg) (hc:∀j,STs K cl (Xb X scope j) WF c ifs)
  (hi1:∀j,SI K cl (Xb X scope j) WF tg1 m1 iter1) (ht1:∀j,SG K cl (Xb X scope j) t1 tg1) (hc1:∀j,STs K cl (Xb X scope j) WF c1 ifs1) (he:∀j,SE K cl (Xb X scope j) WF e elt)
  (hs:∀x,foldedSetIterable iter X.env x=pure x:=by intro _;rfl) (hs1:∀env x,foldedSetIterable iter1 env x=pure x:=by intro _ _;rfl):SE K cl X Wx (mLc2 m t vs c m1 t1 vs1 c1 e fin) (.ListComp elt [⟨tg,iter,ifs,0⟩,⟨tg1,iter1,ifs1,0⟩] scope pos):=by
 subst hvs
 refine⟨fun E0 ρ G σ st τ H Q R S h=>T.of (pe_lc2 (vs1:=vs1) (wi1:=fun σ H R=>∀j,TIc (Xb X scope j) tg1 iter1 σ H R) (g:=fun v σ H Q=>∀j,TGc (Xb X scope j) tg v σ H Q) (tt:=fun σ H Q=>∀j,TTs' (Xb X scope j) ifs σ H Q) (g1:=fun v σ H Q=>∀j,TGc (Xb X scope j) tg1 v σ H Q) (tt1:=fun σ H Q=>∀j,TTs' (Xb X scope j) ifs1 σ H Q) (te:=fun σ H Q=>∀j,T (Xb X scope j) elt σ H Q) g.hc g.hN TIc.pi (blkOk_by ok) (fun i hm=>by simpa using Jp.mp hvv i hm)
  (fun s H C cl fp=>⟨fun pins s' σ H' v u Q I r h=>h (s,H,C,cl,fp) pins s' u I r⟩) (fun s H C cl fp=>⟨fun pins s' σ H' Q I h=>h (s,H,C,cl,fp) pins s' I⟩)
  (fun s H C cl fp=>⟨fun pins s' σ H' Q I h=>h (s,H,C,cl,fp) pins s' I⟩)
  (fun s H C cl fp=>⟨fun pins s' σ H' v u Q I r h=>h (s,H,C,cl,fp) pins s' u I r⟩) (fun s H C cl fp=>⟨fun pins s' σ H' Q I h=>h (s,H,C,cl,fp) pins s' I⟩)
  (fun s H C cl fp=>⟨fun pins s' σ H' Q I h=>h (s,H,C,cl,fp) pins s' I⟩) hs hs1) ?_⟩
 exact zNW hf hi ht (fun i hm=>by simpa using Jp.mp hv i hm) hc hi1 ht1 (fun i hm=>by simpa using Jp.mp hv1 i hm) hc1 he R S h
end
section
variable {K:PySem.W.Frag}{cl:Cls}{X:Cx}{Wx:WX}{E0:En}{ρ ρ':List Addr}{G G':Hp}{σ:Sg}{τ:L2.St}{st:List Cell}{H:Hp}{D:Ends}
def srcL(l:List W):Src:=⟨fun _ i=>some l[i]?,l.length⟩
def zIf(s:Str):List W:=s.cps.toList.map fun c=>.p (.str ⟨#[c]⟩)
def srcC(j n:Nat):Src:=⟨fun st i=>match st[j]? with
 |some (.lst l)=>some l[i]?
 |_=>none,n⟩
def vSrc(st:List Cell):W→Option Src
 | .p (.lst l)=>some (srcL (l.map .p))
 | .p (.tup l)=>some (srcL (l.map .p))
 | .p (.str s)=>some (srcL (zIf s))
 | .r j=>match st[j]? with
  |some (.lst l)=>some (srcC j l.length)
  |_=>none
 |_=>none
def mSrc(m:EM):IM:=fun σ st=>(m σ st).bind fun w st1=>match vSrc st1 w with
 |some s=>.ok s st1
 |none=>.no
theorem zMM{l:List P}{i:Nat}:(l.map W.p)[i]?=l[i]?.map W.p:=Ji ..
theorem zQD{a:Addr}{l:List P} (r:RP K cl G (.lst l) (.ref a)):WOk K cl ρ G (Itl K a) (srcL (l.map .p)):=by
 intro E0 ρ' G' st H i p s R;cases r with
 |lst h q =>
  rename_i vs
  have hq:SqL K H a vs:=.inl (.inl (R.sub _ _ (s _ _ h)));have hl:=q.length;show match some (l.map W.p)[i]? with|none=>True|some none=>_|some (some w)=>_
  rw[zMM];cases e:l[i]? with
  |none=>exact⟨vs,hq,by rw[←hl];exact J5.mp e⟩
  |some x =>
   obtain⟨v,ev,rv⟩:=q.get e;refine⟨⟨vs,v,hq,ev⟩,fun y H' yl=>?_⟩
   obtain⟨rfl,yl⟩:=yl
   have:y=v:=Jd ((yl vs hq).symm.trans ev)
   subst this;exact⟨G',Sub.refl _,R,rv.mono s⟩
theorem zQ3{a:Addr}{l:List P} (r:RP K cl G (.tup l) (.ref a)):WOk K cl ρ G (Itt K a) (srcL (l.map .p)):=by
 intro E0 ρ' G' st H i p s R;cases r with
 |tup h q =>
  rename_i vs
  have hq:SqT K H a vs:=R.sub.sqT (s.sqT h);have hl:=q.length;show match some (l.map W.p)[i]? with|none=>True|some none=>_|some (some w)=>_
  rw[zMM];cases e:l[i]? with
  |none=>exact⟨vs,hq,by rw[←hl];exact J5.mp e⟩
  |some x =>
   obtain⟨v,ev,rv⟩:=q.get e;refine⟨⟨vs,v,hq,ev⟩,fun y H' yl=>?_⟩
   obtain⟨rfl,yl⟩:=yl
   have:y=v:=Jd ((yl vs hq).symm.trans ev)
   subst this;exact⟨G',Sub.refl _,R,rv.mono s⟩
theorem zLl{z:Str}{i:Nat}:(zIf z)[i]?=z.cps[i]?.map fun c=>W.p (.str ⟨#[c]⟩):=by
 unfold zIf;rw[Ji,Array.getElem?_toList]
theorem zRT{z:Str}:WOk K cl ρ G (Its z) (srcL (zIf z)):=by
 intro E0 ρ' G' st H i p s R;show match some (zIf z)[i]? with|none=>True|some none=>_|some (some w)=>_
 rw[zLl];cases e:z.cps[i]? with
 |none=>exact Array.getElem?_eq_none_iff.mp e
 |some c =>
  refine⟨(Array.getElem?_eq_some_iff.mp e).1,fun y H' yl=>?_⟩
  obtain⟨rfl,c',e',rfl⟩:=yl;rw[e]at e';cases e';exact⟨G',Sub.refl _,R,RP.str _⟩
theorem zOK{a:Addr}{j n:Nat} (h:ρ[j]?=some a):WOk K cl ρ G (Itl K a) (srcC j n):=by
 intro E0 ρ' G' st H i p s R;show match(match st[j]? with|some (.lst l)=>some l[i]?|_=>none)with|none=>True|some none=>_|some (some w)=>_
 split
 ·trivial
 ·rename_i e
  split at e
  ·rename_i l el
   obtain⟨b,hb,⟨vs,h1,h2⟩,_⟩:=R.at el;have hb:ρ'[j]?=some b:=hb;obtain⟨t,rfl⟩:=p;rw[Jh (Ja.mp h).1,h]at hb;cases hb;exact⟨vs,.inl (.inl h1),by rw[←h2.length];exact J5.mp (Jd e)⟩
  ·cases e
 ·rename_i w e
  split at e
  ·rename_i l el
   obtain⟨b,hb,⟨vs,h1,h2⟩,_⟩:=R.at el;have hb:ρ'[j]?=some b:=hb;obtain⟨t,rfl⟩:=p;rw[Jh (Ja.mp h).1,h]at hb;cases hb;obtain⟨v,ev,rv⟩:=h2.get (Jd e);refine⟨⟨vs,v,.inl (.inl h1),ev⟩,fun y H' yl=>?_⟩
   obtain⟨rfl,yl⟩:=yl
   have:y=v:=Jd ((yl vs (.inl (.inl h1))).symm.trans ev)
   subst this;exact⟨G',Sub.refl _,R,rv⟩
  ·cases e
theorem zRI{pins:List (Addr×Obj)}{s:Shared}{tg:Expr}{a:Addr}{xs:List V}{R:It→Hp→Prop} (I:Inv X pins τ H s) (h:SqL X.K H a xs) (q:R (Itl X.K a) H):wpAny (model X.prog X.w) X.A (pyIter (.ref a)) (PIE X pins τ tg R) X.xe s:=by
 obtain⟨its,rv,p,hz⟩:=I.list h;exact wpAny_pyIter_list p.isList (pi_one (tk:=s.toks) I _ (turn_list a _) ⟨_,JH _ rfl,rfl,rfl⟩ q)
theorem it_tup{pins:List (Addr×Obj)}{s:Shared}{tg:Expr}{a:Addr}{xs:List V}{R:It→Hp→Prop} (I:Inv X pins τ H s) (h:SqT X.K H a xs) (q:R (Itt X.K a) H):wpAny (model X.prog X.w) X.A (pyIter (.ref a)) (PIE X pins τ tg R) X.xe s:=by
 obtain⟨its,rv,p,hz⟩:=I.tuple h;exact YE (show s.heap.IsTuple a its.toArray from p) (pi_one (tk:=s.toks) I _ (turn_tuple a _) ⟨_,JH _ rfl,rfl,rfl⟩ q)
theorem it_str{pins:List (Addr×Obj)}{s:Shared}{tg:Expr}{x:Str}{t:Tok}{R:It→Hp→Prop} (I:Inv X pins τ H s) (q:R (Its x) H):wpAny (model X.prog X.w) X.A (pyIter (.str x t)) (PIE X pins τ tg R) X.xe s:=by
 cases ha:x.cps.all (· < 128)
 ·exact wpAny_pyIter_wide ha (pi_one (tk:=s.toks) I _ (turn_str _ x t "str_iterator" (.inr rfl)) ⟨_,JH _ rfl,rfl,rfl⟩ q)
 ·exact wpAny_pyIter_ascii ha (pi_one (tk:=s.toks) I _ (turn_str _ x t "str_ascii_iterator" (.inl rfl)) ⟨_,JH _ rfl,rfl,rfl⟩ q)
theorem zEe{m:EM}{tg e:Expr} (g:GX K X) (h:SE K cl X Wx m e):SI K cl X Wx tg (mSrc m) e:=by
 obtain⟨hK,_⟩:=g;subst hK;refine⟨fun E0 ρ G σ st τ H R Rl S q=>?_⟩
 have t:=h.run E0 ρ G σ st τ H (fun x H1=>(∃a xs,x=.ref a∧SqL X.K H1 a xs∧R (Itl X.K a) H1)∨(∃a xs,x=.ref a∧SqT X.K H1 a xs∧R (Itt X.K a) H1)∨∃z,x=.str z∧R (Its z) H1) Rl S
  (Aft.seq q fun w st1 ρ1 G1 H1 v e1 p1 s1 R1 u1 h1=>?_)
 ·intro pins s I;refine thn (t pins s I) fun v s1 ⟨x,H1,I1,r1,q1⟩=>?_
  rcases q1 with⟨a,xs,rfl,hs,q1⟩|⟨a,xs,rfl,hs,q1⟩|⟨z,rfl,q1⟩
  ·cases r1;exact zRI I1 hs q1
  ·cases r1;exact it_tup I1 hs q1
  ·obtain⟨t,rfl⟩:=r1;exact it_str I1 q1
 ·cases w with
  |p x =>
   cases x with
   |lst l =>
    cases u1 with
    |lst hh qq=>exact .inl ⟨_,_,rfl,.inl (.inl (R1.sub _ _ hh)),h1 ρ1 G1 H1 _ (Je _) (Sub.refl _) R1 (zQD (.lst hh qq))⟩
   |tup l =>
    cases u1 with
    |tup hh qq=>exact .inr (.inl ⟨_,_,rfl,R1.sub.sqT hh,h1 ρ1 G1 H1 _ (Je _) (Sub.refl _) R1 (zQ3 (.tup hh qq))⟩)
   |str z =>
    cases u1;exact .inr (.inr ⟨_,rfl,h1 ρ1 G1 H1 _ (Je _) (Sub.refl _) R1 zRT⟩)
   |_=>exact h1.elim
  |r j =>
   obtain⟨a,ha,rfl⟩:=u1;simp only[vSrc]at h1;split at h1
   ·rename_i sr er
    split at er
    ·rename_i l el
     cases er;obtain⟨b,hb,⟨vs,h2,h3⟩,_⟩:=R1.at el;cases Jd (ha.symm.trans hb);exact .inl ⟨a,vs,rfl,.inl (.inl h2),h1 ρ1 G1 H1 _ (Je _) (Sub.refl _) R1 (zOK ha)⟩
    ·cases er
   ·exact h1.elim
def rngL(lo:Int) (n:Nat):List W:=(List.range n).map fun(i:Nat)=>.p (.int (lo+(i:Nat)))
theorem zRn{lo:Int}{n:Nat}:WOk K cl ρ G (Itr lo n) (srcL (rngL lo n)):=by
 intro E0 ρ' G' st H i p s R;show match some (rngL lo n)[i]? with|none=>True|some none=>_|some (some w)=>_
 unfold rngL;rw[Ji]
 by_cases h:i<n
 ·rw[Vx h];refine⟨h,fun y H' yl=>?_⟩
  obtain⟨rfl,rfl⟩:=yl;exact⟨G',Sub.refl _,R,RP.int _⟩
 ·rw[Jw (by simpa using Nat.not_lt.mp h)]
  exact Nat.not_lt.mp h
def zEs(a:EM):IM:=fun σ st=>(a σ st).bind fun w st1=>match w with
 | .p (.int j)=>if j≤LIM ∧ -(LIM:Int)≤j then .ok (srcL (rngL 0 j.toNat)) st1 else .no
 |_=>.no
theorem T.pa1{e:Expr} (hs:starEach [e] X.env=(false,eval e X.env)::starEach [] X.env):PA X [e] (tCons (T X e) tNil):=Yg T.pe bC hs
theorem zHz{a:EM}{e tg:Expr}{p pos:Pos} (hg:Gl X "range") (hm:X.mg "range" = none) (ha:SE K cl X Wx a e) (hs:starEach [e] X.env=(false,eval e X.env)::starEach [] X.env:=by rfl):SI K cl X Wx tg (zEs a) (.Call (.Name "range" p) [e] [] pos):=by
 refine⟨fun E0 ρ G σ st τ H R Rl S q=>TIc.of (pi_range1 hg hm (T.pa1 hs) hs) ?_⟩
 refine ha.run E0 ρ G σ st τ H _ Rl S (Aft.seq q fun w st1 ρ1 G1 H1 v e1 p1 s1 R1 u1 h1=>?_)
 have hlim:((LIM:Nat):Int)=1000000:=rfl;split at h1
 ·rename_i j
  split at h1
  ·rename_i hj
   cases u1;exact⟨j,rfl,∅,∅,h1 ρ1 G1 H1 _ (Je _) (Sub.refl _) R1 zRn⟩
  ·exact h1.elim
 ·exact h1.elim
def zipL:List P→List P→List W
 |x::l,y::m=>.p (.tup [x,y])::zipL l m
 |_,_=>[]
theorem zKx:∀ {l m:List P}{i:Nat},(zipL l m)[i]?=match l[i]?,m[i]? with
  |some x,some y=>some (.p (.tup [x,y]))
  |_,_=>none
 |[],m,i=>by simp[zipL]
 |x::l,[],i=>by
  simp only[zipL,List.getElem?_nil];split
  ·rename_i h;cases h
  ·rfl
 |x::l,y::m,0=>by simp[zipL]
 |x::l,y::m,i+1=>by
  show(zipL l m)[i]?=_;rw[zKx];simp
end
mutual
def toD:P→Option PyData
 | .non=>some .none
 | .bl b=>some (.bool b)
 | .int i=>some (.int i)
 | .str s=>some (.str s)
 | .tup l=>match toDs l with
  |some ds=>some (.tuple ds)
  |none=>none
 | .lst l=>match toDs l with
  |some ds=>some (.list ds)
  |none=>none
 | .scr _=>none
 | .dk _ _=>none
 | .obj _ _=>none
 | .exn _ _=>none
 | .lam _ _=>none
 | .cls _=>none
 | .fd _ _=>none
 | .fn _ _=>none
def toDs:List P→Option (List PyData)
 |[]=>some []
 |x::l=>match toD x,toDs l with
  |some d,some ds=>some (d::ds)
  |_,_=>none
end
def unC(st:List Cell):W→Option P
 | .p x=>some x
 | .r i=>match st[i]? with
  |some (.lst l)=>match pures l with
   |some m=>some (.lst m)
   |none=>none
  |_=>none
section
variable {K:PySem.W.Frag}{cl:Cls}{X:Cx}{Wx:WX}{E0:En}{ρ ρ':List Addr}{G G':Hp}{σ:Sg}{τ:L2.St}{st:List Cell}{H:Hp}{D:Ends}
mutual
theorem RP.dp(s:Sub G H):∀ {x:P}{v:V}{d:PyData},RP K cl G x v→toD x=some d→Dp K H v d
 |_,_,_,.non,e=>by rw[toD]at e;cases e;exact .non
 |_,_,_,.bl b,e=>by rw[toD]at e;cases e;exact .bl b
 |_,_,_,.int i,e=>by rw[toD]at e;cases e;exact .int i
 |_,_,_,.str z,e=>by rw[toD]at e;cases e;exact .str z
 |_,_,_,.tup h r,e=>by
  rw[toD]at e;split at e
  ·rename_i ds e2;cases e;exact .tup (s.sqT h) (RPs.dp s r e2)
  ·cases e
 |_,_,_,.lst h r,e=>by
  rw[toD]at e;split at e
  ·rename_i ds e2;cases e;exact .lst (.inl (.inl (s _ _ h))) (RPs.dp s r e2)
  ·cases e
 |_,_,_,.scr h,e=>by rw[toD]at e;cases e
 |_,_,_,.dk h z r,e=>by rw[toD]at e;cases e
 |_,_,_,.obj c h z r,e=>by rw[toD]at e;cases e
 |_,_,_,.exn c x h d z r,e=>by rw[toD]at e;cases e
 |_,_,_,.lam _ _ _ _ _,e=>by rw[toD]at e;cases e
 |_,_,_,.cls _,e=>by rw[toD]at e;cases e
 |_,_,_,.fd _ _ _,e=>by rw[toD]at e;cases e
 |_,_,_,.fn _ _ _ _ _ _ _,e=>by rw[toD]at e;cases e
theorem RPs.dp(s:Sub G H):∀ {l:List P}{vs:List V}{ds:List PyData},RPs K cl G l vs→toDs l=some ds→DpAll K H vs ds
 |_,_,_,.nil,e=>by rw[toDs]at e;cases e;exact .nil
 |_,_,_,.cons h r,e=>by
  rw[toDs]at e;split at e
  ·rename_i d ds e1 e2;cases e;exact .cons (RP.dp s h e1) (RPs.dp s r e2)
  ·cases e
end
def unD(st:List Cell) (w:W):Option PyData:=(unC st w).bind toD
theorem zHQ(R:(bs K cl E0).Rel ρ G st H){w:W}{v:V}{d:PyData} (r:RW K cl ρ G w v) (e:unD st w=some d):Dp K H v d:=by
 cases w with
 |p x=>exact RP.dp R.sub r e
 |r i =>
  obtain⟨a,ha,rfl⟩:=r;unfold unD unC at e;dsimp only at e;split at e
  ·rename_i l el
   split at e
   ·rename_i m em
    obtain⟨b,hb,⟨vs,h2,h3⟩,_⟩:=R.at el;cases Jd (ha.symm.trans hb);have e:toD (.lst m)=some d:=e;rw[toD]at e;split at e
    ·rename_i ds e2
     cases e;exact .lst (.inl (.inl h2)) ((h3.pures em).dp R.sub e2)
    ·cases e
   ·cases e
  ·cases e
def eqS:P→P→Option Bool
 | .non,.non=>some true
 | .int a,.int b=>some (a==b)
 | .bl a,.bl b=>some (a==b)
 | .str a,.str b=>some (a==b)
 | .non,.int _=>some false
 | .int _,.non=>some false
 | .non,.bl _=>some false
 | .bl _,.non=>some false
 | .non,.str _=>some false
 | .str _,.non=>some false
 | .int _,.str _=>some false
 | .str _,.int _=>some false
 | .bl _,.str _=>some false
 | .str _,.bl _=>some false
 |_,_=>none
theorem eqS_ok{x y:P}{v u:V}{k:Bool} (r:RP K cl G x v) (r2:RP K cl G y u) (e:eqS x y=some k):scal v u=true∧decide (v=u)=k:=by
 cases r<;>cases r2<;>first
  |(unfold eqS at e;cases e;done)
  |(cases e;exact⟨rfl,dec_int⟩)
  |(cases e;exact⟨rfl,dec_bl⟩)
  |(cases e;exact⟨rfl,dec_str⟩)
  |(cases e;exact⟨rfl,by simp⟩)
def eqW:W→W→Option Bool
 | .p x,.p y=>eqS x y
 |_,_=>none
def vEqB(neg:Bool) (x y:W) (st:List Cell):Res W:=match eqW x y with
 |some k=>.ok (.p (.bl (if neg=true then !k else k))) st
 |none=>match unD st x,unD st y with
  |some d,some e=>if SeqAt.shaped d=true∧SeqAt.shaped e=true then .ok (.p (.bl (if neg=true then !PyData.eqv d e else PyData.eqv d e))) st else .no
  |_,_=>.no
theorem zNY{x y:W}{v u:V}{k:Bool} (r:RW K cl ρ G x v) (r2:RW K cl ρ G y u) (e:eqW x y=some k):scal v u=true∧decide (v=u)=k:=by
 cases x with
 |p x =>
  cases y with
  |p y=>exact eqS_ok r r2 e
  |r j=>cases e
 |r i=>cases e
def rEqA(K:PySem.W.Frag):R2:=fun x y H Q=>rEq x y H Q∨rEqD K x y H Q
def rNeA(K:PySem.W.Frag):R2:=fun x y H Q=>rNe x y H Q∨rNeD K x y H Q
theorem zPO:VOp K cl (vEqB false) (rEqA K):=by
 intro E0 ρ G st H x y v u Q Z R rx ry h;unfold vEqB at h;split at h
 ·rename_i k ek
  obtain⟨h1,h2⟩:=zNY rx ry ek;exact .inl ⟨h1,by rw[h2];exact h.here R (RP.bl _)⟩
 ·split at h
  ·rename_i d e hd he
   split at h
   ·rename_i hs
    exact .inr ⟨d,e,zHQ R rx hd,zHQ R ry he,hs.1,hs.2,h.here R (RP.bl _)⟩
   ·exact h.elim
  ·exact h.elim
theorem zPP:VOp K cl (vEqB true) (rNeA K):=by
 intro E0 ρ G st H x y v u Q Z R rx ry h;unfold vEqB at h;split at h
 ·rename_i k ek
  obtain⟨h1,h2⟩:=zNY rx ry ek;exact .inl ⟨h1,by rw[h2];exact h.here R (RP.bl _)⟩
 ·split at h
  ·rename_i d e hd he
   split at h
   ·rename_i hs
    exact .inr ⟨d,e,zHQ R rx hd,zHQ R ry he,hs.1,hs.2,h.here R (RP.bl _)⟩
   ·exact h.elim
  ·exact h.elim
theorem zPi(hu:X.A.units+64<cLine):OpR X (compareOp .Eq) (rEqA X.K):=op_eq.or (op_eqD hu)
theorem zPQ(hu:X.A.units+64<cLine):OpR X (compareOp .NotEq) (rNeA X.K):=op_ne.or (op_neD hu)
theorem zGL{a b:EM}{pa pb:Expr}{pos:Pos} (g:GX K X) (ha:SE K cl X Wx a pa) (hb:SE K cl X Wx b pb) (hm:behindInMarks .Eq pb=false:=by rfl):SE K cl X Wx (mBin (vEqB false) a b) (.Compare pa [.Eq] [pb] pos):=by
 obtain⟨hK,hc,hN,hu,hh⟩:=g;subst hK;exact zIU (zPi ∅) hm zPO ha hb
theorem se_ne{a b:EM}{pa pb:Expr}{pos:Pos} (g:GX K X) (ha:SE K cl X Wx a pa) (hb:SE K cl X Wx b pb) (hm:behindInMarks .NotEq pb=false:=by rfl):SE K cl X Wx (mBin (vEqB true) a b) (.Compare pa [.NotEq] [pb] pos):=by
 obtain⟨hK,hc,hN,hu,hh⟩:=g;subst hK;exact zIU (zPQ ∅) hm zPP ha hb
def zD7:P→Bool
 | .non=>true
 | .bl _=>true
 | .int _=>true
 | .str _=>true
 |_=>false
def eqF:P→P→Bool
 | .non,.non=>true
 | .bl a,.bl b=>a==b
 | .bl a,.int b=>(if a then 1 else 0)==b
 | .int a,.bl b=>a==(if b then 1 else 0)
 | .int a,.int b=>a==b
 | .str a,.str b=>a==b
 |_,_=>false
def inP(x:P) (l:List P):Bool:=l.any fun y=>eqF y x
theorem RP.flat{x:P}{v:V} (r:RP K cl G x v) (h:zD7 x=true):flatV v=true:=by cases r<;>first|rfl|cases h
theorem RP.eqF{x y:P}{v u:V} (r:RP K cl G x v) (r2:RP K cl G y u) (h:zD7 x=true) (h2:zD7 y=true):eqV v u=Y.eqF x y:=by
 cases r<;>first|(cases h;done)|(cases r2<;>first|(cases h2;done)|rfl)
theorem RPs.flat:∀ {l:List P}{vs:List V},RPs K cl G l vs→l.all zD7=true→vs.all flatV=true
 |_,_,.nil,_=>rfl
 |_,_,.cons h r,e=>by
  rw[VW,Jj]at e ⊢;exact⟨h.flat e.1,RPs.flat r e.2⟩
theorem RPs.inV{x:P}{v:V} (h:RP K cl G x v) (hx:zD7 x=true):∀ {l:List P}{vs:List V},RPs K cl G l vs→l.all zD7=true→L2.inV v vs=inP x l
 |_,_,.nil,_=>rfl
 |y::l,u::vs,.cons q r,e=>by
  rw[VW,Jj]at e;have ih:=RPs.inV h hx r e.2;unfold L2.inV inP at ih ⊢;rw[Vp,Vp,q.eqF h e.1 hx,ih]
def seqP(st:List Cell) (w:W):Option (List P):=match unC st w with
 |some (.lst l)=>some l
 |some (.tup l)=>some l
 |_=>none
theorem zGe(R:(bs K cl E0).Rel ρ G st H){w:W}{v:V}{l:List P} (r:RW K cl ρ G w v) (e:seqP st w=some l):∃a vs,v=.ref a∧(SqL K H a vs∨SqT K H a vs)∧RPs K cl G l vs:=by
 unfold seqP unC at e;cases w with
 |p x =>
  cases x with
  |lst m =>
   cases e;cases r with
   |lst h q=>exact⟨_,_,rfl,.inl (.inl (.inl (R.sub _ _ h))),q⟩
  |tup m =>
   cases e;cases r with
   |tup h q=>exact⟨_,_,rfl,.inr (R.sub.sqT h),q⟩
  |_=>cases e
 |r i =>
  obtain⟨a,ha,rfl⟩:=r;dsimp only at e;split at e
  ·rename_i m em
   split at em
   ·rename_i l' el
    split at em
    ·rename_i m' em'
     cases em;cases e;obtain⟨b,hb,⟨vs,h2,h3⟩,_⟩:=R.at el;cases Jd (ha.symm.trans hb);exact⟨a,vs,rfl,.inl (.inl (.inl h2)),h3.pures em'⟩
    ·cases em
   ·cases em
  ·rename_i m em
   split at em
   ·split at em
    ·cases em
    ·cases em
   ·cases em
  ·cases e
def occ(i j:Str):Bool := !(Builtin.Str.occurrences j i 0 j.length 1).isEmpty
def vInB(neg:Bool) (x y:W) (st:List Cell):Res W:=match x,y with
 | .p (.str i),.p (.str j)=>.ok (.p (.bl (if neg=true then !occ i j else occ i j))) st
 | .p x',y=>match seqP st y with
  |some l=>if zD7 x'=true∧l.all zD7=true then .ok (.p (.bl (if neg=true then !inP x' l else inP x' l))) st else
   match toD x',unD st y with
   |some d,some (.list ds)=>if SeqAt.shaped d=true∧SeqAt.shaped (.list ds)=true then .ok (.p (.bl (if neg=true then !ds.any fun z=>PyData.eqv z d else ds.any fun z=>PyData.eqv z d))) st else .no
   |_,_=>.no
  |none=>.no
 |_,_=>.no
def rInA(K:PySem.W.Frag) (neg:Bool):R2:=fun x y H Q=>(rIn K neg x y H Q∨(if neg=true then rNotInD K x y H Q else rInD K x y H Q))∨∃i j,x=.str i∧y=.str j∧Q (.bl (if neg=true then !occ i j else occ i j)) H
theorem zPa(hu:X.A.units+65<cLine):OpR X (compareOp .In) (rInA X.K false):=by
 intro pins s σ H x y v u Q I rx ry h;rcases h with(h|h)|h
 ·exact op_in_seq pins s σ H x y v u Q I rx ry h
 ·exact op_inD hu pins s σ H x y v u Q I rx ry h
 ·exact op_in_str pins s σ H x y v u Q I rx ry h
theorem zM3(hu:X.A.units+65<cLine):OpR X (compareOp .NotIn) (rInA X.K true):=by
 intro pins s σ H x y v u Q I rx ry h;rcases h with(h|h)|h
 ·exact op_notIn_seq pins s σ H x y v u Q I rx ry h
 ·exact op_notInD hu pins s σ H x y v u Q I rx ry h
 ·exact op_notIn_str pins s σ H x y v u Q I rx ry h
theorem zLn{neg:Bool}:VOp K cl (vInB neg) (rInA K neg):=by
 intro E0 ρ G st H x y v u Q Z R rx ry h;unfold vInB at h;split at h
 ·rename_i i j
  cases rx;cases ry;exact .inr ⟨i,j,rfl,rfl,h.here R (RP.bl _)⟩
 ·rename_i x' _ _
  split at h
  ·rename_i l el
   split at h
   ·rename_i hf
    obtain⟨a,vs,rfl,h1,h2⟩:=zGe R ry el;refine .inl (.inl ⟨a,vs,rfl,h1,RP.flat rx hf.1,h2.flat hf.2,?_⟩);rw[RPs.inV rx hf.1 h2 hf.2];exact h.here R (RP.bl _)
   ·split at h
    ·rename_i d ds hd hds
     split at h
     ·rename_i hs
      refine .inl (.inr ?_);cases neg with
      |true=>exact⟨d,ds,RP.dp R.sub rx hd,zHQ R ry hds,hs.1,hs.2,h.here R (RP.bl _)⟩
      |false=>exact⟨d,ds,RP.dp R.sub rx hd,zHQ R ry hds,hs.1,hs.2,h.here R (RP.bl _)⟩
     ·exact h.elim
    ·exact h.elim
  ·exact h.elim
 ·exact h.elim
theorem se_in{a b:EM}{pa pb:Expr}{pos:Pos} (g:GX K X) (ha:SE K cl X Wx a pa) (hb:SE K cl X Wx b pb) (hm:behindInMarks .In pb=false:=by rfl):SE K cl X Wx (mBin (vInB false) a b) (.Compare pa [.In] [pb] pos):=by
 obtain⟨hK,_,_,hu,_⟩:=g;subst hK;exact zIU (zPa hu) hm zLn ha hb
def vIsN(neg:Bool) (x y:W) (st:List Cell):Res W:=match y with
 | .p .non=>match x with
  | .p .non=>.ok (.p (.bl (!neg))) st
  |_=>.ok (.p (.bl neg)) st
 |_=>.no
theorem RW.nonOnly{x:W}{v:V} (r:RW K cl ρ G x v) (h:x≠.p .non):v≠.non:=fun e=>by
 subst e;cases x with
 |p x=>cases r;exact h rfl
 |r i=>obtain⟨a,_,e⟩:=r;cases e
theorem zPb:VOp K cl (vIsN false) (fun x y H Q=>y=.non∧Q (.bl (decide (x=.non))) H):=by
 intro E0 ρ G st H x y v u Q Z R rx ry h;unfold vIsN at h;split at h
 ·cases ry;refine⟨rfl,?_⟩;split at h
  ·cases rx;exact h.here R (RP.bl _)
  ·rename_i hn
   rw[JS (rx.nonOnly hn)];exact h.here R (RP.bl _)
 ·exact h.elim
theorem zL4:VOp K cl (vIsN true) (fun x y H Q=>y=.non∧Q (.bl (!decide (x=.non))) H):=by
 intro E0 ρ G st H x y v u Q Z R rx ry h;unfold vIsN at h;split at h
 ·cases ry;refine⟨rfl,?_⟩;split at h
  ·cases rx;exact h.here R (RP.bl _)
  ·rename_i hn
   rw[JS (rx.nonOnly hn)];exact h.here R (RP.bl _)
 ·exact h.elim
def zDS(i j:Int):Bool:=decide (i.natAbs.log2+j.natAbs.log2<1000000)
def vAdd(x y:W) (st:List Cell):Res W:=match x,y with
 | .p (.int i),.p (.int j)=>.ok (.p (.int (i+j))) st
 | .p (.str i),.p (.str j)=>if i.length+j.length≤LIM then .ok (.p (.str (i++j))) st else .no
 | .p (.tup l),.p (.tup m)=>if l.length+m.length≤LIM then .ok (.p (.tup (l++m))) st else .no
 |x,y=>match unC st x,unC st y with
  |some (.lst l),some (.lst m)=>if l.length+m.length≤LIM then .ok (.p (.lst (l++m))) st else .no
  |_,_=>.no
def rAddA(K:PySem.W.Frag):R2:=fun x y H Q=>((rI0 (fun i j=>.int (i+j)) x y H Q∨∃i j,x=.str i∧y=.str j∧i.length+j.length≤sizeLine∧Q (.str (i++j)) H)∨rCatA K x y H Q)∨rCat x y H Q
theorem zQy:OpR X (binaryOp .Add) (rAddA X.K):=((op_add.or op_add_str).or op_catA).or op_cat
theorem zFV(R:(bs K cl E0).Rel ρ G st H){w:W}{v:V}{l:List P} (r:RW K cl ρ G w v) (e:unC st w=some (.lst l)):∃a vs,v=.ref a∧H a=some (.lst vs)∧RPs K cl G l vs:=by
 unfold unC at e;cases w with
 |p x =>
  cases e;cases r with
  |lst h q=>exact⟨_,_,rfl,R.sub _ _ h,q⟩
 |r i =>
  obtain⟨a,ha,rfl⟩:=r;dsimp only at e;split at e
  ·rename_i l' el
   split at e
   ·rename_i m' em'
    cases e;obtain⟨b,hb,⟨vs,h2,h3⟩,_⟩:=R.at el;cases Jd (ha.symm.trans hb);exact⟨a,vs,rfl,h2,h3.pures em'⟩
   ·cases e
  ·cases e
theorem zRA:VOp K cl vAdd (rAddA K):=by
 intro E0 ρ G st H x y v u Q Z R rx ry h;unfold vAdd at h;split at h
 ·cases rx;cases ry;exact .inl (.inl (.inl ⟨_,_,rfl,rfl,h.here R (RP.int _)⟩))
 ·cases rx;cases ry;split at h
  ·rename_i hl
   exact .inl (.inl (.inr ⟨_,_,rfl,rfl,zCo hl,h.here R (RP.str _)⟩))
  ·exact h.elim
 ·rename_i l m
  cases rx with
  |tup h1 q1 =>
   cases ry with
   |tup h2 q2 =>
    split at h
    ·rename_i hl
     refine .inl (.inr ⟨_,_,_,_,rfl,rfl,R.sub.sqT h1,R.sub.sqT h2,by rw[←q1.length,←q2.length];exact zCo hl,fun e=>?_,fun _ e=>?_,fun _ _ p hp=>?_⟩)
     ·subst e;cases q1;exact h.here R (RP.tup h2 q2)
     ·subst e;cases q2;rw[JK]at h;exact h.here R (RP.tup h1 q1)
     ·exact h.newP R hp (.tup (.inl (.inl Ju)) ((q1.append q2).mono (Sub.new (R.gnone hp))))
    ·exact h.elim
 ·split at h
  ·rename_i l m el em
   obtain⟨a,vs,rfl,h1,q1⟩:=zFV R rx el;obtain⟨b,us,rfl,h2,q2⟩:=zFV R ry em;split at h
   ·rename_i hl
    exact .inr ⟨_,_,_,_,rfl,rfl,h1,h2,by rw[←q1.length,←q2.length];exact zCo hl,fun p hp=>h.newP R hp (.lst Ju ((q1.append q2).mono (Sub.new (R.gnone hp))))⟩
   ·exact h.elim
  ·exact h.elim
theorem zAN{a b:EM}{pa pb:Expr}{pos:Pos} (g:GX K X) (ha:SE K cl X Wx a pa) (hb:SE K cl X Wx b pb):SE K cl X Wx (mBin vAdd a b) (.BinOp pa .Add pb pos):=by
 obtain⟨hK,_⟩:=g;subst hK;exact zE5 zQy zRA ha hb
def vSub:=vI2 (fun _ _=>true) fun i j=>.int (i-j)
theorem zFe{a b:EM}{pa pb:Expr}{pos:Pos} (ha:SE K cl X Wx a pa) (hb:SE K cl X Wx b pb):SE K cl X Wx (mBin vSub a b) (.BinOp pa .Sub pb pos):=zE5 op_sub (zGc fun i j G=>RP.int _) ha hb
def vFdv:=vI2 (fun _ j=>decide (0<j∧j.natAbs.log2<9000)) fun i j=>.int (i/j)
theorem zPK{a b:EM}{pa pb:Expr}{pos:Pos} (ha:SE K cl X Wx a pa) (hb:SE K cl X Wx b pb):SE K cl X Wx (mBin vFdv a b) (.BinOp pa .FloorDiv pb pos):=zE5 op_fdivW (zJ0 (fun i j G=>RP.int _) fun i j h=>by have h:=Jv h;exact h) ha hb
def vMod:=vI2 (fun _ j=>decide (0<j)) fun i j=>.int (i%j)
theorem zFY{a b:EM}{pa pb:Expr}{pos:Pos} (ha:SE K cl X Wx a pa) (hb:SE K cl X Wx b pb):SE K cl X Wx (mBin vMod a b) (.BinOp pa .Mod pb pos):=zE5 op_mod (zJ0 (fun i j G=>RP.int _) fun i j h=>by have h:=Jv h;exact h) ha hb
def vPow:=vI2 (fun i j=>decide (0≤j∧j≤1000∧i.natAbs<1000)) fun i j=>.int (i^j.toNat)
theorem se_pow{a b:EM}{pa pb:Expr}{pos:Pos} (ha:SE K cl X Wx a pa) (hb:SE K cl X Wx b pb):SE K cl X Wx (mBin vPow a b) (.BinOp pa .Pow pb pos):=zE5 op_pow (zJ0 (fun i j G=>RP.int _) fun i j h=>by
 have h:=Jv h
 exact⟨h.1,∅,∅⟩) ha hb
def zE2:=vI2 zDS fun i j=>.int (i*j)
theorem zDU{a b:EM}{pa pb:Expr}{pos:Pos} (ha:SE K cl X Wx a pa) (hb:SE K cl X Wx b pb):SE K cl X Wx (mBin zE2 a b) (.BinOp pa .Mult pb pos):=zE5 op_mulW (zJ0 (fun i j G=>RP.int _) fun i j h=>by have h:=Jv h;exact h) ha hb
def vLt:=vI2 (fun _ _=>true) fun i j=>.bl (decide (i<j))
def vLe:=vI2 (fun _ _=>true) fun i j=>.bl (decide (i≤j))
def vGt:=vI2 (fun _ _=>true) fun i j=>.bl (decide (j<i))
def vGe:=vI2 (fun _ _=>true) fun i j=>.bl (decide (j≤i))
theorem vLt_ok:VOp K cl vLt (rI0 fun i j=>.bl (decide (i<j))):=zGc fun i j G=>RP.bl _
theorem zFG:VOp K cl vLe (rI0 fun i j=>.bl (decide (i≤j))):=zGc fun i j G=>RP.bl _
theorem vGt_ok:VOp K cl vGt (rI0 fun i j=>.bl (decide (j<i))):=zGc fun i j G=>RP.bl _
theorem vGe_ok:VOp K cl vGe (rI0 fun i j=>.bl (decide (j≤i))):=zGc fun i j G=>RP.bl _
theorem se_is{a b:EM}{pa pb:Expr}{pos:Pos} (ha:SE K cl X Wx a pa) (hb:SE K cl X Wx b pb) (hm:behindInMarks .Is pb=false:=by rfl):SE K cl X Wx (mBin (vIsN false) a b) (.Compare pa [.Is] [pb] pos):=zIU op_isN hm zPb ha hb
theorem zO9{a b:EM}{pa pb:Expr}{pos:Pos} (ha:SE K cl X Wx a pa) (hb:SE K cl X Wx b pb) (hm:behindInMarks .IsNot pb=false:=by rfl):SE K cl X Wx (mBin (vIsN true) a b) (.Compare pa [.IsNot] [pb] pos):=zIU op_notN hm zL4 ha hb
def zFX(f f2:W→W→List Cell→Res W) (a b c:EM):EM:=fun σ st=>(a σ st).bind fun x st1=>(b σ st1).bind fun y st2=>(f x y st2).bind fun t st3=>match t with
 | .p (.bl k)=>if k=true then(c σ st3).bind fun z st4=>f2 y z st4 else .ok (.p (.bl false)) st3
 |_=>.no
theorem zLS{r r':R2}{f f2:W→W→List Cell→Res W}{a b c:EM}{pa pb pc:Expr}{Q:VK} (hf:VOp K cl f r) (hf2:VOp K cl f2 r') (ha:SE K cl X Wx a pa) (hb:SE K cl X Wx b pb) (hc:SE K cl X Wx c pc)
  (R:(bs K cl E0).Rel ρ G st H) (S:RS K cl ρ G σ τ) (h:Aft (bs K cl E0) (bs K cl E0).RW ρ G (zFX f f2 a b c σ st) Q (fun c d H'=>Wx c d τ H')):tChain r r' (T X pa) (T X pb) (T X pc) τ H Q:=by
 refine ha.run E0 ρ G σ st τ H _ R S (Aft.seq h fun x st1 ρ1 G1 H1 v e1 p1 s1 R1 u1 h1=>?_)
 refine hb.run E0 ρ1 G1 σ st1 τ H1 _ R1 (S.mono p1 s1) (Aft.seq h1 fun y st2 ρ2 G2 H2 u e2 p2 s2 R2 u2 h2=>?_)
 refine hf E0 ρ2 G2 st2 H2 x y v u _ _ R2 (RW.mono p2 s2 u1) u2 (Aft.seq h2 fun t st3 ρ3 G3 H3 z e3 p3 s3 R3 u3 h3=>?_)
 split at h3
 ·rename_i k
  cases u3;refine⟨k,rfl,?_⟩;cases k with
  |false=>exact Aft.here (b:=V.bl false) h3 R3 (RP.bl false)
  |true =>
   simp only[VG]at h3 ⊢;refine hc.run E0 ρ3 G3 σ st3 τ H3 _ R3 (S.mono (p1.trans (p2.trans p3)) (s1.trans (s2.trans s3))) (Aft.seq h3 fun w st4 ρ4 G4 H4 w' e4 p4 s4 R4 u4 h4=>?_)
   exact hf2 E0 ρ4 G4 st4 H4 y w u w' _ _ R4 (RW.mono (p3.trans p4) (s3.trans s4) u2) u4 h4
 ·exact h3.elim
theorem zGI{op op':CmpOp}{r r':R2}{f f2:W→W→List Cell→Res W}{a b c:EM}{pa pb pc:Expr}{pos:Pos} (ho:OpR X (compareOp op) r) (ho':OpR X (compareOp op') r') (hf:VOp K cl f r) (hf2:VOp K cl f2 r')
  (ha:SE K cl X Wx a pa) (hb:SE K cl X Wx b pb) (hc:SE K cl X Wx c pc) (hm:lastMarks [op,op'] [pb,pc]=false:=by with_unfolding_all rfl):SE K cl X Wx (zFX f f2 a b c) (.Compare pa [op,op'] [pb,pc] pos) :=
 ⟨fun E0 ρ G σ st τ H Q R S h=>T.of (pe_chain ho ho' T.pe T.pe T.pe hm) (zLS hf hf2 ha hb hc R S h)⟩
def mNeg(a:EM):EM:=fun σ st=>(a σ st).bind fun w st1=>match w with
 | .p (.int i)=>.ok (.p (.int (-i))) st1
 |_=>.no
theorem zDc{a:EM}{pa:Expr}{pos:Pos} (ha:SE K cl X Wx a pa):SE K cl X Wx (mNeg a) (.UnaryOp .USub pa pos):=by
 refine⟨fun E0 ρ G σ st τ H Q R S h=>T.of (pe_un un_neg T.pe) ?_⟩
 refine ha.run E0 ρ G σ st τ H _ R S (Aft.seq h fun w st1 ρ1 G1 H1 v e1 p1 s1 R1 u1 h1=>?_)
 split at h1
 ·rename_i i
  cases u1;exact⟨i,rfl,h1.here R1 (RP.int _)⟩
 ·exact h1.elim
abbrev OM:=Sg→List Cell→Res (Option Int)
def TO'(X:Cx) (e:Option Expr):TO:=fun σ H Q=>∀(pins:List (Addr×Obj)) (s:Shared),Inv X pins σ H s →
 wpAny (model X.prog X.w) X.A (evalPart e X.env) (fun u s'=>∃o H',Inv X pins σ H' s'∧IsPart u o∧Q o H') X.xe s
theorem TO'.po{e:Option Expr}:PO X e (TO' X e):=⟨fun pins s σ H Q I h=>h pins s I⟩
theorem TO'.of{e:Option Expr}{t:TO}{Q:Option Int→Hp→Prop} (h:PO X e t) (q:t τ H Q):TO' X e τ H Q:=fun pins s I=>h.run pins s τ H Q I q
structure SO (K:PySem.W.Frag) (cl:Cls) (X:Cx) (Wx:WX) (m:OM) (e:Option Expr):Prop where
 run:∀E0 ρ G σ st τ H Q,(bs K cl E0).Rel ρ G st H→RS K cl ρ G σ τ→Aft (bs K cl E0) (fun _ _ (a b:Option Int)=>a=b) ρ G (m σ st) Q (fun c d H'=>Wx c d τ H')→TO' X e τ H Q
def zCi:OM:=fun _ st=>.ok none st
def zA0(a:EM):OM:=fun σ st=>(a σ st).bind fun w st1=>match w with
 | .p (.int i)=>.ok (some i) st1
 |_=>.no
theorem zB3:SO K cl X Wx zCi none:=⟨fun E0 ρ G σ st τ H Q R S h=>TO'.of po_none (h.here (b:=none) R rfl)⟩
theorem zAm{a:EM}{e:Expr} (ha:SE K cl X Wx a e):SO K cl X Wx (zA0 a) (some e):=by
 refine⟨fun E0 ρ G σ st τ H Q R S h=>TO'.of (po_some T.pe) ?_⟩
 refine ha.run E0 ρ G σ st τ H _ R S (Aft.seq h fun w st1 ρ1 G1 H1 v e1 p1 s1 R1 u1 h1=>?_)
 split at h1
 ·rename_i i
  cases u1;exact⟨i,rfl,h1.here (b:=some i) R1 rfl⟩
 ·exact h1.elim
def cutL{α:Type} (xs:List α) (lo hi:Option Int):List α:=(xs.drop (HT.sIx xs.length 0 lo)).take (HT.sIx xs.length xs.length hi-HT.sIx xs.length 0 lo)
theorem RPs.cut{l:List P}{vs:List V} (q:RPs K cl G l vs) (lo hi:Option Int):RPs K cl G (cutL l lo hi) (cutV vs lo hi):=by
 unfold cutL cutV;rw[q.length];exact(q.drop _).take _
theorem zO0{α:Type}{xs:List α}{lo hi:Option Int} (h:HT.sIx xs.length 0 lo=0∧HT.sIx xs.length xs.length hi=xs.length):cutL xs lo hi=xs:=by
 unfold cutL;rw[h.1,h.2];simp
def vSl(x:W) (lo hi:Option Int) (st:List Cell):Res W:=match x with
 | .p (.str z)=>if z.length≤LIM then .ok (.p (.str (cutS z lo hi))) st else .no
 | .p (.tup l)=>.ok (.p (.tup (cutL l lo hi))) st
 | .p (.scr l)=>.ok (.p (.lst ((cutL l lo hi).map .int))) st
 |x=>match unC st x with
  |some (.lst l)=>.ok (.p (.lst (cutL l lo hi))) st
  |_=>.no
def mSl(a:EM) (lo hi:OM):EM:=fun σ st=>(a σ st).bind fun x st1=>(lo σ st1).bind fun l st2=>(hi σ st2).bind fun u st3=>vSl x l u st3
theorem zRa{l:List Int}{lo hi:Option Int}:cutV (l.map V.int) lo hi=(cutL l lo hi).map V.int:=by
 unfold cutV cutL;rw[Jb,YV,YW]
theorem zCz{a:EM}{lo hi:OM}{e:Expr}{el eh:Option Expr}{pos p2:Pos} (g:GX K X) (ha:SE K cl X Wx a e) (hl:SO K cl X Wx lo el) (hh:SO K cl X Wx hi eh):SE K cl X Wx (mSl a lo hi) (.Subscript e (.Slice el eh none p2) pos):=by
 obtain⟨hK,_⟩:=g;subst hK;refine⟨fun E0 ρ G σ st τ H Q R S h=>T.of (pe_slice ((sl_list.or sl_tupA).or sl_str) T.pe TO'.po TO'.po) ?_⟩
 refine ha.run E0 ρ G σ st τ H _ R S (Aft.seq h fun x st1 ρ1 G1 H1 v e1 p1 s1 R1 u1 h1=>?_)
 refine hl.run E0 ρ1 G1 σ st1 τ H1 _ R1 (S.mono p1 s1) (Aft.seq h1 fun l st2 ρ2 G2 H2 l' e2 p2 s2 R2 u2 h2=>?_)
 obtain rfl:l=l':=u2;refine hh.run E0 ρ2 G2 σ st2 τ H2 _ R2 (S.mono (p1.trans p2) (s1.trans s2)) (Aft.seq h2 fun u st3 ρ3 G3 H3 u' e3 p3 s3 R3 u3 h3=>?_)
 obtain rfl:u=u':=u3
 replace u1:=RW.mono (p2.trans p3) (s2.trans s3) u1
 unfold vSl at h3;split at h3
 ·cases u1;split at h3
  ·rename_i hz
   exact .inr ⟨_,rfl,zCo hz,h3.here R3 (RP.str _)⟩
  ·exact h3.elim
 ·cases u1 with
  |tup hh q =>
   refine .inl (.inr ⟨_,_,rfl,R3.sub.sqT hh,fun e=>?_,fun e p hp=>?_⟩)
   ·rw[zO0 (by rw[q.length];exact e)]at h3
    exact h3.here R3 (RP.tup hh q)
   ·exact h3.newP R3 hp (.tup (.inl (.inl Ju)) ((q.cut l u).mono (Sub.new (R3.gnone hp))))
 ·cases u1 with
  |scr hh =>
   refine .inl (.inl ⟨_,_,rfl,R3.sub.sqL hh,fun p hp=>?_⟩)
   rw[zRa];exact h3.newP R3 hp (.lst Ju (RPs.ints _))
 ·split at h3
  ·rename_i m em
   obtain⟨b,vs,rfl,h4,q⟩:=zFV R3 u1 em;exact .inl (.inl ⟨_,_,rfl,.inl (.inl h4),fun p hp=>h3.newP R3 hp (.lst Ju ((q.cut l u).mono (Sub.new (R3.gnone hp))))⟩)
  ·exact h3.elim
end
section
variable {K:PySem.W.Frag}{cl:Cls}{X:Cx}{Wx:WX}{E0:En}{ρ ρ':List Addr}{G G':Hp}{σ:Sg}{τ:L2.St}{st:List Cell}{H:Hp}{D:Ends}
theorem RWs.one{w:W}{vs:List V} (r:RWs K cl ρ G [w] vs):∃v,vs=[v]∧RW K cl ρ G w v:=by
 cases r with
 |cons r rn=>cases rn;exact⟨_,rfl,r⟩
theorem RWs.two{w w2:W}{vs:List V} (r:RWs K cl ρ G [w,w2] vs):∃v u,vs=[v,u]∧RW K cl ρ G w v∧RW K cl ρ G w2 u:=by
 cases r with
 |cons r rn =>
  obtain⟨u,rfl,r2⟩:=rn.one;exact⟨_,_,rfl,r,r2⟩
def vAbs(ws:List W) (st:List Cell):Res W:=match ws with
 |[.p (.int i)]=>.ok (.p (.int (if i<0 then -i else i))) st
 |_=>.no
theorem zHs:zHM K cl vAbs (fun xs H Q=>∃i,xs=[.int i]∧Q (.int (if i<0 then -i else i)) H):=by
 intro E0 ρ G st H ws vs Q Z R rw' h;unfold vAbs at h;split at h
 ·obtain⟨v,rfl,r⟩:=rw'.one;cases r;exact⟨_,rfl,h.here R (RP.int _)⟩
 ·exact h.elim
def vInt(ws:List W) (st:List Cell):Res W:=match ws with
 |[.p (.int i)]=>.ok (.p (.int i)) st
 |[.p (.bl k)]=>.ok (.p (.int (if k then 1 else 0))) st
 |[.p (.str a)]=>match PySem.intText? a with
  |some n=>if a.length≤640 then .ok (.p (.int n)) st else .no
  |none=>.no
 |_=>.no
def rIntA:List V→Hp→VK→Prop:=fun xs H Q=>((∃i,xs=[.int i]∧Q (.int i) H)∨∃k,xs=[.bl k]∧Q (.int (if k then 1 else 0)) H)∨∃a n,xs=[.str a]∧PySem.intText? a=some n∧a.length≤640∧Q (.int n) H
theorem zAz:CallR X (.type "int") rIntA:=call_int1.or call_int_str
theorem zB2:zHM K cl vInt rIntA:=by
 intro E0 ρ G st H ws vs Q Z R rw' h;unfold vInt at h;split at h
 ·obtain⟨v,rfl,r⟩:=rw'.one;cases r;exact .inl (.inl ⟨_,rfl,h.here R (RP.int _)⟩)
 ·obtain⟨v,rfl,r⟩:=rw'.one;cases r;exact .inl (.inr ⟨_,rfl,h.here R (RP.int _)⟩)
 ·obtain⟨v,rfl,r⟩:=rw'.one;cases r;split at h
  ·rename_i n en
   split at h
   ·rename_i hl
    exact .inr ⟨_,n,rfl,en,hl,h.here R (RP.int _)⟩
   ·exact h.elim
  ·exact h.elim
 ·exact h.elim
def vStr(ws:List W) (st:List Cell):Res W:=match ws with
 |[.p (.int i)]=>if i.natAbs.log2<1920 then .ok (.p (.str (toString i))) st else .no
 |[.p (.str a)]=>.ok (.p (.str a)) st
 |_=>.no
def rStrA:List V→Hp→VK→Prop:=fun xs H Q=>(∃i,xs=[.int i]∧i.natAbs.log2<1920∧Q (.str (toString i)) H)∨∃a,xs=[.str a]∧Q (.str a) H
theorem zEC:CallR X (.type "str") rStrA:=call_str_int.or SkE.call_str_str
theorem zGN:zHM K cl vStr rStrA:=by
 intro E0 ρ G st H ws vs Q Z R rw' h;unfold vStr at h;split at h
 ·obtain⟨v,rfl,r⟩:=rw'.one;cases r;split at h
  ·rename_i hl
   exact .inl ⟨_,rfl,hl,h.here R (RP.str _)⟩
  ·exact h.elim
 ·obtain⟨v,rfl,r⟩:=rw'.one;cases r;exact .inr ⟨_,rfl,h.here R (RP.str _)⟩
 ·exact h.elim
def intsOf:List P→Option (List Int)
 |[]=>some []
 | .int i::l=>match intsOf l with
  |some m=>some (i::m)
  |none=>none
 |_=>none
theorem zEX(l:List Int):intsOf (l.map P.int)=some l:=by
 induction l with
 |nil=>rfl
 |cons i l ih=>rw[Jk,intsOf,ih]
theorem zIw:∀ {l:List P}{m:List Int},intsOf l=some m→l=m.map P.int
 |[],m,e=>by rw[intsOf]at e;cases e;rfl
 | .int i::l,m,e=>by
  rw[intsOf]at e;split at e
  ·rename_i k ek;cases e;rw[zIw ek];rfl
  ·cases e
 | .non::_,_,e | .bl _::_,_,e | .str _::_,_,e | .tup _::_,_,e | .lst _::_,_,e | .scr _::_,_,e | .dk _ _::_,_,e | .obj _ _::_,_,e | .exn _ _::_,_,e | .lam _ _::_,_,e | .cls _::_,_,e | .fd _ _::_,_,e | .fn _ _::_,_,e=>by
  unfold intsOf at e;cases e
def listOf(st:List Cell) (w:W):Option (List P):=match unC st w with
 |some (.lst l)=>some l
 |_=>none
theorem zLo(R:(bs K cl E0).Rel ρ G st H){w:W}{v:V}{l:List P} (r:RW K cl ρ G w v) (e:listOf st w=some l):∃a vs,v=.ref a∧H a=some (.lst vs)∧RPs K cl G l vs:=by
 unfold listOf at e;split at e
 ·rename_i m em
  cases e;exact zFV R r em
 ·cases e
def maxI:List Int→Int
 |[]=>0
 |[i]=>i
 |i::l=>max i (maxI l)
theorem zJY:∀ {l:List Int}{m:Int},m∈l→(∀y,y∈l→y≤m)→m=maxI l
 |[i],m,h,_=>by simpa[maxI]using h
 |i::j::l,m,h,k=>by
  have h1:i≤m:=k i Jc;show m=max i (maxI (j::l));rcases Jr.mp h with rfl|h
  ·have:maxI (j::l)≤m:=by
    have hm:maxI (j::l)∈j::l:=maxI_mem;exact k _ (Jg _ hm)
   omega
  ·rw[←zJY h fun y hy=>k y (Jg _ hy)];omega
where maxI_mem:∀ {j:Int}{l:List Int},maxI (j::l)∈j::l
 |j,[]=>by simp[maxI]
 |j,i::l=>by
  show max j (maxI (i::l))∈_;have ih:maxI (i::l)∈i::l:=maxI_mem
  by_cases h:j≤maxI (i::l)
  ·rw[Int.max_eq_right h];exact Jg _ ih
  ·rw[Int.max_eq_left ∅];exact Jc
def rMaxA(K:PySem.W.Frag):List V→Hp→VK→Prop:=fun xs H Q=>rMax K xs H Q∨∃i j,xs=[.int i,.int j]∧Q (.int (if j>i then j else i)) H
theorem zMg(hc:X.calm=true):CallR X (.builtin "max") (rMaxA X.K):=(cr_max hc).or (call_max2 hc)
def truF:P→Option Bool
 | .bl b=>some b
 | .int i=>some (i != 0)
 |_=>none
def zDm:List P→Option (List Bool)
 |[]=>some []
 |x::l=>match truF x,zDm l with
  |some b,some bs=>some (b::bs)
  |_,_=>none
inductive TrV:V→Bool→Prop where
 |bl (b:Bool):TrV (.bl b) b
 |int (i:Int):TrV (.int i) (i != 0)
theorem zRq{x:P}{v:V}{b:Bool} (r:RP K cl G x v) (e:truF x=some b):TrV v b:=by
 cases r<;>first|(unfold truF at e;cases e;done)|skip
 ·cases e;exact .bl _
 ·cases e;exact .int _
theorem zJ2:∀ {l:List P}{vs:List V}{bs:List Bool},RPs K cl G l vs→zDm l=some bs→Paired TrV vs bs
 |_,_,_,.nil,e=>by rw[zDm]at e;cases e;exact .nil
 |_,_,_,.cons h r,e=>by
  rw[zDm]at e;split at e
  ·rename_i b bs e1 e2;cases e;exact .cons (zRq h e1) (zJ2 r e2)
  ·cases e
theorem zGD{prog:Program}{w:World}{A:Around}:∀ {vs:List V}{its:List Value}{bs:List Bool},Vals vs its→Paired TrV vs bs→TruthOf prog w A (fun i v=>its.toArray[i]?=some v) (fun i=>bs.getD i false):=by
 intro vs its bs rv pr i v s Q E hv hq;have hv':its[i]?=some v:=by simpa using hv
 clear hv
 induction rv generalizing i bs with
 |nil=>simp at hv'
 |cons r t ih =>
  cases pr with
  |cons p pt =>
   cases i with
   |zero =>
    have e:_=v:=Jd hv';subst e;have hq':Q _ s:=hq;cases p with
    |bl b=>cases r;exact wpAny_truthy_bool hq'
    |int i=>obtain⟨t,rfl⟩:=r;exact PySem.P.truthy_int hq'
   |succ i=>exact ih pt i hq (by simpa using hv')
theorem zIk{prog:Program}{w:World}{A:Around}{E:Value→Shared→Prop}{s:Shared}{l:Addr}{items:Array Value}{Q:Value→Shared→Prop} (hl:s.heap.IsTuple l items)
  (h:∀s₂:Shared,s₂={ s with heap:=s.heap.push { cls:=.type "tuple_iterator",data:=.fields #[.ref l,.int 0 0] } } →
   (s₂.heap.IsTupleIter s.heap.objs.size l 0∧s₂.heap.IsTuple l items)→l≠s.heap.objs.size→Q (.ref s.heap.objs.size) s₂):wpAny (model prog w) A (pyIter (.ref l)) Q E s:=by
 have hlt:l<s.heap.objs.size:=by obtain⟨_,e,_⟩:=hl;exact JB e
 exact YE hl (h _ rfl ⟨⟨_,JH _ rfl,rfl,rfl⟩,hl.push _⟩ (VA hlt))
def zRS(K:PySem.W.Frag) (f:List Bool→Bool):List V→Hp→VK→Prop:=fun xs H Q=>∃a vs bs,xs=[V.ref a]∧(SqL K H a vs∨SqT K H a vs)∧Paired TrV vs bs∧Q (.bl (f bs)) H
theorem zIF(hc:X.calm=true):CallR X (.builtin "any") (zRS X.K fun bs=>bs.any id):=by
 intro pins s σ H xs us Q I r h;obtain⟨a,vs,bs,rfl,hs,pr,q⟩:=h;rw[Vals.ref1 r];rcases hs with hs|hs
 ·obtain⟨its,rv,hl,_⟩:=I.list hs;have hlen:its.toArray.size=bs.length:=by rw[J9,←rv.length];exact pr.length
  refine call_any_walk (iter_any hl.isList fun s₂ e2 st hne=>?_)
  subst e2;refine⟨_,_,_,_,_,_,_,rfl,Walks.list (A:=X.A.in1) (I.ok.hd hc) _ a hne its.toArray,st,zGD rv pr,fun h' tk hk=>?_⟩
  refine⟨.bl _,H,I.kept fun b o eo=>hk b o (fun hmem=>?_) (Jo _ eo),?_,q⟩
  ·rcases Jr.mp hmem with e1|hmem
   ·exact absurd (e1▸JB eo) (V8 _)
   ·cases hmem
  ·dsimp only;show Value.bool _=Value.bool _;rw[←L2.any_range,hlen]
 ·obtain⟨its,rv,hl,_⟩:=I.tuple hs;have hlen:its.toArray.size=bs.length:=by rw[J9,←rv.length];exact pr.length
  refine call_any_walk (zIk (show s.heap.IsTuple a its.toArray from hl) fun s₂ e2 st hne=>?_)
  subst e2;refine⟨_,_,_,_,_,_,_,rfl,bt (A:=X.A.in1) (I.ok.hd hc) _ a hne its.toArray,st,zGD rv pr,fun h' tk hk=>?_⟩
  refine⟨.bl _,H,I.kept fun b o eo=>hk b o (fun hmem=>?_) (Jo _ eo),?_,q⟩
  ·rcases Jr.mp hmem with e1|hmem
   ·exact absurd (e1▸JB eo) (V8 _)
   ·cases hmem
  ·dsimp only;show Value.bool _=Value.bool _;rw[←L2.any_range,hlen]
theorem zES(hc:X.calm=true):CallR X (.builtin "all") (zRS X.K fun bs=>bs.all id):=by
 intro pins s σ H xs us Q I r h;obtain⟨a,vs,bs,rfl,hs,pr,q⟩:=h;rw[Vals.ref1 r];rcases hs with hs|hs
 ·obtain⟨its,rv,hl,_⟩:=I.list hs;have hlen:its.toArray.size=bs.length:=by rw[J9,←rv.length];exact pr.length
  refine call_all_walk (iter_any hl.isList fun s₂ e2 st hne=>?_)
  subst e2;refine⟨_,_,_,_,_,_,_,rfl,Walks.list (A:=X.A.in1) (I.ok.hd hc) _ a hne its.toArray,st,zGD rv pr,fun h' tk hk=>?_⟩
  refine⟨.bl _,H,I.kept fun b o eo=>hk b o (fun hmem=>?_) (Jo _ eo),?_,q⟩
  ·rcases Jr.mp hmem with e1|hmem
   ·exact absurd (e1▸JB eo) (V8 _)
   ·cases hmem
  ·dsimp only;show Value.bool _=Value.bool _;rw[←L2.all_range,hlen]
 ·obtain⟨its,rv,hl,_⟩:=I.tuple hs;have hlen:its.toArray.size=bs.length:=by rw[J9,←rv.length];exact pr.length
  refine call_all_walk (zIk (show s.heap.IsTuple a its.toArray from hl) fun s₂ e2 st hne=>?_)
  subst e2;refine⟨_,_,_,_,_,_,_,rfl,bt (A:=X.A.in1) (I.ok.hd hc) _ a hne its.toArray,st,zGD rv pr,fun h' tk hk=>?_⟩
  refine⟨.bl _,H,I.kept fun b o eo=>hk b o (fun hmem=>?_) (Jo _ eo),?_,q⟩
  ·rcases Jr.mp hmem with e1|hmem
   ·exact absurd (e1▸JB eo) (V8 _)
   ·cases hmem
  ·dsimp only;show Value.bool _=Value.bool _;rw[←L2.all_range,hlen]
def zF6(f:List Bool→Bool) (ws:List W) (st:List Cell):Res W:=match ws with
 |[w]=>match(seqP st w).bind zDm with
  |some bs=>.ok (.p (.bl (f bs))) st
  |none=>.no
 |_=>.no
theorem zDn{f:List Bool→Bool}:zHM K cl (zF6 f) (zRS K f):=by
 intro E0 ρ G st H ws vs Q Z R rw' h;unfold zF6 at h;split at h
 ·obtain⟨v,rfl,r⟩:=rw'.one;split at h
  ·rename_i w _ bs eb
   cases e1:seqP st w with
   |none=>rw[e1]at eb;cases eb
   |some l =>
    rw[e1]at eb;obtain⟨a,us,rfl,h1,q⟩:=zGe R r e1;exact⟨a,us,bs,rfl,h1,zJ2 q eb,h.here R (RP.bl _)⟩
  ·exact h.elim
 ·exact h.elim
def zIz(ws:List W) (st:List Cell):Res W:=match ws with
 |[w]=>match seqP st w with
  |some l=>.ok (.p (.lst l)) st
  |none=>.no
 |_=>.no
def rLstOf(K:PySem.W.Frag):List V→Hp→VK→Prop:=fun xs H Q=>∃p ys,xs=[.ref p]∧(SqL K H p ys∨SqT K H p ys)∧∀l,H l=none→Q (.ref l) (upd H l (.lst ys))
theorem zLb:zHM K cl zIz (rLstOf K):=by
 intro E0 ρ G st H ws vs Q Z R rw' h;unfold zIz at h;split at h
 ·obtain⟨v,rfl,r⟩:=rw'.one;split at h
  ·rename_i l el
   obtain⟨a,us,rfl,h1,q⟩:=zGe R r el;exact⟨a,us,rfl,h1,fun p hp=>h.newP R hp (.lst Ju (q.mono (Sub.new (R.gnone hp))))⟩
  ·exact h.elim
 ·exact h.elim
def zCI(ws:List W) (st:List Cell):Res W:=match ws with
 |[.p (.tup l)]=>.ok (.p (.tup l)) st
 |[w]=>match listOf st w with
  |some l=>.ok (.p (.tup l)) st
  |none=>.no
 |_=>.no
def rTupOf(K:PySem.W.Frag):List V→Hp→VK→Prop:=fun xs H Q=>∃p ys,xs=[.ref p]∧((SqL K H p ys∧∀l,H l=none→Q (.ref l) (upd H l (.tup ys)))∨(SqT K H p ys∧Q (.ref p) H))
theorem zDI:zHM K cl zCI (rTupOf K):=by
 intro E0 ρ G st H ws vs Q Z R rw' h;unfold zCI at h;split at h
 ·obtain⟨v,rfl,r⟩:=rw'.one;cases r with
  |tup hh q=>exact⟨_,_,rfl,.inr ⟨R.sub.sqT hh,h.here R (RP.tup hh q)⟩⟩
 ·obtain⟨v,rfl,r⟩:=rw'.one;split at h
  ·rename_i l el
   obtain⟨a,us,rfl,h1,q⟩:=zLo R r el;exact⟨a,us,rfl,.inl ⟨.inl (.inl h1),fun p hp=>h.newP R hp (.tup (.inl (.inl Ju)) (q.mono (Sub.new (R.gnone hp))))⟩⟩
  ·exact h.elim
 ·exact h.elim
end
def zAU:List W→List Nat
 |[]=>[]
 | .p _::l=>zAU l
 | .r i::l=>i::zAU l
def zC9:Nat→List W→List W
 |_,[]=>[]
 |k,.p x::l=>.p x::zC9 k l
 |k,.r _::l=>.r k::zC9 (k+1) l
def callEnd(n:Nat) (refs:List Nat) (st:List Cell):Res W→Res W
 | .ok w st'=>if((st'.drop n).take refs.length).all zBS=true∧n+refs.length≤st'.length then match w with
   | .p x=>.ok (.p x) (putCells refs (st'.drop n) st)
   | .r j=>if n≤j∧j<n+refs.length then match refs[j-n]? with
     |some i=>.ok (.r i) (putCells refs (st'.drop n) st)
     |none=>.no
    else if n+refs.length≤j then match st'[j]? with
     |some c=>if zBS c=true then .ok (.r st.length) (putCells refs (st'.drop n) st++[c])else .no
     |none=>.no
    else .no
  else .no
 | .exc x st'=>if((st'.drop n).take refs.length).all zBS=true∧n+refs.length≤st'.length then .exc x (putCells refs (st'.drop n) st)else .no
 | .no=>.no
def zAP(F:FM) (ws:List W) (st:List Cell):Res W :=
 if(zAU ws).Nodup then match getCells st (zAU ws)with
  |some cs=>callEnd 0 (zAU ws) st (F (zC9 0 ws) cs)
  |none=>.no
 else .no
def spF(K:PySem.W.Frag) (cl:Cls) (F:FM):Sp:=fun vs H Q E=>∃ρ0 G0 st0 ws,Rel K cl ⟨strip H,ρ0.length,G0⟩ ρ0 G0 st0 H∧RWs K cl ρ0 G0 ws vs∧Aft ⟨K,cl,⟨strip H,ρ0.length,G0⟩⟩ (RW K cl) ρ0 G0 (F ws st0) Q E
section
variable {K:PySem.W.Frag}{cl:Cls}{X:Cx}{Wx:WX}{E0:En}{ρ ρ' ρ2:List Addr}{G G':Hp}{σ:Sg}{τ:L2.St}{st st':List Cell}{H H' Hm:Hp}{D:Ends}
theorem zG3{c:Cell} (h:zBS c=true):c≠.dead:=fun e=>by subst e;cases h
theorem zED:∀ {refs:List Nat}{cs:List Cell},getCells st refs=some cs→cs.length=refs.length
 |[],cs,e=>by rw[getCells]at e;cases e;rfl
 |k::is,cs,e=>by
  rw[getCells]at e;split at e
  ·split at e
   ·split at e
    ·rename_i ds ed
     cases e;exact congrArg Nat.succ (zED ed)
    ·cases e
   ·cases e
  ·cases e
theorem zK6(R:Rel K cl E0 ρ G st H){refs:List Nat}{cs:List Cell} (nd:refs.Nodup) (e:getCells st refs=some cs):(rhos ρ refs).Nodup:=by
 refine List.pairwise_iff_getElem.mpr fun i j hi hj hij q=>?_
 obtain⟨k1,r1,e1⟩:=zEo R e (Jf hi);obtain⟨k2,r2,e2⟩:=zEo R e (Jf hj);rw[q]at e1
 have:=getElem?_inj R.nd e1 e2
 subst this
 have:=getElem?_inj nd r1 r2
 omega
theorem Rel.enter(R:Rel K cl E0 ρ G st H){refs:List Nat}{cs xc:List Cell}{xs:List Addr} (nd:refs.Nodup) (hc:getCells st refs=some cs) (up:Sub H Hm) (hx:∀x∈xs,H x=none) (xnd:xs.Nodup) (xl:xs.length=xc.length)
  (hxc:∀(i:Nat) c x,xc[i]?=some c→xs[i]?=some x→CA K cl (xs++rhos ρ refs) G Hm x c):Rel K cl ⟨strip Hm,(xs++rhos ρ refs).length,G⟩ (xs++rhos ρ refs) G (xc++cs) Hm:=by
 have lr:(rhos ρ refs).length=refs.length:=Jb ..;have lc:=zED hc
 have there:∀a,a∈rhos ρ refs→∃o,H a=some o:=fun a m=>by
  obtain⟨j,hj⟩:=Ve m;obtain⟨i,_,h2⟩:=zEo R hc hj;exact R.there h2
 refine⟨by rw[Jl,Jl,xl,lr,lc],?_,fun i c a e1 e2=>?_,fun i c a e1 e2=>?_,R.sub.trans up,fun a u e _=>(zEa e).1,fun i a hi e=>?_,Jq _,fun a u e=>.inl e,fun a u e=>(zEa e).2,R.gnt,fun q hq=>(R.tabs q hq).ext up⟩
 ·refine Yf.mpr ⟨xnd,zK6 R nd hc,fun a ha b hb z=>?_⟩
  subst z;obtain⟨o,q⟩:=there a hb;rw[hx a ha]at q;cases q
 ·rcases zDY e1 with⟨h1,h2⟩|⟨h1,h2⟩<;>rcases zDY e2 with⟨h3,h4⟩|⟨h3,h4⟩
  ·exact hxc i c a h2 h4
  ·omega
  ·omega
  ·rw[xl]at h4;obtain⟨k,r1,r2⟩:=zEo R hc h4;obtain⟨d,g1,g2,g3⟩:=zDh hc r1;rw[h2]at g1;cases g1;have x:=R.cell k c a g2 r2;obtain⟨o,q⟩:=R.there r2;exact CA.plain g3 (x.mono (Je _) (Sub.refl _) ((up a o q).trans q.symm))
 ·rcases zDY e1 with⟨h1,h2⟩|⟨h1,h2⟩<;>rcases zDY e2 with⟨h3,h4⟩|⟨h3,h4⟩
  ·exact .inr (R.gnone (hx a (Jn h4)))
  ·omega
  ·omega
  ·rw[xl]at h4;obtain⟨k,r1,r2⟩:=zEo R hc h4;obtain⟨d,g1,g2,g3⟩:=zDh hc r1;rw[h2]at g1;cases g1;exact R.sep k c a g2 r2
 ·have:=(Ja.mp e).1
  have hi:(xs++rhos ρ refs).length≤i:=hi;omega
theorem zD9{ρc:List Addr}:∀ {ws:List W}{vs:List V} (k:Nat),RWs K cl ρ G ws vs→(∀(j i:Nat),(zAU ws)[j]?=some i→∃a,ρ[i]?=some a∧ρc[k+j]?=some a)→RWs K cl ρc G (zC9 k ws) vs
 |[],_,_,.nil,_=>.nil
 | .p x::ws,_,k,.cons r rs,h=>.cons (show RW K cl ρc G (.p x) _ from r) (zD9 k rs h)
 | .r i::ws,_,k,.cons r rs,h=>by
  obtain⟨a,h1,h2⟩:=h 0 i rfl;obtain⟨b,h3,rfl⟩:=r;rw[h1]at h3;cases h3;refine .cons ⟨a,h2,rfl⟩ (zD9 (k+1) rs fun j m e=>?_)
  obtain⟨c,h4,h5⟩:=h (j+1) m e;exact⟨c,h4,by rw[show k+1+j=k+(j+1) by omega];exact h5⟩
theorem zEY{F:FM}{ws:List W}{vs:List V}{Q:VK}{Z:ZX} (R:(bs K cl E0).Rel ρ G st H) (r:RWs K cl ρ G ws vs) (h:Aft (bs K cl E0) (bs K cl E0).RW ρ G (zAP F ws st) Q Z):spF K cl F vs H Q Z:=by
 unfold zAP at h;split at h
 case isFalse=>exact h.elim
 rename_i nd
 split at h
 case h_2=>exact h.elim
 rename_i cs hc
 have nx:∀x∈([]:List Addr),H x=none:=fun x m=>absurd m (by simp)
 have lr:(rhos ρ (zAU ws)).length=(zAU ws).length:=Jb ..;refine⟨[]++rhos ρ (zAU ws),G,[]++cs,zC9 0 ws,Rel.enter R nd hc (Sub.refl H) nx (by simp) rfl (fun i c x e=>by simp at e),zD9 0 r fun j i e=>?_,?_⟩
 ·obtain⟨a,h1,h2⟩:=zFJ R hc e;exact⟨a,h1,by rw[VQ];exact h2⟩
 ·have h:Aft (bs K cl E0) (bs K cl E0).RW ρ G (callEnd 0 (zAU ws) st (F (zC9 0 ws) cs)) Q Z:=h;show Aft _ _ _ _ (F (zC9 0 ws) cs) Q Z;generalize F (zC9 0 ws) cs=res at h ⊢;cases res with
  |no=>exact h.elim
  |exc x st' =>
   intro ρ' G' H' cls d p s R' u;unfold callEnd at h;dsimp only at h
   by_cases hp:((st'.drop 0).take (zAU ws).length).all zBS=true∧0+(zAU ws).length≤st'.length
   case neg=>rw[Js hp]at h;exact h.elim
   rw[Jm hp]at h;exact h ρ G' H' cls d (Je _) s (Rel.ret R nd hc (Sub.refl H) nx p s R' hp.1 (by simpa using hp.2)) u
  |ok w st' =>
   intro ρ' G' H' v p s R' u;unfold callEnd at h;dsimp only at h
   by_cases hp:((st'.drop 0).take (zAU ws).length).all zBS=true∧0+(zAU ws).length≤st'.length
   case neg=>rw[Js hp]at h;exact h.elim
   rw[Jm hp]at h;have R2:=Rel.ret R nd hc (Sub.refl H) nx p s R' hp.1 (by simpa using hp.2)
   split at h
   ·exact h ρ G' H' v (Je _) s R2 u
   ·rename_i j
    obtain⟨a,ha,rfl⟩:=u;split at h
    ·rename_i hj
     split at h
     ·rename_i i ei
      obtain⟨b,h1,h2⟩:=zFJ R hc ei
      have:(rhos ρ (zAU ws))[j]?=some a:=by
       obtain⟨tl,rfl⟩:=p;rw[Yx]at ha;rw[Jh (by rw[lr];omega)]at ha
       exact ha
      rw[Nat.sub_zero,this]at h2;cases h2;exact h ρ G' H' (.ref a) (Je _) s R2 ⟨a,h1,rfl⟩
     ·exact h.elim
    ·split at h
     ·rename_i hj
      split at h
      ·rename_i c ec
       split at h
       ·rename_i hpl
        have x:=R'.cell j c a ec ha;have sp:=(R'.sep j c a ec ha).resolve_left (zG3 hpl);have hn:strip H a=none:=R'.new j a (by rw[Yx,lr];show(zAU ws).length≤j;omega) ha
        have R3:=Rel.adoptC (c:=c) R2 (zG3 hpl) sp (fun i e=>(R.offF hn).1 i e) (R.offF hn).2 (CA.plain hpl x)
        refine h (ρ++[a]) G' H' (.ref a) (JY _ _) s R3 ⟨a,?_,rfl⟩;rw[←R.len];simp
       ·exact h.elim
      ·exact h.elim
     ·exact h.elim
def zAH(F:FM) (a:AM):EM:=fun σ st=>(a σ st).bind fun ws st1=>(zAP F ws st1).nox
theorem Aft.noxZ{B:Bs}{α β:Type}{U:List Addr→Hp→α→β→Prop}{R:Res α}{Q:β→Hp→Prop}{Z Z':ZX} (h:Aft B U ρ G R.nox Q Z):Aft B U ρ G R Q Z':=by
 cases R with
 |ok a st=>exact h
 |exc x st=>exact h.elim
 |no=>exact h.elim
section
variable {f:Addr}{fd:FuncData}{ps:List Str}{F:FM}{a:AM}{k:Nat}{x m:Str}{p pos apos:Pos}{e:Expr}{es:List Expr}
theorem zRh(Fk:FnOk X.prog X.w X.K X.mg X.base CX0 k f fd ps (spF K cl F)) (hr:Room k X.A) (hg:Gl X x) (hm:X.mg x=some (.ref f)) (hk:PySem.W.keepIn X.K (.ref f)=true) (hb:Binds X.K fd ps [])
  (ha:SA K cl X Wx a (e::es)) (hdb:(x==("__debug__" : Str))=false:=by decide) (he:starEach (e::es) X.env=(false,eval e X.env)::starEach es X.env:=by rfl) (hpl:(backTo pos (starEach es X.env)).any (·.1)=false:=by rfl) :
  SE K cl X Wx (zAH F a) (.Call (.Name x p) (e::es) [] pos):=by
 refine⟨fun E0 ρ G σ st τ H Q R S h=>T.of (pe_call (E:=L2.E0) Fk hr hg hm hk hb .nil pass0 TA'.pa hdb he hpl) ?_⟩
 refine ha.run E0 ρ G σ st τ H _ R S (Aft.seq h fun ws st1 ρ1 G1 H1 vs e1 p1 s1 R1 u1 h1=>?_)
 rw[JK];exact zEY R1 u1 h1.noxZ
def clsOf(st:List Cell):W→Option Nat
 | .p (.obj c _)=>some c
 | .r i=>match st[i]? with
  |some (.ins c _)=>some c
  |_=>none
 |_=>none
theorem zEE{ns:List Str}{vs:List V}{m:Str} (h:m∉ns):(ns.zip vs).lookup m=none:=by
 induction ns generalizing vs with
 |nil=>rfl
 |cons n ns ih =>
  cases vs with
  |nil=>rfl
  |cons v vs =>
   rw[JU,JE]
   have:(m==n)=false:=J8.mpr fun e=>h (by rw[e];exact Jc)
   rw[this];exact ih fun z=>h (Jg _ z)
theorem zHv{w:W}{v:V}{c:Nat}{C:Addr}{ns:List Str} (R:(bs K cl E0).Rel ρ G st H) (r:RW K cl ρ G w v) (e:clsOf st w=some c) (hc:cl[c]?=some (C,ns)):∃a dx vs,v=.ref a∧H a=some (.ins C dx (ns.zip vs)):=by
 cases w with
 |p x =>
  cases x with
  |obj c' l =>
   cases e;cases r with
   |obj h1 h2 z q =>
    rw[hc]at h1;cases h1;exact⟨_,_,_,rfl,R.sub _ _ h2⟩
  |_=>cases e
 |r i =>
  obtain⟨a,ha,rfl⟩:=r;have e:(match st[i]? with|some (.ins c _)=>some c|_=>none)=some c:=e
  split at e
  ·rename_i c' l el
   cases e;obtain⟨b,hb,⟨C',dx,ns',vs,k,h1,z,q⟩,_⟩:=R.at el;cases Jd (ha.symm.trans hb);rw[hc]at k;cases k;exact⟨a,dx,vs,rfl,h1⟩
  ·cases e
def zB1(c:Nat) (F:FM) (o:EM) (a:AM):EM:=fun σ st=>(o σ st).bind fun w st1=>if clsOf st1 w=some c then(a σ st1).bind fun ws st2=>(zAP F (w::ws) st2).nox else .no
theorem zQu{C:Addr}{ns:List Str}{c:Nat}{o:EM}{eo:Expr}{pl:Sem Bool} (hC:cl[c]?=some (C,ns)) (hn:m∉ns) (kc:L2.Cls X.K C) (hmt:Meth X.K C m f) (Fk:FnOk X.prog X.w X.K X.mg X.base CX0 k f fd ps (spF K cl F)) (hr:Room k X.A) (hb:Binds X.K fd ps [])
  (ho:SE K cl X Wx o eo) (ha:SA K cl X Wx a (e::es))
  (hst:starEach (e::es) X.env=(false,eval e X.env)::starEach es X.env:=by rfl) (hpl:(backTo pos (starEach es X.env)).any (·.1)=false:=by rfl)
  (ht:eval (.Call (.Attribute eo m apos) (e::es) [] pos) X.env=(do
   let ov ←eval eo X.env
   standAt apos.atName
   let (f,first) ←holding [ov] (getMethod ov m pl)
   callWith pos f first (backTo pos (starEach (e::es) X.env)) (backToKw pos (keywordEach [] X.env))):=by rfl) :
  SE K cl X Wx (zB1 c F o a) (.Call (.Attribute eo m apos) (e::es) [] pos):=by
 refine⟨fun E0 ρ G σ st τ H Q R S h=>T.of (pe_meth (E:=L2.E0) T.pe kc hmt Fk hr hb .nil pass0 TA'.pa hst hpl ht) ?_⟩
 refine ho.run E0 ρ G σ st τ H _ R S (Aft.seq h fun w st1 ρ1 G1 H1 v e1 p1 s1 R1 u1 h1=>?_)
 split at h1
 case isFalse=>exact h1.elim
 rename_i ec
 obtain⟨b,dx,vs,rfl,hH⟩:=zHv R1 u1 ec hC;refine⟨b,dx,_,rfl,hH,zEE hn,?_⟩;refine ha.run E0 ρ1 G1 σ st1 τ H1 _ R1 (S.mono p1 s1) (Aft.seq h1 fun ws st2 ρ2 G2 H2 us e2 p2 s2 R2 u2 h2=>?_)
 rw[JK];exact zEY R2 (.cons (RW.mono p2 s2 u1) u2) h2.noxZ
theorem zOI{C:Addr}{ns:List Str}{c:Nat}{o:EM}{eo:Expr}{pl:Sem Bool} (hC:cl[c]?=some (C,ns)) (hn:m∉ns) (kc:L2.Cls X.K C) (hmt:Meth X.K C m f) (Fk:FnOk X.prog X.w X.K X.mg X.base CX0 k f fd ps (spF K cl F)) (hr:Room k X.A) (hb:Binds X.K fd ps [])
  (ho:SE K cl X Wx o eo)
  (ht:eval (.Call (.Attribute eo m apos) [] [] pos) X.env=(do
   let ov ←eval eo X.env
   standAt apos.atName
   let (f,first) ←holding [ov] (getMethod ov m pl)
   callWith pos f first (backTo pos (starEach [] X.env)) (backToKw pos (keywordEach [] X.env))):=by rfl) :
  SE K cl X Wx (zB1 c F o mNil) (.Call (.Attribute eo m apos) [] [] pos):=by
 refine⟨fun E0 ρ G σ st τ H Q R S h=>T.of (pe_meth0 (E:=L2.E0) T.pe kc hmt Fk hr hb .nil pass0 ht) ?_⟩
 refine ho.run E0 ρ G σ st τ H _ R S (Aft.seq h fun w st1 ρ1 G1 H1 v e1 p1 s1 R1 u1 h1=>?_)
 split at h1
 case isFalse=>exact h1.elim
 rename_i ec
 obtain⟨b,dx,vs,rfl,hH⟩:=zHv R1 u1 ec hC;refine⟨b,dx,_,rfl,hH,zEE hn,?_⟩;show spF K cl F (V.ref b::([]++[])) H1 Q L2.E0;exact zEY R1 (.cons u1 .nil) (ws:=[w]) (vs:=[.ref b]) h1.noxZ
def mFld(cs:List (Nat×Nat)) (o:EM):EM:=fun σ st=>(o σ st).bind fun w st1=>match w with
 | .p (.obj c l)=>match cs.lookup c with
  |some i=>match l[i]? with
   |some x=>.ok (.p x) st1
   |none=>.no
  |none=>.no
 | .r j=>match st1[j]? with
  |some (.ins c l)=>match cs.lookup c with
   |some i=>match l[i]? with
    |some x=>.ok x st1
    |none=>.no
   |none=>.no
  |_=>.no
 |_=>.no
theorem zC2:∀ {ns:List Str}{vs:List V}{i:Nat}{m:Str}{v:V},ns.Nodup→ns[i]?=some m→vs[i]?=some v→(ns.zip vs).lookup m=some v
 |[],_,_,_,_,_,h,_=>by simp at h
 |_::_,[],_,_,_,_,_,h=>by simp at h
 |n::ns,u::vs,0,m,v,_,h1,h2=>by
  simp at h1 h2;subst h1;subst h2;simp
 |n::ns,u::vs,i+1,m,v,nd,h1,h2=>by
  have h1:ns[i]?=some m:=by simpa using h1
  have h2:vs[i]?=some v:=by simpa using h2
  rw[JU,JE]
  have:(m==n)=false:=J8.mpr fun e=>(Vb.mp nd).1 (by rw[←e];exact Jn h1)
  rw[this];exact zC2 (Vb.mp nd).2 h1 h2
theorem lookup_mem:∀ {cs:List (Nat×Nat)}{c i:Nat},cs.lookup c=some i→(c,i)∈cs
 |[],_,_,h=>by simp at h
 |(a,b)::cs,c,i,h=>by
  rw[JE]at h;split at h
  ·rename_i e
   cases h
   have:c=a:=eq_of_beq e
   subst this;exact Jc
  ·exact Jg _ (lookup_mem h)
theorem zFZ{cs:List (Nat×Nat)}{o:EM}{eo:Expr}{fn:Str} (g:GX K X) (hf:∀q∈cs,zGW K cl fn q.1 q.2) (ho:SE K cl X Wx o eo) (hb:attributeBase eo fn X.env (eval eo X.env)=eval eo X.env:=by rfl):SE K cl X Wx (mFld cs o) (.Attribute eo fn pos):=by
 obtain⟨hK,_⟩:=g;subst hK;refine⟨fun E0 ρ G σ st τ H Q R S h=>T.of (pe_fld T.pe hb) ?_⟩
 refine ho.run E0 ρ G σ st τ H _ R S (Aft.seq h fun w st1 ρ1 G1 H1 v e1 p1 s1 R1 u1 h1=>?_)
 split at h1
 ·rename_i c l
  split at h1
  ·rename_i i ei
   split at h1
   ·rename_i y ey
    obtain⟨C,ns,k1,k2,k3,k4,k5⟩:=(hf (c,i) (lookup_mem ei)).ex;cases u1 with
    |obj g1 g2 z q =>
     rw[k1]at g1;cases g1;obtain⟨u,eu,ru⟩:=q.get ey;exact⟨_,C,_,_,u,rfl,R1.sub _ _ g2,k4,k5,zC2 k2 k3 eu,h1.here R1 ru⟩
   ·exact h1.elim
  ·exact h1.elim
 ·rename_i j
  obtain⟨b,hb',rfl⟩:=u1;split at h1
  ·rename_i c l el
   split at h1
   ·rename_i i ei
    split at h1
    ·rename_i y ey
     obtain⟨C,ns,k1,k2,k3,k4,k5⟩:=(hf (c,i) (lookup_mem ei)).ex;obtain⟨b2,hb2,⟨C',dx,ns',vs,g1,g2,z,q⟩,_⟩:=R1.at el;cases Jd (hb'.symm.trans hb2);rw[k1]at g1;cases g1;obtain⟨u,eu,ru⟩:=q.get ey;exact⟨_,C,_,_,u,rfl,g2,k4,k5,zC2 k2 k3 eu,h1.here R1 ru⟩
    ·exact h1.elim
   ·exact h1.elim
  ·exact h1.elim
 ·exact h1.elim
end
end
def runF(np N:Nat) (m:SMm):FM:=fun ws st=>if ws.length=np then match m (ws.map some++List.replicate (N-np) none) st with
 | .ok .nx _ st1=>.ok (.p .non) st1
 | .ok (.rt w) _ st1=>.ok w st1
 |_=>.no
 else .no
abbrev cxD(P:Program) (w:World) (K:PySem.W.Frag) (mg:Str→Option Value) (base:Heap) (N:List Str) (qual:Str) (scope:Scope) (f:Addr) (cd:Value) (A:Around) (outer:List Env) (s:Shared) (H:Hp) (E:XK):Cx :=
 (cxOf CX0 P w K mg base N qual scope f cd A outer s H E).nox
section
variable {K:PySem.W.Frag}{cl:Cls}{X:Cx}{Wx:WX}{E0:En}{ρ ρ':List Addr}{G G':Hp}{σ:Sg}{τ:L2.St}{st:List Cell}{H:Hp}{D:Ends}
theorem zRE{P:Program}{w:World}{mg:Str→Option Value}{base:Heap}{N ps:List Str}{qual:Str}{scope:Scope}{f:Addr}{cd:Value}{A:Around}{outer:List Env}{s:Shared}{H:Hp}{E:XK}{k:Nat}
  (S:FnScope N ps scope) (hr:Room k (A.deeper (envOfC qual scope s.heap.objs.size f cd))):GX K (cxD P w K mg base N qual scope f cd A outer s H E) :=
 ⟨rfl,rfl,S.nd,by have:=hr.un;show(A.deeper _).units+65<cLine;omega,hr.hd⟩
theorem zPr{P:Program}{w:World}{mg:Str→Option Value}{base:Heap}{N ps:List Str}{qual:Str}{body:List Stmt}{scope:Scope}{f:Addr}{cd:Value}{A:Around}{outer:List Env}{s:Shared}{H:Hp}{E E':XK}{m:SMm}{vs:List V}{Q:VK} (S:FnScope N ps scope)
  (hb:SSs K cl (cxD P w K mg base N qual scope f cd A outer s H E) WF m body) (h:spF K cl (runF ps.length N.length m) vs H Q E'):TSs' (cxD P w K mg base N qual scope f cd A outer s H E) body { nx:=fun _ H'=>Q .non H',rt:=Q } (L2.start N vs) H:=by
 obtain⟨ρ0,G0,st0,ws,R,r,a⟩:=h;unfold runF at a;split at a
 case isFalse=>exact a.elim
 rename_i hl
 have lv:vs.length=ps.length:=by rw[←r.length];exact hl
 refine hb.run ⟨strip H,ρ0.length,G0⟩ ρ0 G0 (ws.map some++List.replicate (N.length-ps.length) none) st0 (L2.start N vs) H _ R ?_ ?_
 ·unfold L2.start;rw[lv];refine⟨by rw[Jl,Jl,Jb,Jb,hl,lv,Vk,Vk],fun i w' e=>?_⟩
  rcases zDY e with⟨h1,h2⟩|⟨h1,h2⟩
  ·rw[Jb]at h1;rw[Ji]at h2;cases q:ws[i]? with
   |none=>rw[q]at h2;cases h2
   |some u =>
    rw[q]at h2;have h2:some (some u)=some (some w'):=h2;cases h2;obtain⟨v,ev,rv⟩:=r.get q;refine⟨v,?_,rv⟩;rw[Jh (by rw[Jb,lv,←hl];exact h1),Ji,ev];rfl
  ·rw[Vo]at h2;split at h2<;>cases h2
 ·generalize m (ws.map some++List.replicate (N.length-ps.length) none) st0=res at a ⊢;cases res with
  |no=>exact a.elim
  |exc x σ st=>exact a.elim
  |ok fl σ st =>
   cases fl with
   |nx=>exact fun ρ' G' H' τ' p s R' S'=>a ρ' G' H' .non p s R' RP.non
   |rt u=>exact fun ρ' G' H' τ' p s R' S' v rv=>a ρ' G' H' v p s R' rv
   |bk=>exact a.elim
   |ct=>exact a.elim
theorem fn_ok{P:Program}{w:World}{mg:Str→Option Value}{base:Heap}{N ps:List Str}{x qual:Str}{params:Arguments}{body:List Stmt}{scope:Scope}{dvs:List V}{kws:List (Str×V)}{f:Addr}{fd:FuncData}{k:Nat}{m:SMm}
  (F:FunD K x qual params body scope dvs kws f fd) (S:FnScope N ps scope) (hb:∀(cd:Value) (A:Around) (outer:List Env) (s:Shared) (H:Hp) (E:XK),Room k (A.deeper (envOfC qual scope s.heap.objs.size f cd))→SSs K cl (cxD P w K mg base N qual scope f cd A outer s H E) WF m body) :
  FnOk P w K mg base CX0 (k+1) f fd ps (spF K cl (runF ps.length N.length m)):=by
 refine F.ok S (fun vs H Q E h=>?_) (fun cd A outer s H vs Q E hr h=>⟨TSs' (cxD P w K mg base N qual scope f cd A outer s H E) body,PSs.nox TSs'.pss,zPr S (hb cd A outer s H E hr) h⟩)
 ·obtain⟨ρ0,G0,st0,ws,R,r,a⟩:=h;unfold runF at a;split at a
  ·rename_i hl;rw[←r.length];exact hl
  ·exact a.elim
def zD5(x y:W) (st:List Cell):Res W:=match x,y with
 | .p (.int i),.p (.int j)=>.ok (.p (.int (i+j))) st
 | .p (.str i),.p (.str j)=>if i.length+j.length≤LIM then .ok (.p (.str (i++j))) st else .no
 |_,_=>.no
def zPf:R2:=fun x y H Q=>rI0 (fun i j=>.int (i+j)) x y H Q∨∃i j,x=.str i∧y=.str j∧i.length+j.length≤sizeLine∧Q (.str (i++j)) H
theorem zCk:OpR X (inplaceOp .Add) zPf:=iop_add.or iop_add_str
theorem zCl:VOp K cl zD5 zPf:=by
 intro E0 ρ G st H x y v u Q Z R rx ry h;unfold zD5 at h;split at h
 ·cases rx;cases ry;exact .inl ⟨_,_,rfl,rfl,h.here R (RP.int _)⟩
 ·cases rx;cases ry;split at h
  ·rename_i hl
   exact .inr ⟨_,_,rfl,rfl,zCo hl,h.here R (RP.str _)⟩
  ·exact h.elim
 ·exact h.elim
def tyW(st:List Cell):W→Option String
 | .p (.str _)=>some "str"
 | .p (.lst _)=>some "list"
 | .r i=>match st[i]? with
  |some (.lst _)=>some "list"
  |some (.dk _ _)=>some "dict"
  |_=>none
 | .p (.dk _ _)=>some "dict"
 |_=>none
theorem tyW_ok{T:String}{w:W}{v:V} (R:(bs K cl E0).Rel ρ G st H) (r:RW K cl ρ G w v) (e:tyW st w=some T):tyV K T v H:=by
 cases w with
 |p x =>
  cases x with
  |str z=>cases e;cases r;rfl
  |lst l =>
   cases e;cases r with
   |lst h q=>exact .inl ⟨rfl,_,.inl (.inl (R.sub _ _ h))⟩
  |dk ks l =>
   cases e;cases r with
   |dk h z q=>exact .inr (.inr (.inl ⟨rfl,.inl ⟨_,R.sub _ _ h⟩⟩))
  |_=>cases e
 |r i =>
  obtain⟨a,ha,rfl⟩:=r;have e:(match st[i]? with|some (.lst _)=>some "list" | some (.dk _ _)=>some "dict" | _=>none)=some T:=e
  split at e
  ·rename_i l el
   cases e;obtain⟨b,hb,⟨vs,h1,h2⟩,_⟩:=R.at el;cases Jd (ha.symm.trans hb);exact .inl ⟨rfl,vs,.inl (.inl h1)⟩
  ·rename_i ks l el
   cases e;obtain⟨b,hb,⟨vs,h1,z,h2⟩,_⟩:=R.at el;cases Jd (ha.symm.trans hb);exact .inr (.inr (.inl ⟨rfl,.inl ⟨_,h1⟩⟩))
  ·cases e
def VMt(K:PySem.W.Frag) (cl:Cls) (f:W→List W→List Cell→Res W) (r:V→List V→Hp→VK→Prop):Prop :=
 ∀E0 ρ G st H w v ws vs Q Z,(bs K cl E0).Rel ρ G st H→RW K cl ρ G w v→RWs K cl ρ G ws vs→Aft (bs K cl E0) (bs K cl E0).RW ρ G (f w ws st) Q Z→r v vs H Q
def mBm(T:String) (f:W→List W→List Cell→Res W) (o:EM) (a:AM):EM:=fun σ st=>(o σ st).bind fun w st1=>if tyW st1 w=some T then(a σ st1).bind fun ws st2=>f w ws st2 else .no
section
variable {Ty id:String}{name:Str}{r:V→List V→Hp→VK→Prop}{f:W→List W→List Cell→Res W}{o:EM}{a:AM}{eo e:Expr}{es:List Expr}{apos cpos:Pos}
theorem zFF(g:GX K X) (pa:PlainAttrs Ty) (slot:Slot Ty name id) (hty:typeOf (.builtin id)=pure (.type "method_descriptor")) (hm:MtR X id r) (hf:VMt K cl f r) (ho:SE K cl X Wx o eo) (ha:SA K cl X Wx a (e::es))
  (hbase:attributeBase eo name X.env (eval eo X.env)=eval eo X.env:=by rfl)
  (hfew:((backTo cpos (starEach (e::es) X.env)).all (fun x => !x.1)&&(backToKw cpos (keywordEach [] X.env)).all (fun x=>x.1.isSome)
   && decide ((e::es).length+([]:List Keyword).length+(if([]:List Keyword).isEmpty then 0 else 1)<30))=true:=by rfl)
  (hline:(apos.endLine==cpos.line)=true:=by rfl) (hs:starEach (e::es) X.env=(false,eval e X.env)::starEach es X.env:=by rfl) (hplain:(backTo cpos (starEach es X.env)).any (·.1)=false:=by rfl) :
  SE K cl X Wx (mBm Ty f o a) (.Call (.Attribute eo name apos) (e::es) [] cpos):=by
 obtain⟨hK,_⟩:=g;subst hK;refine⟨fun E0 ρ G σ st τ H Q R S h=>T.of (pe_bm pa slot hty hm T.pe TA'.pa hbase hfew hline hs hplain) ?_⟩
 refine ho.run E0 ρ G σ st τ H _ R S (Aft.seq h fun w st1 ρ1 G1 H1 v e1 p1 s1 R1 u1 h1=>?_)
 split at h1
 case isFalse=>exact h1.elim
 rename_i et
 refine⟨tyW_ok R1 u1 et,?_⟩;refine ha.run E0 ρ1 G1 σ st1 τ H1 _ R1 (S.mono p1 s1) (Aft.seq h1 fun ws st2 ρ2 G2 H2 us e2 p2 s2 R2 u2 h2=>?_)
 exact hf E0 ρ2 G2 st2 H2 w v ws us _ _ R2 (RW.mono p2 s2 u1) u2 h2
end
theorem zFO{i:Nat}{l:List W}{v:V} (R:(bs K cl E0).Rel ρ G st H) (r:RW K cl ρ G (.r i) v) (e:st[i]?=some (.lst l)):∃a vs,v=.ref a∧ρ[i]?=some a∧H a=some (.lst vs)∧RWs K cl ρ G l vs:=by
 obtain⟨a,ha,rfl⟩:=r;obtain⟨b,hb,⟨vs,h1,h2⟩,_⟩:=R.at e;cases Jd (ha.symm.trans hb);exact⟨a,vs,rfl,ha,h1,h2⟩
theorem Aft.wrote{i:Nat}{l l2:List W}{a:Addr}{vs2:List V}{Q:VK}{Z:ZX} (h:Aft (bs K cl E0) (bs K cl E0).RW ρ G (.ok (.p .non) (st.set i (.lst l2))) Q Z) (R:(bs K cl E0).Rel ρ G st H) (e:st[i]?=some (.lst l)) (ha:ρ[i]?=some a) (r:RWs K cl ρ G l2 vs2):Q .non (upd H a (.lst vs2)) :=
 h.here (Rel.write (o:=.lst vs2) R e (fun z=>by cases z) (fun z=>by cases z) ha ⟨vs2,Ju,r⟩) RP.non
def zBm(w:W) (ws:List W) (st:List Cell):Res W:=match w,ws with
 | .r i,[x]=>match st[i]? with
  |some (.lst l)=>if l.length<LIM then .ok (.p .non) (st.set i (.lst (l++[x])))else .no
  |_=>.no
 |_,_=>.no
theorem zC4:VMt K cl zBm rAppend:=by
 intro E0 ρ G st H w v ws vs Q Z R r rs h;unfold zBm at h;split at h
 ·rename_i i x
  obtain⟨u,rfl,ru⟩:=rs.one;split at h
  ·rename_i l el
   obtain⟨a,us,rfl,ha,h1,h2⟩:=zFO R r el;split at h
   ·rename_i hl
    exact⟨a,us,u,rfl,rfl,h1,by rw[←h2.length];exact zPs hl,h.wrote R el ha (h2.append (.cons ru .nil))⟩
   ·exact h.elim
  ·exact h.elim
 ·exact h.elim
def zGw(w:W) (ws:List W) (st:List Cell):Res W:=match w,ws with
 | .r i,[.p (.int k),x]=>match st[i]? with
  |some (.lst l)=>if l.length<LIM∧0≤k∧k≤LIM then .ok (.p .non) (st.set i (.lst (l.take k.toNat++[x]++l.drop k.toNat)))else .no
  |_=>.no
 |_,_=>.no
def zQW:V→List V→Hp→VK→Prop:=fun x vs H Q=>∃(l:Addr) (xs:List V) (i:Int) (y:V),x=.ref l∧vs=[.int i,y]∧H l=some (.lst xs)∧xs.length<sizeLine∧0≤i∧i<2^63 ∧
  Q .non (upd H l (.lst (xs.take i.toNat++[y]++xs.drop i.toNat)))
theorem zLK:VMt K cl zGw zQW:=by
 intro E0 ρ G st H w v ws vs Q Z R r rs h;unfold zGw at h;split at h
 ·rename_i i k x
  obtain⟨u0,u,rfl,ru0,ru⟩:=rs.two;cases ru0;split at h
  ·rename_i l el
   obtain⟨a,us,rfl,ha,h1,h2⟩:=zFO R r el;split at h
   ·rename_i hl
    have hlim:((LIM:Nat):Int)=1000000:=rfl;exact⟨a,us,k,u,rfl,rfl,h1,by rw[←h2.length];exact zPs hl.1,hl.2.1,∅,h.wrote R el ha (((h2.take _).append (.cons ru .nil)).append (h2.drop _))⟩
   ·exact h.elim
  ·exact h.elim
 ·exact h.elim
def zDx(o ix m:EM):SMm:=fun σ st=>(m σ st).to σ fun x st1=>(o σ st1).to σ fun w st2=>(ix σ st2).to σ fun k st3=>match w,k with
 | .r i,.p (.int n)=>match st3[i]? with
  |some (.lst l)=>match L2.ixN l.length n with
   |some j=>.ok .nx σ (st3.set i (.lst (l.set j x)))
   |none=>.no
  |_=>.no
 |_,_=>.no
theorem zDM{o ix m:EM}{eo ei e:Expr}{pos pos':Pos} (g:GX K X) (ho:SE K cl X Wx o eo) (hi:SE K cl X Wx ix ei) (h:SE K cl X Wx m e)
  (ha:∀v,PySem.assign (.Subscript eo ei pos') X.env v=(do
   let ov ←holding [v] (eval eo X.env)
   let iv ←holding [v,ov] (eval ei X.env)
   standAt pos'
   holding [v,ov,iv] (setItem ov iv v)
   release [v,ov,iv] []):=by intro _;rfl)
  (hs:swapsWithSole [.Subscript eo ei pos'] e pos.line X.env=pure false:=by rfl) (hw:swappedStores [.Subscript eo ei pos'] e X.env=pure none:=by rfl) (h1:(assignEach [.Subscript eo ei pos'] X.env).map (·.2)=[PySem.assign (.Subscript eo ei pos') X.env]:=by rfl) :
  SS K cl X Wx (zDx o ix m) (.Assign [.Subscript eo ei pos'] e pos):=by
 refine⟨fun E0 ρ G σ st τ H D R S q=>TS'.of (ps_asg T.pe (pg_sub T.pe T.pe set_list ha) hs hw h1) ?_⟩
 refine h.run E0 ρ G σ st τ H _ R S (AftS.seq S q fun x st1 ρ1 G1 H1 v e1 p1 s1 R1 u1 h1=>?_)
 have S1:=RS.mono p1 s1 S;refine ho.run E0 ρ1 G1 σ st1 τ H1 _ R1 S1 (AftS.seq S1 h1 fun w st2 ρ2 G2 H2 ov e2 p2 s2 R2 u2 h2=>?_)
 have S2:=RS.mono p2 s2 S1;refine hi.run E0 ρ2 G2 σ st2 τ H2 _ R2 S2 (AftS.seq S2 h2 fun k st3 ρ3 G3 H3 iv e3 p3 s3 R3 u3 h3=>?_)
 split at h3
 ·rename_i i n
  split at h3
  ·rename_i l el
   split at h3
   ·rename_i j ej
    obtain⟨a,us,rfl,ha,g1,g2⟩:=zFO R3 (RW.mono p3 s3 u2) el;cases u3;refine⟨a,us,n,j,rfl,rfl,g1,by rw[←g2.length];exact ej,?_⟩
    exact AftS.nx h3 (Rel.write (o:=.lst (us.set j v)) R3 el (fun z=>by cases z) (fun z=>by cases z) ha ⟨_,Ju,RWs.set (RW.mono (p2.trans p3) (s2.trans s3) u1) j g2⟩) (RS.mono p3 s3 S2)
   ·exact h3.elim
  ·exact h3.elim
 ·exact h3.elim
theorem zGG:∀ {ns:List Str}{vs:List V}{i:Nat}{fn:Str}{v:V},ns.Nodup→ns[i]?=some fn→i≤vs.length→vs.length≤ns.length→putF fn v (ns.zip vs)=ns.zip (if i<vs.length then vs.set i v else vs++[v])
 |[],_,_,_,_,_,h,_,_=>by simp at h
 |n::ns,[],i,fn,v,nd,h,hi,_=>by
  have hi:i=0:=by simpa using hi
  subst hi;simp at h;subst h;simp[putF]
 |n::ns,u::vs,0,fn,v,nd,h,hi,hl=>by
  simp at h;subst h;simp[putF]
 |n::ns,u::vs,i+1,fn,v,nd,h,hi,hl=>by
  have h:ns[i]?=some fn:=by simpa using h
  have ne:n≠fn:=fun e=>(Vb.mp nd).1 (by rw[e];exact Jn h)
  have ih:=zGG (v:=v) (Vb.mp nd).2 h (by simpa using hi) (by simpa using hl)
  rw[JU];unfold putF;rw[Js ne,ih]
  by_cases hc:i<vs.length
  ·rw[Jm hc,Jm (by simpa using hc)];rfl
  ·rw[Js hc,Js (by simpa using hc)];rfl
def zIv(cs:List (Nat×Nat)) (o m:EM):SMm:=fun σ st=>(m σ st).to σ fun x st1=>(o σ st1).to σ fun w st2=>match w with
 | .r j=>match st2[j]? with
  |some (.ins c l)=>match cs.lookup c with
   |some i=>if i≤l.length then .ok .nx σ (st2.set j (.ins c (if i<l.length then l.set i x else l++[x])))else .no
   |none=>.no
  |_=>.no
 |_=>.no
theorem zH5{cs:List (Nat×Nat)}{o m:EM}{eo e:Expr}{fn:Str}{pos pos':Pos} (g:GX K X) (hf:∀q∈cs,zGW K cl fn q.1 q.2) (hsm:∀(c:Nat) (C:Addr) (ns:List Str),cl[c]?=some (C,ns)→ns.length<1000) (ho:SE K cl X Wx o eo) (h:SE K cl X Wx m e) (hs:swapsWith e (some (.Attribute eo fn pos')) pos.line X.env=pure false) :
  SS K cl X Wx (zIv cs o m) (.Assign [.Attribute eo fn pos'] e pos):=by
 obtain⟨hK,_⟩:=g;subst hK;refine⟨fun E0 ρ G σ st τ H D R S q=>TS'.of (ps_fld T.pe T.pe hs) ?_⟩
 refine h.run E0 ρ G σ st τ H _ R S (AftS.seq S q fun x st1 ρ1 G1 H1 v e1 p1 s1 R1 u1 h1=>?_)
 have S1:=RS.mono p1 s1 S;refine ho.run E0 ρ1 G1 σ st1 τ H1 _ R1 S1 (AftS.seq S1 h1 fun w st2 ρ2 G2 H2 ov e2 p2 s2 R2 u2 h2=>?_)
 split at h2
 ·rename_i j
  obtain⟨b,hb,rfl⟩:=u2;split at h2
  ·rename_i c l el
   split at h2
   ·rename_i i ei
    split at h2
    ·rename_i hi
     obtain⟨C,ns,k1,k2,k3,k4,k5⟩:=(hf (c,i) (lookup_mem ei)).ex;obtain⟨b2,hb2,⟨C',dx,ns',vs,g1,g2,z,q2⟩,_⟩:=R2.at el;cases Jd (hb.symm.trans hb2);rw[k1]at g1;cases g1;have il:i<ns.length:=(Ja.mp k3).1;have hsz:=hsm c C ns k1;refine⟨b,C,dx,_,rfl,g2,k4,k5,by rw[V7];omega,?_⟩
     rw[zGG k2 k3 (by rw[←q2.length];exact hi) z]
     have ll:=q2.length;refine AftS.nx h2 (Rel.write (o:=.ins C dx (ns.zip (if i<vs.length then vs.set i v else vs++[v]))) R2 el (fun z=>by cases z) (fun z=>by cases z) hb ⟨C,dx,ns,_,k1,Ju,?_,?_⟩) (RS.mono p2 s2 S1)
     ·split
      ·rw[JQ];exact z
      ·rw[Jl,List.length_singleton];omega
     ·rw[←ll];split
      ·exact RWs.set (RW.mono p2 s2 u1) i q2
      ·exact q2.append (.cons (RW.mono p2 s2 u1) .nil)
    ·exact h2.elim
   ·exact h2.elim
  ·exact h2.elim
 ·exact h2.elim
def mFmt(a:EM):EM:=fun σ st=>(a σ st).bind fun w st1=>match w with
 | .p (.str y)=>if y.length≤LIM then .ok (.p (.str y)) st1 else .no
 | .p (.int i)=>if i.natAbs.log2<1920 then .ok (.p (.str (toString i))) st1 else .no
 |_=>.no
theorem zD0{a:EM}{e:Expr}{pos:Pos} (ha:SE K cl X Wx a e):SE K cl X Wx (mFmt a) (.FormattedValue e (-1) none pos):=by
 refine⟨fun E0 ρ G σ st τ H Q R S h=>T.of (pe_fmt T.pe) ?_⟩
 refine ha.run E0 ρ G σ st τ H _ R S (Aft.seq h fun w st1 ρ1 G1 H1 v e1 p1 s1 R1 u1 h1=>?_)
 split at h1
 ·cases u1;split at h1
  ·rename_i hl
   exact .inl ⟨_,rfl,zCo hl,h1.here R1 (RP.str _)⟩
  ·exact h1.elim
 ·cases u1;split at h1
  ·rename_i hl
   exact .inr ⟨_,rfl,hl,h1.here R1 (RP.str _)⟩
  ·exact h1.elim
 ·exact h1.elim
def jsF:List EM→Str→EM
 |[],acc,_,st=>.ok (.p (.str acc)) st
 |m::ms,acc,σ,st=>(m σ st).bind fun w st1=>match w with
  | .p (.str y)=>if(acc++y).length≤LIM then jsF ms (acc++y) σ st1 else .no
  |_=>.no
inductive SJ (K:PySem.W.Frag) (cl:Cls) (X:Cx) (Wx:WX):List EM→List Expr→Prop where
 |nil:SJ K cl X Wx [] []
 |cons {m:EM}{e:Expr}{ms:List EM}{es:List Expr} (h:SE K cl X Wx m e) (r:SJ K cl X Wx ms es):SJ K cl X Wx (m::ms) (e::es)
theorem SJ.pj{ms:List EM}{es:List Expr} (h:SJ K cl X Wx ms es):PJ X es (es.map (T X)):=by
 induction h with
 |nil=>exact .nil
 |cons h r ih=>exact .cons T.pe ih
theorem SJ.js{ms:List EM}{es:List Expr} (h:SJ K cl X Wx ms es):∀ {acc:Str}{E0:En}{ρ:List Addr}{G:Hp}{st:List Cell}{H:Hp}{Q:VK},(bs K cl E0).Rel ρ G st H→RS K cl ρ G σ τ →
  Aft (bs K cl E0) (bs K cl E0).RW ρ G (jsF ms acc σ st) Q (fun c d H'=>Wx c d τ H')→tJs (es.map (T X)) acc τ H fun out H1=>Q (.str out) H1:=by
 induction h with
 |nil=>intro acc E0 ρ G st H Q R S q;exact Aft.here (b:=V.str acc) q R (RP.str _)
 |cons h r ih =>
  intro acc E0 ρ G st H Q R S q;refine h.run E0 ρ G σ st τ H _ R S (Aft.seq q fun w st1 ρ1 G1 H1 v e1 p1 s1 R1 u1 h1=>?_)
  split at h1
  ·cases u1;split at h1
   ·rename_i hl
    exact⟨_,rfl,zCo hl,ih R1 (S.mono p1 s1) h1⟩
   ·exact h1.elim
  ·exact h1.elim
theorem zJp{m1 m2:EM}{ms:List EM}{e1 e2:Expr}{es:List Expr}{pos:Pos} (h:SJ K cl X Wx (m1::m2::ms) (e1::e2::es)):SE K cl X Wx (jsF (m1::m2::ms) Str.empty) (.JoinedStr (e1::e2::es) pos) :=
 ⟨fun E0 ρ G σ st τ H Q R S q=>T.of (pe_joined h.pj) (h.js R S q)⟩
end
section
variable {K:PySem.W.Frag}{cl:Cls}{X:Cx}{Wx:WX}{E0:En}{ρ ρ':List Addr}{G G':Hp}{σ:Sg}{τ:L2.St}{st:List Cell}{H:Hp}{D:Ends}
def zD6(st:List Cell):W→Option String
 | .p .non=>some "NoneType"
 | .p (.bl _)=>some "bool"
 | .p (.int _)=>some "int"
 | .p (.str _)=>some "str"
 | .p (.tup _)=>some "tuple"
 | .p (.lst _)=>some "list"
 | .p (.dk _ _)=>some "dict"
 | .r i=>match st[i]? with
  |some (.lst _)=>some "list"
  |some (.dk _ _)=>some "dict"
  |_=>none
 |_=>none
def zGX:List String:=["NoneType", "bool", "int", "str", "tuple", "list", "dict"]
def zHa(t T:String):Bool:=decide (t=T)||(decide (t = "bool")&&decide (T = "int"))
theorem kit_ok(K:PySem.W.Frag){t T:String} (ht:t∈zGX) (hT:T∈zGX):PySem.W.kitOne K (.type t) (.type T)=some (zHa t T):=by
 simp only[zGX,Jr,VL,bv]at ht hT;rcases ht with rfl|rfl|rfl|rfl|rfl|rfl|rfl<;>rcases hT with rfl|rfl|rfl|rfl|rfl|rfl|rfl<;>kernel_rfl
theorem zRC{a:Addr}{vs:List V} (h:SqT K H a vs):TyX K H (.ref a) (.type "tuple"):=by
 rcases h with(h|⟨o,h⟩)|⟨o,its,n,h1,h2,_⟩
 ·exact .base (.tup h)
 ·exact .fTuple h
 ·exact .kTuple h1 h2
theorem zMw{w:W}{v:V}{t:String} (R:(bs K cl E0).Rel ρ G st H) (r:RW K cl ρ G w v) (e:zD6 st w=some t):TyX K H v (.type t)∧t∈zGX:=by
 cases w with
 |p x =>
  cases r with
  |non=>cases e;exact⟨.base .non,!0⟩
  |bl b=>cases e;exact⟨.base (.bl b),!0⟩
  |int i=>cases e;exact⟨.base (.int i),!0⟩
  |str z=>cases e;exact⟨.base (.str z),!0⟩
  |tup h q=>cases e;exact⟨zRC (R.sub.sqT h),!0⟩
  |lst h q=>cases e;exact⟨.base (.lst (R.sub _ _ h)),!0⟩
  |dk h z q=>cases e;exact⟨.base (.dK (R.sub _ _ h)),!0⟩
  |scr h=>cases e
  |obj c h z q=>cases e
  |exn c x h d z q=>cases e
  |lam _ _ _ _ _=>cases e
  |cls _=>cases e
  |fd _ _ _=>cases e
  |fn _ _ _ _ _ _ _=>cases e
 |r i =>
  obtain⟨a,ha,rfl⟩:=r;have e:(match st[i]? with|some (.lst _)=>some "list" | some (.dk _ _)=>some "dict" | _=>none)=some t:=e
  split at e
  ·rename_i l el
   cases e;obtain⟨b,hb,⟨vs,h1,h2⟩,_⟩:=R.at el;cases Jd (ha.symm.trans hb);exact⟨.base (.lst h1),!0⟩
  ·rename_i ks l el
   cases e;obtain⟨b,hb,⟨vs,h1,z,h2⟩,_⟩:=R.at el;cases Jd (ha.symm.trans hb);exact⟨.base (.dK h1),!0⟩
  ·cases e
def mIsi(T:String) (a:EM):EM:=fun σ st=>(a σ st).bind fun w st1=>match zD6 st1 w with
 |some t=>.ok (.p (.bl (zHa t T))) st1
 |none=>.no
theorem zB0{Ty:String}{x:Str}{a:EM}{e:Expr}{p q pos:Pos} (g:GX K X) (hT:Ty∈zGX) (hg:Gl X "isinstance") (hm:X.mg "isinstance" = none) (hgx:Gl X x) (hmx:X.mg x=none) (hv:bootBuiltins x=some (.type Ty)) (hn:x ≠ "__name__") (hdb:(x==("__debug__" : Str))=false)
  (ha:SE K cl X Wx a e) (hs:starEach [e,.Name x q] X.env=(false,eval e X.env)::starEach [.Name x q] X.env:=by rfl) (hs2:starEach [.Name x q] X.env=(false,eval (.Name x q) X.env)::starEach [] X.env:=by rfl) (hpl:(backTo pos (starEach [.Name x q] X.env)).any (·.1)=false:=by rfl) :
  SE K cl X Wx (mIsi Ty a) (.Call (.Name "isinstance" p) [e,.Name x q] [] pos):=by
 obtain⟨hK,_⟩:=g;subst hK;refine⟨fun E0 ρ G σ st τ H Q R S h=>T.of (pe_callB call_isi hg hm ⋯ (Yg T.pe (Yg (pe_bltn (v:=.ty Ty) hgx hmx hv rfl hn hdb) bC hs2) hs) ⋯ ⋯ hs hpl) ?_⟩
 refine ha.run E0 ρ G σ st τ H _ R S (Aft.seq h fun w st1 ρ1 G1 H1 v e1 p1 s1 R1 u1 h1=>?_)
 split at h1
 ·rename_i t et
  obtain⟨t1,t2⟩:=zMw R1 u1 et;exact⟨v,.ty Ty,_,_,zHa t Ty,rfl,.ty Ty,t1,kit_ok _ t2 hT,h1.here R1 (RP.bl _)⟩
 ·exact h1.elim
theorem star_tup{prog:Program}{w:World}{A:Around}{E:Value→Shared→Prop}{s:Shared}{l:Addr}{x:Value}{its:List Value}{Q:List Value→Shared→Prop} (hl:IsTup s.heap l (x::its).toArray) (hh:A.handled=none) (hz:its.length<16384)
  (h:∀(h':Heap) (tk:Nat),(∀b o,s.heap.get? b=some o→h'.get? b=some o)→Q [x,.ref h'.objs.size] { s with heap:=h'.push { cls:=.type "list",data:=.seq its.toArray },toks:=tk }) :
  wpAny (model prog w) A (unpackItems (.ref l) 2 (some 1)) Q E s:=by
 have hlt:l≠s.heap.objs.size:=by obtain⟨o,ho,_⟩:=hl;exact VA (JB ho)
 unfold unpackItems;refine JG ?_
 unfold notIterableAtAll;refine JG (wpAny_specialOf hl.typeIs slot_tuple_iter.lookup (Vt ?_));simp only[V9,YX];refine JG (Yv (iter_tuple hl (JG (Yv (draw_tuple hlt 1 0 _ _ ⟨_,JH _ rfl,rfl,rfl⟩ (hl.push _) (by simp) fun h₁ hit₁ hs₁=>?_)))))
 have hl₁:IsTup h₁ l (x::its).toArray:=(hl.push _).extBut hs₁.extBut hlt;obtain⟨oi,hoi,_⟩:=id hit₁;obtain⟨ol,hol,_⟩:=id hl₁;simp only[Vr,List.take_succ_cons,List.take_zero,JJ,List.length_nil,VQ,V8,YX];refine JG (Yv (PySem.W.kun_collect (s := { s with heap:=h₁ }) (T := "tuple_iterator") (.inr (.inr (.inr rfl))) (bt (A:=A.in1) hh s.heap.objs.size l hlt (x::its).toArray) (fun j u st=>st.1.typeIs) (k:=1) (by simp) ⟨hit₁,hl₁⟩ (JB hoi) (JB hol) (fun h₂ tk hk=>?_) (by rw[Vm];simp;omega)))
 have e1:(x::its).toArray.toList.drop 1=its:=rfl;rw[e1];simp only[Nat.sub_self,Ya,YX,Nat.sub_zero,Y6,List.drop_length,JK];have he:∀b o,s.heap.get? b=some o→h₂.get? b=some o:=fun b o e=>hk b o (VA (JB e)) (hs₁.extBut b o (VA (JB e)) (Jo _ e))
 exact JG (wpAny_newList (Vt (h h₂ tk he)))
def zOS(i j:Nat) (m:EM):SMm:=fun σ st=>(m σ st).to σ fun w st1=>match w with
 | .p (.tup (x::l))=>if l.length<16384 then .ok .nx ((σ.set i (some (.p x))).set j (some (.p (.lst l)))) st1 else .no
 |_=>.no
theorem zLq{i j:Nat}{x y:Str}{m:EM}{e:Expr}{px py p2 pt pos:Pos}{kt:Nat} (g:GX K X) (hi:X.N[i]?=some x) (hj:X.N[j]?=some y) (hx:Loc X.env.scope x) (hy:Loc X.env.scope y) (hfx:X.fn x=true∨X.env.scope.names.lookup x=some .local) (hfy:X.fn y=true∨X.env.scope.names.lookup y=some .local)
  (h:SE K cl X Wx m e)
  (hs:swapsWithSole [.Tuple [.Name x px,.Starred (.Name y py) p2] kt pt] e pos.line X.env=pure false:=by rfl) (hw:swappedStores [.Tuple [.Name x px,.Starred (.Name y py) p2] kt pt] e X.env=pure none:=by rfl)
  (h1:(assignEach [.Tuple [.Name x px,.Starred (.Name y py) p2] kt pt] X.env).map (·.2)=[PySem.assign (.Tuple [.Name x px,.Starred (.Name y py) p2] kt pt) X.env]:=by rfl)
  (h2:assignEach [.Name x px,.Starred (.Name y py) p2] X.env=[(false,PySem.assign (.Name x px) X.env),(true,PySem.assign (.Name y py) X.env)]:=by rfl) :
  SS K cl X Wx (zOS i j m) (.Assign [.Tuple [.Name x px,.Starred (.Name y py) p2] kt pt] e pos):=by
 have pg:PG X (.Tuple [.Name x px,.Starred (.Name y py) p2] kt pt) (fun v σ H Q=>∃a u us,v=.ref a∧SqT X.K H a (u::us)∧us.length<16384∧∀p,H p=none→Q ((σ.set i (some u)).set j (some (.ref p))) (upd H p (.lst us))):=by
  refine⟨fun pins s σ H v u Q I rv hw=>?_⟩
  obtain⟨a,w,us,rfl,hq,hl,q⟩:=hw;cases rv;obtain⟨its,rs,ht,hz⟩:=I.tuple hq;cases rs with
  |@cons _ w0 _ ws r0 rs =>
   rw[assign_Tuple];refine JG (wpAny_standAt ?_);unfold unpack;rw[h2];refine JG (Yv (star_tup ht (I.ok.hd g.hc) (by rw[←rs.length];exact hl) fun h' tk he=>?_))
   have I1:Inv X pins σ H { s with heap:=h',toks:=tk }:=I.kept he
   have I2:=I1.lnew (t':=tk) (ys:=us) (its:=ws) rs (by rw[Vm];omega)
   have hp:=I1.hok.fresh (Jq h'.objs.size);refine assignInOrder_cons (thn ((pg_name g.hN hi hx hfx).run pins _ σ _ w w0 (fun σ1 H1=>σ1=σ.set i (some w)∧H1=upd H h'.objs.size (.lst us)) I2 r0 ⟨rfl,rfl⟩) fun _ s1 ⟨σ1,H1,I3,e1,e2⟩=>?_)
   subst e1 e2;refine assignInOrder_cons (thn ((pg_name g.hN hj hy hfy).run pins _ _ _ (.ref h'.objs.size) (.ref h'.objs.size) Q I3 rfl (q _ hp)) fun _ s2 q2=>?_)
   exact assignInOrder_nil q2
 refine⟨fun E0 ρ G σ st τ H D R S q=>TS'.of (ps_asg T.pe pg hs hw h1) ?_⟩
 refine h.run E0 ρ G σ st τ H _ R S (AftS.seq S q fun w st1 ρ1 G1 H1 v e1 p1 s1 R1 u1 q1=>?_)
 split at q1
 ·rename_i z l
  split at q1
  ·rename_i hl
   cases u1 with
   |tup hh qq =>
    cases qq with
    |@cons _ u _ us r0 rs =>
     refine⟨_,_,_,rfl,by rw[g.hK];exact R1.sub.sqT hh,by rw[←rs.length];exact hl,fun p hp=>?_⟩
     have sn:=Sub.new (o:=.lst us) (R1.gnone hp);exact q1 ρ1 _ _ _ (Je _) sn (R1.froze hp) (((S.mono p1 (s1.trans sn)).set (w:=.p z) (r0.mono sn) i).set (w:=.p (.lst l)) (.lst Ju (rs.mono sn)) j)
  ·exact q1.elim
 ·exact q1.elim
end
def ZK.sure(K:PySem.W.Frag) (H:Hp) (i:Nat) (v:V):ZK→Prop
 | .L a=>∀xs,SqL K H a xs→xs[i]?=some v
 | .T a=>∀xs,SqT K H a xs→xs[i]?=some v
 | .S x=>∃c,x.cps[i]?=some c∧v=.str ⟨#[c]⟩
def ZK.itr(t:Tok) (h:Heap) (it:Addr) (i:Nat):ZK→Prop
 | .L a=>h.IsListIter it a i
 | .T a=>h.IsTupleIter it a i
 | .S x=>h.IsStrIter it (strIterType x) x t i
def ZK.off(it:Addr):ZK→Prop
 | .L a=>a≠it
 | .T a=>a≠it
 | .S _=>True
def ItzZ(K:PySem.W.Frag) (k1 k2:ZK):It :=
 ⟨fun i H=>∃n1 n2,k1.len K H n1∧k2.len K H n2∧i<n1∧i<n2,
  fun i H v H'=>∃T x y,v=.ref T∧H T=none∧H'=upd H T (.tup [x,y])∧k1.sure K H i x∧k2.sure K H i y,
  fun i H=>∃n1 n2,k1.len K H n1∧k2.len K H n2∧i≤n1∧i≤n2∧(i=n1∨i=n2)⟩
section
variable {X:Cx}{pins:List (Addr×Obj)}{τ:L2.St}{H:Hp}{s:Shared}
theorem ZK.itr_at{kd:ZK}{t:Tok}{h h':Heap}{it:Addr}{i:Nat} (g:kd.itr t h it i) (k:∀o,h.get? it=some o→h'.get? it=some o):kd.itr t h' it i:=by
 cases kd with
 |L a=>exact Heap.IsListIter.at g k
 |T a=>exact Heap.IsTupleIter.at g k
 |S x=>obtain⟨o,ho,r⟩:=g;exact⟨o,k o ho,r⟩
theorem ZK.itr_rec{kd:ZK}{t:Tok}{h:Heap}{it:Addr}{i:Nat} (g:kd.itr t h it i):∃o,h.get? it=some o∧∀v,o.data≠.cell v:=by
 cases kd with
 |L a=>obtain⟨o,ho,_,hd⟩:=g;exact⟨o,ho,fun v e=>by rw[hd]at e;cases e⟩
 |T a=>obtain⟨o,ho,_,hd⟩:=g;exact⟨o,ho,fun v e=>by rw[hd]at e;cases e⟩
 |S x=>obtain⟨o,ho,_,hd⟩:=g;exact⟨o,ho,fun v e=>by rw[hd]at e;cases e⟩
theorem ZK.draws{kd:ZK}{t:Tok}{it:Addr}{n i:Nat}{A:Around} (hh:A.handled=none) (I:Inv X pins τ H s) (hl:kd.len X.K H n) (ho:kd.off it) (hi:kd.itr t s.heap it i) :
  ∃(fp:List Addr) (P:Nat→Value→Prop) (St:Nat→Heap→Prop),Draws X.prog X.w A it fp n P St∧St i s.heap∧it∈fp∧(∀b∈fp,b<s.heap.objs.size)∧(∀b∈fp,b≠it→kd.val=.ref b)∧(∀j h,St j h→kd.itr t h it j)∧∀u,i<n→P i u→∃v,RelV v u∧kd.sure X.K H i v:=by
 cases kd with
 |L a =>
  obtain⟨xs,hs,rfl⟩:=hl;obtain⟨its,rv,p,_⟩:=I.list hs;have sz:its.toArray.size=xs.length:=by rw[J9];exact rv.length.symm
  obtain⟨oi,hoi,_⟩:=id hi;obtain⟨oa,hoa,_⟩:=id p.isList;have D:=Draws.list (prog:=X.prog) (w:=X.w) hh it a ho its.toArray;rw[sz]at D;refine⟨_,_,_,D,⟨hi,p.isList⟩,by simp,fun b hb=>?_,fun b hb hne=>?_,fun j h st=>st.1,fun u hlt hu=>?_⟩
  ·rcases Jr.mp hb with rfl|hb
   ·exact JB hoi
   ·rw[Vc.mp hb];exact JB hoa
  ·rcases Jr.mp hb with e|hb
   ·exact absurd e hne
   ·rw[Vc.mp hb];rfl
  ·have hu':its[i]?=some u:=by simpa using hu
   obtain⟨v,hv⟩:∃v,xs[i]?=some v:=⟨xs[i],Jf hlt⟩;obtain⟨u2,e2,r2⟩:=rv.get hv;rw[hu']at e2;cases e2;exact⟨v,r2,fun ys hy=>by rw[I.list_inj hy hs];exact hv⟩
 |T a =>
  obtain⟨xs,hs,rfl⟩:=hl;obtain⟨its,rv,p,_⟩:=I.tuple hs;have p':s.heap.IsTuple a its.toArray:=p;have sz:its.toArray.size=xs.length:=by rw[J9];exact rv.length.symm
  obtain⟨oi,hoi,_⟩:=id hi;obtain⟨oa,hoa,_⟩:=id p';have D:=Draws.tuple (prog:=X.prog) (w:=X.w) hh it a ho its.toArray;rw[sz]at D;refine⟨_,_,_,D,⟨hi,p'⟩,by simp,fun b hb=>?_,fun b hb hne=>?_,fun j h st=>st.1,fun u hlt hu=>?_⟩
  ·rcases Jr.mp hb with rfl|hb
   ·exact JB hoi
   ·rw[Vc.mp hb];exact JB hoa
  ·rcases Jr.mp hb with e|hb
   ·exact absurd e hne
   ·rw[Vc.mp hb];rfl
  ·have hu':its[i]?=some u:=by simpa using hu
   obtain⟨v,hv⟩:∃v,xs[i]?=some v:=⟨xs[i],Jf hlt⟩;obtain⟨u2,e2,r2⟩:=rv.get hv;rw[hu']at e2;cases e2;exact⟨v,r2,fun ys hy=>by rw[I.tuple_inj hy hs];exact hv⟩
 |S x =>
  have hl:x.cps.size=n:=hl;subst hl;obtain⟨oi,hoi,_⟩:=id hi;refine⟨_,_,_,Draws.text (prog:=X.prog) (w:=X.w) hh it x t,hi,by simp,fun b hb=>?_,fun b hb hne=>?_,fun j h st=>st,fun u hlt hu=>?_⟩
  ·rw[Vc.mp hb];exact JB hoi
  ·exact absurd (Vc.mp hb) hne
  ·obtain⟨c,t',hc,rfl⟩:=hu;exact⟨.str ⟨#[c]⟩,⟨t',rfl⟩,c,hc,rfl⟩
structure zFh (z TI TO i1 i2:Addr) (k1 k2:ZK):Prop where
 TIz:TI≠z
 TOz:TO≠z
 i1z:i1≠z
 i2z:i2≠z
 TITO:TI≠TO
 TIi1:TI≠i1
 TIi2:TI≠i2
 TOi1:TO≠i1
 TOi2:TO≠i2
 i12:i1≠i2
 o1:∀a,k1.val=.ref a→a≠z∧a≠TO∧a≠i1∧a≠i2
 o2:∀a,k2.val=.ref a→a≠z∧a≠TO∧a≠i1∧a≠i2
theorem zFh.off1{z TI TO i1 i2:Addr}{k1 k2:ZK} (D:zFh z TI TO i1 i2 k1 k2):k1.off i1:=by
 cases k1 with
 |L a=>exact(D.o1 a rfl).2.2.1
 |T a=>exact(D.o1 a rfl).2.2.1
 |S x=>trivial
theorem zFh.off2{z TI TO i1 i2:Addr}{k1 k2:ZK} (D:zFh z TI TO i1 i2 k1 k2):k2.off i2:=by
 cases k2 with
 |L a=>exact(D.o2 a rfl).2.2.2
 |T a=>exact(D.o2 a rfl).2.2.2
 |S x=>trivial
theorem zFh.sep{z TI TO i1 i2:Addr}{k1 k2:ZK}{fp1 fp2:List Addr} (D:zFh z TI TO i1 i2 k1 k2) (m1:i1∈fp1) (m2:i2∈fp2) (h1:∀b∈fp1,b≠i1→k1.val=.ref b) (h2:∀b∈fp2,b≠i2→k2.val=.ref b):ZipSep2 z TI TO i1 i2 fp1 fp2 where
 TIz:=D.TIz
 TOz:=D.TOz
 TITO:=D.TITO
 TIi1:=D.TIi1
 mem1:=m1
 zf1:=fun m=>by
  by_cases e:z=i1
  ·exact D.i1z e.symm
  ·exact(D.o1 z (h1 z m e)).1 rfl
 Tf1:=fun m=>(D.o1 TO (h1 TO m D.TOi1)).2.1 rfl
 TIi2:=D.TIi2
 mem2:=m2
 zf2:=fun m=>by
  by_cases e:z=i2
  ·exact D.i2z e.symm
  ·exact(D.o2 z (h2 z m e)).1 rfl
 Tf2:=fun m=>(D.o2 TO (h2 TO m D.TOi2)).2.1 rfl
 sep1_2:=fun m=>(D.o2 i1 (h2 i1 m D.i12)).2.2.1 rfl
 sep2_1:=fun m=>(D.o1 i2 (h1 i2 m (Vl D.i12))).2.2.2 rfl
theorem zP5{P:Program}{w:World}{K:PySem.W.Frag}{elts:List Expr}{kk:Nat}{tpos:Pos}{k1 k2:ZK}{t1 t2:Tok}{z TI TO i1 i2:Addr} (D:zFh z TI TO i1 i2 k1 k2) :
  Turn P w K (.Tuple elts kk tpos) (ItzZ K k1 k2) [z,TI,TO,i1,i2] z (fun i h=>IsZip h z TI TO .none∧IsTupOf2 h TI (.ref i1) (.ref i2)∧(∃x y,IsTupOf2 h TO x y)∧k1.itr t1 h i1 i∧k2.itr t2 h i2 i) where
 mem:=by simp
 obj:=fun i h st c hc=>by
  obtain⟨hz,hTI,⟨x,y,hTO⟩,g1,g2⟩:=st;have e':c=z∨c=TI∨c=TO∨c=i1∨c=i2:=by simpa using hc
  rcases e' with q|q|q|q|q
  ·rw[q];exact⟨_,hz,fun v q=>nomatch q⟩
  ·rw[q];exact⟨_,hTI,fun v q=>nomatch q⟩
  ·rw[q];exact⟨_,hTO,fun v q=>nomatch q⟩
  ·rw[q];exact ZK.itr_rec g1
  ·rw[q];exact ZK.itr_rec g2
 keep:=fun i h h' st k=>by
  obtain⟨hz,hTI,⟨x,y,hTO⟩,g1,g2⟩:=st;exact⟨k z (by simp) _ hz,k TI (by simp) _ hTI,⟨x,y,k TO (by simp) _ hTO⟩,ZK.itr_at g1 fun o q=>k i1 (by simp) o q,ZK.itr_at g2 fun o q=>k i2 (by simp) o q⟩
 item:=by
  intro X hP hw hK hc i pins s σ H E I hf st hg;subst hP hw hK;obtain⟨hz,hTI,⟨x0,y0,hTO⟩,g1,g2⟩:=st;obtain⟨n1,n2,l1,l2,b1,b2⟩:=hg;obtain⟨fp1,P1,St1,D1,st1,m1,lt1,ot1,it1,pv1⟩:=ZK.draws (A:=X.A.in1) (I.ok.hd hc) I l1 D.off1 g1;obtain⟨fp2,P2,St2,D2,st2,m2,lt2,ot2,it2,pv2⟩:=ZK.draws (A:=X.A.in1) (I.ok.hd hc) I l2 D.off2 g2;have hzl:z<s.heap.objs.size:=JB hz;refine wpAny_pyNext_zipD2_item (D.sep m1 m2 ot1 ot2) D1 D2 hz hTI hTO st1 st2 b1 b2 fun u1 u2 h' tk p1 p2 z' TO' st1' st2' hT hsz hk=>?_
  obtain⟨x,rx,sx⟩:=pv1 u1 b1 p1;obtain⟨y,ry,sy⟩:=pv2 u2 b2 p2;refine⟨_,rfl,wpAny_letOwnedTupleGo_zip (s := { s with heap:=h',toks:=tk }) z' fun h'' z'' sb=>?_⟩
  have hT2:h''.get? s.heap.objs.size=some { cls:=.type "tuple",data:=.seq #[u1,u2] }:=(sb.2 _ (Nat.ne_of_gt hzl)).trans hT
  have new:ObjOk X.prog X.w (upd H s.heap.objs.size (.tup [x,y])) h'' s.heap.objs.size (.tup [x,y]) :=
   ⟨by show 2≤sizeLine;decide,[u1,u2],.cons rx (.cons ry .nil),⟨_,hT2,rfl,_,rfl⟩⟩
  have I1:Inv X pins σ (upd H s.heap.objs.size (.tup [x,y])) { s with heap:=h'',toks:=tk } :=
   I.turnedNew (ch:=[z,TI,TO,i1,i2]) (fun c o hb q=>(sb.2 c (fun q'=>hb (by simp[q']))).trans (hk c o (fun q'=>hb (by simp[q'])) (fun q'=>hb (by simp[q'])) (fun q'=>hb (by simp[q'])) (fun q'=>hb (by simp[q'])) q)) hf (Jq _) new
  refine⟨.ref s.heap.objs.size,_,I1,rfl,⟨_,x,y,rfl,I.hok.fresh (Jq _),rfl,sx,sy⟩,⟨z'',?_,⟨u1,u2,?_⟩,?_,?_⟩,fun c hcm=>?_⟩
  ·exact(sb.2 _ D.TIz).trans (hk _ _ D.TIz D.TITO D.TIi1 D.TIi2 hTI)
  ·exact(sb.2 _ D.TOz).trans TO'
  ·exact ZK.itr_at (it1 _ _ st1') fun o q=>(sb.2 _ D.i1z).trans q
  ·exact ZK.itr_at (it2 _ _ st2') fun o q=>(sb.2 _ D.i2z).trans q
  ·have hlt:c<s.heap.objs.size:=by
    have e':c=z∨c=TI∨c=TO∨c=i1∨c=i2:=by simpa using hcm
    rcases e' with q|q|q|q|q
    ·rw[q];exact hzl
    ·rw[q];exact JB hTI
    ·rw[q];exact JB hTO
    ·rw[q];obtain⟨_,e1,_⟩:=ZK.itr_rec g1;exact JB e1
    ·rw[q];obtain⟨_,e2,_⟩:=ZK.itr_rec g2;exact JB e2
   rw[JF (VA hlt)];exact(hf c hcm).1
 done:=by
  intro X hP hw hK hc i pins s σ H E I hf st hg;subst hP hw hK;obtain⟨hz,hTI,⟨x0,y0,hTO⟩,g1,g2⟩:=st;obtain⟨n1,n2,l1,l2,b1,b2,hend⟩:=hg;obtain⟨fp1,P1,St1,D1,st1,m1,lt1,ot1,it1,pv1⟩:=ZK.draws (A:=X.A.in1) (I.ok.hd hc) I l1 D.off1 g1;obtain⟨fp2,P2,St2,D2,st2,m2,lt2,ot2,it2,pv2⟩:=ZK.draws (A:=X.A.in1) (I.ok.hd hc) I l2 D.off2 g2
  exact wpAny_pyNext_zipD2_end (D.sep m1 m2 ot1 ot2) D1 D2 hz hTI hTO st1 st2 b1 b2 hend fun h' tk hk=>⟨rfl,I.turnedL (t':=tk) (ch:=[z,TI,TO,i1,i2]) (fun c o hb q =>
   hk c o (fun q'=>hb (by simp[q'])) (fun q'=>hb (by simp[q'])) (fun q'=>hb (by simp[q'])) (fun q'=>hb (by simp[q'])) q) hf⟩
 self:=fun A i s Q E st h=>wpAny_pyIter_zip st.1 h
theorem ZK.begins{kd:ZK}{n:Nat}{u:Value} (I:Inv X pins τ H s) (hl:kd.len X.K H n) (r:RelV kd.val u):∃(o:Obj) (t:Tok) (H1:Heap→Prop),Begins u o H1∧H1 s.heap∧(∀(h:Heap) (it:Addr),h.get? it=some o→kd.itr t h it 0)∧∀a,kd.val=.ref a→a<s.heap.objs.size:=by
 cases kd with
 |L a =>
  obtain⟨xs,hs,_⟩:=hl;obtain⟨its,rv,p,_⟩:=I.list hs;cases r;obtain⟨oa,hoa,_⟩:=id p.isList;exact⟨_,0,_,begins_list a its.toArray,p.isList,fun h it e=>⟨_,e,rfl,rfl⟩,fun b e=>by cases e;exact JB hoa⟩
 |T a =>
  obtain⟨xs,hs,_⟩:=hl;obtain⟨its,rv,p,_⟩:=I.tuple hs;have p':s.heap.IsTuple a its.toArray:=p;cases r;obtain⟨oa,hoa,_⟩:=id p';exact⟨_,0,_,begins_tuple a its.toArray,p',fun h it e=>⟨_,e,rfl,rfl⟩,fun b e=>by cases e;exact JB hoa⟩
 |S x =>
  obtain⟨t,rfl⟩:=r;exact⟨_,t,_,begins_text x t,trivial,fun h it e=>⟨_,e,rfl,rfl⟩,fun b e=>by cases e⟩
def iZz(K:PySem.W.Frag) (ta:TA):TI:=fun σ H R=>ta σ H fun vs H1=>∃k1 k2 n1 n2,vs=[ZK.val k1,ZK.val k2]∧k1.len K H1 n1∧k2.len K H1 n2∧R (ItzZ K k1 k2) H1
theorem zPl{a n:Nat} (h:a<n):a≠n+4∧a≠n+3∧a≠n∧a≠n+1:=by omega
theorem pi_zz{e e2:Expr}{ta:TA}{p pos tpos:Pos}{elts:List Expr}{kk:Nat} (hg:Gl X "zip") (hm:X.mg "zip" = none) (ha:PA X [e,e2] ta)
  (hs:starEach [e,e2] X.env=(false,eval e X.env)::starEach [e2] X.env:=by rfl) (hpl:(backTo pos (starEach [e2] X.env)).any (·.1)=false:=by rfl) :
  PI X (.Tuple elts kk tpos) (.Call (.Name "zip" p) [e,e2] [] pos) (iZz X.K ta):=by
 refine⟨fun pins s σ H R I h=>?_⟩
 refine Call_ (ld_blt I hg hm PyProof.Rows.boot_zip (PyProof.Rows.callWith_type1 (thn (ha.run pos pins s σ H _ I h) fun us s1 ⟨vs,H1,I1,r1,q1⟩=>?_) hs hpl))
 obtain⟨k1,k2,n1,n2,ex,l1,l2,q⟩:=q1;subst ex;cases r1 with
 |cons r rr =>
  cases rr with
  |cons r' rr =>
   cases rr;obtain⟨o1,t1,G1,B1,b1,f1,lt1⟩:=ZK.begins I1 l1 r;obtain⟨o2,t2,G2,B2,b2,f2,lt2⟩:=ZK.begins I1 l2 r';refine zip_begins2 B1 B2 b1 b2 fun h' hz hTI hTO h1 h2 hsz hk=>wpAny_pyIter_zip hz ?_
   have I2:Inv X pins σ H1 { s1 with heap:=h' }:=I1.kept (t':=s1.toks) hk
   have D:zFh (s1.heap.objs.size+4) (s1.heap.objs.size+2) (s1.heap.objs.size+3) s1.heap.objs.size (s1.heap.objs.size+1) k1 k2:=by
    refine⟨?_,?_,?_,?_,?_,?_,?_,?_,?_,?_,fun a e=>?_,fun a e=>?_⟩
    ·exact fun x=>by have:s1.heap.objs.size+2=s1.heap.objs.size+4:=x;omega
    ·exact fun x=>by have:s1.heap.objs.size+3=s1.heap.objs.size+4:=x;omega
    ·exact fun x=>by have:s1.heap.objs.size=s1.heap.objs.size+4:=x;omega
    ·exact fun x=>by have:s1.heap.objs.size+1=s1.heap.objs.size+4:=x;omega
    ·exact fun x=>by have:s1.heap.objs.size+2=s1.heap.objs.size+3:=x;omega
    ·exact fun x=>by have:s1.heap.objs.size+2=s1.heap.objs.size:=x;omega
    ·exact fun x=>by have:s1.heap.objs.size+2=s1.heap.objs.size+1:=x;omega
    ·exact fun x=>by have:s1.heap.objs.size+3=s1.heap.objs.size:=x;omega
    ·exact fun x=>by have:s1.heap.objs.size+3=s1.heap.objs.size+1:=x;omega
    ·exact fun x=>by have:s1.heap.objs.size=s1.heap.objs.size+1:=x;omega
    ·exact zPl (lt1 a e)
    ·exact zPl (lt2 a e)
   refine⟨s1.heap.objs.size+4,[s1.heap.objs.size+4,s1.heap.objs.size+2,s1.heap.objs.size+3,s1.heap.objs.size,s1.heap.objs.size+1],_,_,H1,rfl,I2,zP5 (t1:=t1) (t2:=t2) D,⟨hz,hTI,⟨_,_,hTO⟩,f1 _ _ h1,f2 _ _ h2⟩,fun c hcm=>?_,q⟩
   have e':c=s1.heap.objs.size+4∨c=s1.heap.objs.size+2∨c=s1.heap.objs.size+3∨c=s1.heap.objs.size∨c=s1.heap.objs.size+1:=by simpa using hcm
   have hle:s1.heap.objs.size≤c:=by
    rcases e' with z|z|z|z|z
    ·rw[z];exact VM _ _
    ·rw[z];exact VM _ _
    ·rw[z];exact VM _ _
    ·rw[z];exact Jq _
    ·rw[z];exact VM _ _
   exact I1.fpOk hle (I1.hok.fresh hle)
end
section
variable {K:PySem.W.Frag}{cl:Cls}{X:Cx}{Wx:WX}{E0:En}{ρ ρ':List Addr}{G G':Hp}{σ:Sg}{τ:L2.St}{st:List Cell}{H:Hp}{D:Ends}
def srcZ(l:List W):Src:=⟨fun _ i=>if i≤l.length then some l[i]? else none,l.length⟩
def zEV:W→Option (List P)
 | .p (.lst l)=>some l
 | .p (.tup l)=>some l
 | .p (.str z)=>some (z.cps.toList.map fun c=>.str ⟨#[c]⟩)
 |_=>none
def zNb(a b:EM):IM:=fun σ st=>(a σ st).bind fun x st1=>(b σ st1).bind fun y st2=>match zEV x,zEV y with
 |some l,some m=>.ok (srcZ (zipL l m)) st2
 |_,_=>.no
structure ZRel (K:PySem.W.Frag) (cl:Cls) (G:Hp) (kd:ZK) (l:List P):Prop where
 len:∀G' H,Sub G G'→Sub G' H→kd.len K H l.length
 at_:∀G' H i x v,Sub G G'→Sub G' H→l[i]?=some x→kd.sure K H i v→RP K cl G' x v
theorem zrel{w:W}{v:V}{l:List P} (r:RW K cl ρ G w v) (e:zEV w=some l):∃kd,v=ZK.val kd∧ZRel K cl G kd l:=by
 cases w with
 |r i=>cases e
 |p x =>
  cases x with
  |lst m =>
   cases e;cases r with
   |lst h q =>
    rename_i a vs
    refine⟨.L a,rfl,⟨fun G' H s1 s2=>⟨vs,.inl (.inl (s2 _ _ (s1 _ _ h))),q.length.symm⟩,fun G' H i x v s1 s2 ex su=>?_⟩⟩
    obtain⟨u,eu,ru⟩:=q.get ex
    have:=su vs (.inl (.inl (s2 _ _ (s1 _ _ h))))
    rw[eu]at this;cases this;exact ru.mono s1
  |tup m =>
   cases e;cases r with
   |tup h q =>
    rename_i a vs
    refine⟨.T a,rfl,⟨fun G' H s1 s2=>⟨vs,s2.sqT (s1.sqT h),q.length.symm⟩,fun G' H i x v s1 s2 ex su=>?_⟩⟩
    obtain⟨u,eu,ru⟩:=q.get ex
    have:=su vs (s2.sqT (s1.sqT h))
    rw[eu]at this;cases this;exact ru.mono s1
  |str z =>
   cases e;cases r;refine⟨.S z,rfl,⟨fun G' H s1 s2=>by simp[ZK.len],fun G' H i x v s1 s2 ex su=>?_⟩⟩
   obtain⟨c,hc,rfl⟩:=su;rw[Ji,Array.getElem?_toList,hc]at ex;cases ex;exact .str _
  |_=>cases e
theorem zG8:∀(l m:List P),(zipL l m).length=min l.length m.length
 |[],m=>by simp[zipL]
 |x::l,[]=>by simp[zipL]
 |x::l,y::m=>by
  show(zipL l m).length+1=_;rw[zG8 l m];simp
theorem wok_zz{k1 k2:ZK}{l m:List P} (r1:ZRel K cl G k1 l) (r2:ZRel K cl G k2 m):WOk K cl ρ G (ItzZ K k1 k2) (srcZ (zipL l m)):=by
 intro E0 ρ' G' st H i p s R;have L1:=r1.len G' H s R.sub;have L2:=r2.len G' H s R.sub;have ll:=zG8 l m;unfold srcZ;dsimp only
 by_cases hi:i≤(zipL l m).length
 ·rw[Jm hi,zKx];cases e:l[i]? with
  |none =>
   have:=J5.mp e
   exact⟨_,_,L1,L2,∅,∅,∅⟩
  |some x =>
   have h1:i<l.length:=(Ja.mp e).1;cases e2:m[i]? with
   |none =>
    have:=J5.mp e2
    exact⟨_,_,L1,L2,∅,∅,∅⟩
   |some y =>
    have h2:i<m.length:=(Ja.mp e2).1;refine⟨⟨_,_,L1,L2,h1,h2⟩,fun w H' yl=>?_⟩
    obtain⟨T,v,u,rfl,hT,rfl,sv,su⟩:=yl;have sn:=Sub.new (o:=.tup [v,u]) (R.gnone hT);exact⟨_,sn,R.froze hT,RP.tup (.inl (.inl Ju)) (.cons ((r1.at_ G' H i x v s R.sub e sv).mono sn) (.cons ((r2.at_ G' H i y u s R.sub e2 su).mono sn) .nil))⟩
 ·rw[Js hi]
  trivial
theorem zJe{a b:EM}{e e2:Expr}{p pos tpos:Pos}{elts:List Expr}{kk:Nat} (g:GX K X) (hg:Gl X "zip") (hm:X.mg "zip" = none) (ha:SE K cl X Wx a e) (hb:SE K cl X Wx b e2)
  (hs:starEach [e,e2] X.env=(false,eval e X.env)::starEach [e2] X.env:=by rfl) (hs2:starEach [e2] X.env=(false,eval e2 X.env)::starEach [] X.env:=by rfl) (hpl:(backTo pos (starEach [e2] X.env)).any (·.1)=false:=by rfl) :
  SI K cl X Wx (.Tuple elts kk tpos) (zNb a b) (.Call (.Name "zip" p) [e,e2] [] pos):=by
 obtain⟨hK,_⟩:=g;subst hK;refine⟨fun E0 ρ G σ st τ H R Rl S q=>TIc.of (pi_zz hg hm (Yg T.pe (T.pa1 hs2) hs) hs hpl) ?_⟩
 refine ha.run E0 ρ G σ st τ H _ Rl S (Aft.seq q fun w st1 ρ1 G1 H1 v e1 p1 s1 R1 u1 h1=>?_)
 refine hb.run E0 ρ1 G1 σ st1 τ H1 _ R1 (S.mono p1 s1) (Aft.seq h1 fun u st2 ρ2 G2 H2 v2 e2 p2 s2 R2 u2 h2=>?_)
 replace u1:=RW.mono p2 s2 u1
 split at h2
 ·rename_i l m el em
  obtain⟨k1,rfl,z1⟩:=zrel u1 el;obtain⟨k2,rfl,z2⟩:=zrel u2 em;exact⟨k1,k2,_,_,rfl,z1.len G2 H2 (Sub.refl _) R2.sub,z2.len G2 H2 (Sub.refl _) R2.sub,h2 ρ2 G2 H2 _ (Je _) (Sub.refl _) R2 (wok_zz z1 z2)⟩
 ·exact h2.elim
end
section
variable {K:PySem.W.Frag}{cl:Cls}{X:Cx}{Wx:WX}{E0:En}{ρ ρ':List Addr}{G G':Hp}{σ:Sg}{τ:L2.St}{st:List Cell}{H:Hp}{D:Ends}
theorem zC7{x:Str}{i:Int}{pos:Pos} (hg:Gl X x) (hm:∃t,X.mg x=some (.int i t)) (hd:(x==("__debug__" : Str))=false:=by decide +kernel):SE K cl X Wx (mC (.int i)) (.Name x pos):=by
 obtain⟨t,e⟩:=hm;exact zR2 (v:=.int i) hg e ⟨t,rfl⟩ (fun G=>.int i) hd
structure KTab (K:PySem.W.Frag) (w:World) (d:Addr) (kvs:List (Str×Str)):Prop where
 kd:∃es n,KDict K w d es n
 yes:∀z y,kvs.lookup z=some y→∃t,PySem.W.nsIn K d z=some (some (.str y t))
 no:∀z,kvs.lookup z=none→PySem.W.nsIn K d z=some none
theorem zJX{x:Str}{d:Addr}{pos:Pos} (hg:Gl X x) (hm:X.mg x=some (.ref d)) (hd:(x==("__debug__" : Str))=false:=by decide +kernel):PE X (.Name x pos) (tC (.ref d)):=pe_glob hg hm rfl hd
def mInT(kvs:List (Str×Str)) (neg:Bool) (a:EM):EM:=fun σ st=>(a σ st).bind fun w st1=>match w with
 | .p (.str z)=>.ok (.p (.bl (if neg=true then !(kvs.lookup z).isSome else(kvs.lookup z).isSome))) st1
 |_=>.no
theorem KTab.in_{w:World}{d:Addr}{kvs:List (Str×Str)} (T:KTab K w d kvs) (z:Str):∃r,PySem.W.nsIn K d z=some r∧r.isSome=(kvs.lookup z).isSome:=by
 cases e:kvs.lookup z with
 |none=>exact⟨none,T.no z e,rfl⟩
 |some y =>
  obtain⟨t,h⟩:=T.yes z y e;exact⟨_,h,rfl⟩
def zOx(kvs:List (Str×Str)) (a:EM):EM:=fun σ st=>(a σ st).bind fun w st1=>match w with
 | .p (.str z)=>match kvs.lookup z with
  |some y=>.ok (.p (.str y)) st1
  |none=>.no
 |_=>.no
theorem zP9{d:Addr}{kvs:List (Str×Str)}{a:EM}{pa:Expr}{x:Str}{p pos:Pos} (g:GX K X) (tb:KTab K X.w d kvs) (hg:Gl X x) (hm:X.mg x=some (.ref d)) (hd:(x==("__debug__" : Str))=false) (hs:NoSl pa) (ha:SE K cl X Wx a pa):SE K cl X Wx (zOx kvs a) (.Subscript (.Name x p) pa pos):=by
 obtain⟨hK,_⟩:=g;subst hK;obtain⟨es,n,kd⟩:=tb.kd
 have pe:PE X (.Subscript (.Name x p) pa pos) (fun σ H Q=>T X pa σ H fun y H1=>∃(z:Str) (u0:Value) (v0:V),y=.str z∧PySem.W.nsIn X.K d z=some (some u0)∧RelV v0 u0∧Q v0 H1):=by
  refine⟨fun pins s σ H Q I h=>?_⟩
  refine subD_of PySem.F.slot_dict_getitem.lookup hs (thn ((zJX hg hm hd).run pins s σ H (fun x H1=>x=.ref d∧H1=H) I ⟨rfl,rfl⟩) fun u s1 ⟨x,H1,I1,rx,ex,eH⟩=>?_)
  subst ex eH;cases rx;refine thn (T.pe.run pins s1 σ H1 _ I1 h) fun iv s2 ⟨y,H2,I2,ry,z,u0,v0,ey,hn,rv,q⟩=>?_
  exact⟨kd_type kd I2,op_item_kd kd pins s2 σ H2 (.ref d) y (.ref d) iv Q I2 rfl ry ⟨z,u0,v0,rfl,ey,hn,rv,q⟩⟩
 refine⟨fun E0 ρ G σ st τ H Q R S h=>T.of pe ?_⟩
 refine ha.run E0 ρ G σ st τ H _ R S (Aft.seq h fun w st1 ρ1 G1 H1 v e1 p1 s1 R1 u1 h1=>?_)
 split at h1
 ·rename_i z
  cases u1;split at h1
  ·rename_i y ey
   obtain⟨t,hn⟩:=tb.yes z y ey;exact⟨z,_,.str y,rfl,hn,⟨t,rfl⟩,h1.here R1 (RP.str _)⟩
  ·exact h1.elim
 ·exact h1.elim
theorem zOW{a:Addr}{P:Params}{ks:List Str}{z:Str} (h:He.dicW K a=some (He.keysIn P ks)) (hz:z∉ks):PySem.W.nsIn K a z=some none:=by
 unfold He.dicW at h;cases q:K.lookup a with
 |none=>rw[q]at h;cases h
 |some o =>
  obtain⟨oc,od,dt,osl⟩:=o;rw[q]at h;cases oc with
  |type c =>
   cases od with
   |none =>
    cases dt with
    |dict es n =>
     have h1:(match decide (c = "dict")&&(osl.isEmpty && !(a==sysModules))with
      |true=>some (es.toList.map He.keyOf)
      |false=>none)=some (He.keysIn P ks):=h
     split at h1
     ·have h2:=Jd h1
      have all:∀ {l:List DictEntry}{ks:List Str},l.map He.keyOf=He.keysIn P ks→z∉ks→l.find? (·.key.isStr z)=none∧l.any (·.refKey)=false:=by
       intro l
       induction l with
       |nil=>intro ks _ _;exact⟨rfl,rfl⟩
       |cons e r ih =>
        intro ks h hz;cases ks with
        |nil=>cases h
        |cons k ks =>
         have h3:He.keyOf e::r.map He.keyOf=some (k,PyData.keyHash P k)::He.keysIn P ks:=h;injection h3 with h4 h5
         obtain⟨i1,i2⟩:=ih h5 fun m=>hz (Jg _ m)
         unfold He.keyOf at h4;split at h4
         ·rename_i x t q
          have h6:=Jd h4;obtain⟨h7,h8⟩:=bu h6;subst h7;have ne:¬x=z:=fun e=>hz (by rw[←e];exact Jc)
          refine⟨?_,?_⟩
          ·rw[VR]
           have:e.key.isStr z=false:=by
            rw[q];show(x==z)=false;exact J8.mpr ne
           rw[this];exact i1
          ·rw[Vp,i2]
           have:e.refKey=false:=by
            unfold DictEntry.refKey;rw[q]
           rw[this];rfl
         ·cases h4
      obtain⟨a1,a2⟩:=all h2 hz;unfold PySem.W.nsIn;rw[q];dsimp only;rw[a1,a2];rfl
     ·cases h1
    |_=>cases h
   |some b=>cases dt<;>cases h
  |_=>cases od<;>cases dt<;>cases h
theorem zQV{w:World}{a:Addr}{kvs:List (Str×Str)} (h:He.dicW K a=some (He.keysIn w.params (kvs.map (·.1)))) (hv:He.valsB K a (kvs.map fun q=>(q.1,He.Dv.str q.2))=true):KTab K w a kvs:=by
 refine⟨He.dicW_ok h,fun z y e=>?_,fun z e=>zOW h fun m=>?_⟩
 ·have hm:(z,y)∈kvs:=JW e;obtain⟨u,h1,h2⟩:=He.valsB_ok hv (q:=(z,He.Dv.str y)) (Jx.mpr ⟨(z,y),hm,rfl⟩);obtain⟨t,rfl⟩:=h2;exact⟨t,h1⟩
 ·obtain⟨q,hq,rfl⟩:=Jx.mp m
  have:∀ {l:List (Str×Str)},q∈l→l.lookup q.1≠none:=by
   intro l
   induction l with
   |nil=>intro m;cases m
   |cons p r ih =>
    intro m;rw[JE];split
    ·simp
    ·rename_i hb
     rcases Jr.mp m with e|m
     ·subst e;simp at hb
     ·exact ih m
  exact this hq e
def dkGet{α:Type} (ks:List Key) (l:List α) (k:Key):Option α:=((ks.zip l).find? fun q=>decide (q.1=k)).map (·.2)
theorem RPs.dkGet{l:List P}{vs:List V} (q:RPs K cl G l vs):∀ {ks:List Key}{k:Key}{x:P},Y.dkGet ks l k=some x→∃v,valV (ks.zip vs) k=some v∧RP K cl G x v:=by
 induction l generalizing vs with
 |nil=>intro ks k x e;cases ks<;>cases e
 |cons y l ih =>
  cases q with
  |cons h r =>
   intro ks k x e;cases ks with
   |nil=>cases e
   |cons k0 ks =>
    unfold Y.dkGet at e;rw[JU,VR]at e;unfold valV;rw[JU,VR]
    by_cases hk:k0=k
    ·simp only[hk,decide_true]at e ⊢;cases e;exact⟨_,rfl,h⟩
    ·simp only[hk,decide_false]at e ⊢;exact ih r e
def keyP:P→Option Key
 | .int i=>some (.inl i)
 | .str z=>some (.inr z)
 |_=>none
theorem zNd{x:P}{v:V}{k:Key} (r:RP K cl G x v) (e:keyP x=some k):v=kV k:=by
 cases r<;>first|(unfold keyP at e;cases e;done)|(cases e;rfl)
def zIy(o a:EM):EM:=fun σ st=>(o σ st).bind fun w st1=>(a σ st1).bind fun x st2=>match w,x with
 | .p (.dk ks l),.p y=>match keyP y with
  |some k=>match dkGet ks l k with
   |some z=>.ok (.p z) st2
   |none=>.no
  |none=>.no
 |_,_=>.no
theorem zHh{o a:EM}{eo e:Expr}{pos:Pos} (g:GX K X) (hs:NoSl e) (ho:SE K cl X Wx o eo) (ha:SE K cl X Wx a e):SE K cl X Wx (zIy o a) (.Subscript eo e pos):=by
 have hu:=g.hu;refine⟨fun E0 ρ G σ st τ H Q R S h=>T.of (pe_dget ∅ T.pe T.pe hs) ?_⟩
 refine ho.run E0 ρ G σ st τ H _ R S (Aft.seq h fun w st1 ρ1 G1 H1 v e1 p1 s1 R1 u1 h1=>?_)
 refine ha.run E0 ρ1 G1 σ st1 τ H1 _ R1 (S.mono p1 s1) (Aft.seq h1 fun x st2 ρ2 G2 H2 u e2 p2 s2 R2 u2 h2=>?_)
 replace u1:=RW.mono p2 s2 u1
 split at h2
 ·rename_i ks l y
  split at h2
  ·rename_i k ek
   split at h2
   ·rename_i z ez
    have hk:=zNd u2 ek;subst hk;cases u1 with
    |dk hh zz q =>
     obtain⟨v,ev,rv⟩:=q.dkGet ez;exact⟨_,v,rfl,.inl ⟨_,k,.inl (R2.sub _ _ hh),rfl,ev.symm⟩,h2.here R2 rv⟩
   ·exact h2.elim
  ·exact h2.elim
 ·exact h2.elim
def amOf:List EM→AM
 |[]=>mNil
 |m::ms=>zAB m (amOf ms)
def zJU(ks:List Str) (ms:List EM):EM:=fun σ st=>(amOf ms σ st).nox.bind fun ws st1=>match pures ws with
 |some l=>.ok (.p (.dk (ks.map .inr) l)) st1
 |none=>.no
theorem zFb:∀ {more kvs:List (Key×V)},((kvs++more).map (·.1)).Nodup→mergeK kvs more=kvs++more
 |[],kvs,_=>by simp[mergeK]
 |p::more,kvs,h=>by
  have hk:(kvs.any fun kv=>decide (kv.1=p.1))=false:=by
   rw[List.any_eq_false];intro q hq e;have e:=Jv e;rw[JV,Jk]at h;exact(Yf.mp h).2.2 q.1 (Jx.mpr ⟨q,hq,rfl⟩) p.1 Jc e
  have e1:putK kvs p.1 p.2=kvs++[p]:=by
   unfold putK;rw[hk];rfl
  show mergeK (putK kvs p.1 p.2) more=_;rw[e1,zFb (by rw[Vi];exact h),Vi];rfl
theorem zLP{more:List (Key×V)} (h:(more.map (·.1)).Nodup):mergeK [] more=more:=by
 have:=zFb (more:=more) (kvs:=[]) (by simpa using h)
 simpa using this
def zRg(X:Cx) (ks:List Str) (es:List Expr):List (TE×TE):=(ks.zip es).map fun q=>(tC (.str q.1),T X q.2)
theorem SJ.pps{pos:Pos}{ms:List EM}{es:List Expr} (h:SJ K cl X Wx ms es):∀ {kes:List (Option Expr)}{ks:List Str},Paired (fun(ke:Option Expr) (k:Str)=>∃j p,ke=some (.Constant (.str k) j p)) kes ks→ks.length=es.length→PPs X pos kes es (zRg X ks es):=by
 induction h with
 |nil =>
  intro kes ks hk hl;cases hk with
  |nil=>exact pps_nil
  |cons _ _=>cases hl
 |cons h r ih =>
  intro kes ks hk hl;cases hk with
  |nil=>cases hl
  |cons e hk =>
   obtain⟨j,p,rfl⟩:=e;exact pps_cons bD T.pe (ih hk (by simpa using hl))
theorem SJ.pairs{ms:List EM}{es:List Expr} (h:SJ K cl X Wx ms es):∀ {ks:List Str}{E0 E1:En}{ρ:List Addr}{G:Hp}{st:List Cell}{H:Hp}{Qw:List W→List Cell→Res W}{Q:VK}{Z:ZX}{Q':List (V×V)→Hp→Prop},ks.length=es.length→(bs K cl E1).Rel ρ G st H→RS K cl ρ G σ τ →
  Aft (bs K cl E0) (bs K cl E0).RW ρ G ((amOf ms σ st).nox.bind Qw) Q Z →
  (∀ws vs ρ' G' st' H',ρ <+: ρ'→Sub G G'→(bs K cl E1).Rel ρ' G' st' H'→RWs K cl ρ' G' ws vs→vs.length=ks.length→Aft (bs K cl E0) (bs K cl E0).RW ρ' G' (Qw ws st') Q Z→Q' ((ks.map V.str).zip vs) H')→tPairs (zRg X ks es) τ H Q':=by
 induction h with
 |nil =>
  intro ks E0 E1 ρ G st H Qw Q Z Q' hl R S q k;cases ks with
  |nil=>exact k [] [] ρ G st H (Je _) (Sub.refl _) R .nil rfl q
  |cons _ _=>cases hl
 |@cons m e ms es h r ih =>
  intro ks E0 E1 ρ G st H Qw Q Z Q' hl R S q k;cases ks with
  |nil=>cases hl
  |cons k0 ks =>
   have q2:Aft (bs K cl E0) (bs K cl E0).RW ρ G ((m σ st).nox.bind fun w st1=>(amOf ms σ st1).nox.bind fun ws st2=>Qw (w::ws) st2) Q Z:=by
    have e:(amOf (m::ms) σ st).nox.bind Qw=((m σ st).nox.bind fun w st1=>(amOf ms σ st1).nox.bind fun ws st2=>Qw (w::ws) st2):=by
     show(((m σ st).bind fun w st1=>(amOf ms σ st1).bind fun ws st2=>.ok (w::ws) st2).nox).bind Qw=_
     cases m σ st with
     |no=>rfl
     |exc x s=>rfl
     |ok w st1 =>
      show(((amOf ms σ st1).bind fun ws st2=>.ok (w::ws) st2).nox).bind Qw=(amOf ms σ st1).nox.bind fun ws st2=>Qw (w::ws) st2
      cases amOf ms σ st1<;>rfl
    rw[←e];exact q
   show tC (.str k0) τ H fun x H1=>T X e τ H1 fun y H2=>tPairs (zRg X ks es) τ H2 fun ps H3=>Q' ((x,y)::ps) H3
   refine h.run E1 ρ G σ st τ H _ R S (Aft.seqH q2 fun w st1 ρ1 G1 H1 v e1 p1 s1 R1 u1 q1=>?_)
   refine ih (by simpa using hl) R1 (S.mono p1 s1) q1 fun ws vs ρ2 G2 st2 H2 p2 s2 R2 u2 hv q3=>?_
   exact k (w::ws) (v::vs) ρ2 G2 st2 H2 (p1.trans p2) (s1.trans s2) R2 (.cons (RW.mono p2 s2 u1) u2) (by simp[hv]) q3
theorem zKQ:∀(ks:List Str) (vs:List V),(ks.map V.str).zip vs=((ks.map Sum.inr:List Key).zip vs).map fun kv=>(kV kv.1,kv.2)
 |[],_=>rfl
 |_::_,[]=>rfl
 |k::ks,v::vs=>by
  show(V.str k,v)::(ks.map V.str).zip vs=_;rw[zKQ ks vs];rfl
theorem zHu{ks:List Str}{ms:List EM}{es:List Expr}{kes:List (Option Expr)}{pos:Pos} (h:SJ K cl X Wx ms es) (hk:Paired (fun(ke:Option Expr) (k:Str)=>∃j p,ke=some (.Constant (.str k) j p)) kes ks) (hl:ks.length=es.length) (nd:ks.Nodup) (h0:kes≠[]) (h15:kes.length≤15) (hall:kes.all (·.isSome)=true:=by rfl) :
  SE K cl X Wx (zJU ks ms) (.Dict kes es pos):=by
 have hkl:=Y0 hk;refine⟨fun E0 ρ G σ st τ H Q R S q=>T.of (pe_disp (h.pps hk hl) hall ∅ h0 h15) ?_⟩
 intro p hp;have hn0:∀i:Nat,i<E0.n0→ρ[i]?≠some p:=fun i _=>R.apart hp i
 refine h.pairs (E1:=E0.hold G p (.dK [])) hl (R.hold hp) S q fun ws vs ρ1 G1 st1 H1 p1 s1 R1 u1 hv q1=>?_
 have keep:∀i:Nat,i<E0.n0→ρ1[i]?=ρ[i]?:=fun i hi=>by
  obtain⟨t,rfl⟩:=p1;exact Jh (JZ hi R.n0)
 obtain⟨h1,h2,h3⟩:=Rel.held R1 (fun i hi=>by rw[keep i hi];exact hn0 i hi) (R.gnone hp)
 split at q1
 case h_2=>exact q1.elim
 rename_i l el
 have qq:=u1.pures el;refine⟨h1,((ks.map Sum.inr).zip vs),?_,?_,?_⟩
 ·exact zKQ ks vs
 ·rw[V7,Jb];omega
 ·rw[zLP (by rw[List.map_fst_zip (by rw[Jb];omega)];exact YJ.mpr (nd.imp fun h e=>h (Sum.inr.inj e)))]
  have R0:=Rel.unhold R1 (R.fresh0 hp) R.grow p1 R.n0;have R2:=Rel.unhold (Rel.rehold (o':=.dK ((ks.map Sum.inr).zip vs)) R1 (zNT trivial) (fun i hi=>by rw[keep i hi];exact hn0 i hi) (R.gnone hp)) (R.fresh0 hp) (ρ0:=ρ1) R0.grow (Je _) (Jt R.n0 p1.length_le)
  have R3:=Rel.adopt R2 Ju h2 h3 (R.fresh0 hp);exact q1 ρ1 _ _ (.ref p) (Je _) (Sub.new h2) R3 (.dk Ju (by rw[Jb];omega) (qq.mono (Sub.new h2)))
def strsOf:List P→Option (List Str)
 |[]=>some []
 | .str z::l=>match strsOf l with
  |some m=>some (z::m)
  |none=>none
 |_=>none
theorem zI1:∀ {l:List P}{m:List Str},strsOf l=some m→l=m.map P.str
 |[],m,e=>by rw[strsOf]at e;cases e;rfl
 | .str i::l,m,e=>by
  rw[strsOf]at e;split at e
  ·rename_i k ek;cases e;rw[zI1 ek];rfl
  ·cases e
 | .non::_,_,e | .bl _::_,_,e | .int _::_,_,e | .tup _::_,_,e | .lst _::_,_,e | .scr _::_,_,e | .dk _ _::_,_,e | .obj _ _::_,_,e | .exn _ _::_,_,e | .lam _ _::_,_,e | .cls _::_,_,e | .fd _ _::_,_,e | .fn _ _::_,_,e=>by
  unfold strsOf at e;cases e
theorem RPs.of_strs:∀ {l:List Str}{vs:List V},RPs K cl G (l.map P.str) vs→vs=l.map V.str
 |[],_,.nil=>rfl
 |i::l,_,.cons h r=>by
  cases h;rw[RPs.of_strs r];rfl
def zLA(w:W) (ws:List W) (st:List Cell):Res W:=match w,ws with
 | .p (.str a),[x]=>match(seqP st x).bind strsOf with
  |some ys=>if(ys.map (·.length)).sum+ys.length*a.length≤LIM then .ok (.p (.str (Txt.join a ys))) st else .no
  |none=>.no
 |_,_=>.no
def rJoin(K:PySem.W.Frag):V→List V→Hp→VK→Prop:=fun x xs H Q=>∃a p,∃ys:List Str,x=.str a∧xs=[.ref p]∧(SqL K H p (ys.map V.str)∨SqT K H p (ys.map V.str)) ∧
  (ys.map (·.length)).sum+ys.length*a.length≤16777216∧Q (.str (Txt.join a ys)) H
theorem zKh:VMt K cl zLA (rJoin K):=by
 intro E0 ρ G st H w v ws vs Q Z R r rs h;unfold zLA at h;split at h
 ·rename_i a x
  cases r;obtain⟨u,rfl,ru⟩:=rs.one;split at h
  ·rename_i ys ey
   cases e1:seqP st x with
   |none=>rw[e1]at ey;cases ey
   |some l =>
    rw[e1]at ey;obtain⟨b,us,rfl,h1,q⟩:=zGe R ru e1
    have:=zI1 (show strsOf l=some ys from ey)
    subst this;rw[q.of_strs]at h1;split at h
    ·rename_i hl
     exact⟨a,b,ys,rfl,rfl,h1,by unfold LIM at hl;omega,h.here R (RP.str _)⟩
    ·exact h.elim
  ·exact h.elim
 ·exact h.elim
end
section
variable {K:PySem.W.Frag}{cl:Cls}{X:Cx}{Wx:WX}{E0:En}{ρ ρ':List Addr}{G G':Hp}{σ:Sg}{τ:L2.St}{st:List Cell}{H:Hp}{D:Ends}
structure Fk (P:Program) (w:World) (K:PySem.W.Frag) (mg:Str→Option Value) (base:Heap) (cl:Cls) (k:Nat) (f:Addr) (ps:List Str) (F:FM):Prop where
 ex:∃fd,FnOk P w K mg base CX0 k f fd ps (spF K cl F)∧Binds K fd ps []
 kp:PySem.W.keepIn K (.ref f)=true
theorem Fk.of{P:Program}{w:World}{mg:Str→Option Value}{base:Heap}{N ps:List Str}{x qual:Str}{params:Arguments}{body:List Stmt}{scope:Scope}{f:Addr}{k:Nat}{m:SMm}
  (F:∃fd,FunD K x qual params body scope [] [] f fd) (S:FnScope N ps scope) (bd:∀(kV doc pm:Value) (an:Option Addr) (cdv ct:Value) (us:List Value),us.length=ps.length→bindArgs (PySem.W.fnOf x qual params body scope .none kV doc pm an cdv ct) ⟨us,[]⟩=pure (ps.zip us))
  (hb:∀(cd:Value) (A:Around) (outer:List Env) (s:Shared) (H:Hp) (E:XK),GX K (cxD P w K mg base N qual scope f cd A outer s H E)→Room k (A.deeper (envOfC qual scope s.heap.objs.size f cd))→SSs K cl (cxD P w K mg base N qual scope f cd A outer s H E) WF m body) :
  Fk P w K mg base cl (k+1) f ps (runF ps.length N.length m):=by
 obtain⟨fd,F⟩:=F;exact⟨⟨fd,fn_ok F S fun cd A outer s H E hr=>hb cd A outer s H E (zRE S hr) hr,F.bindsN bd⟩,F.kp⟩
theorem Fk.zero{P:Program}{w:World}{mg:Str→Option Value}{base:Heap}{N ps:List Str}{x qual:Str}{params:Arguments}{body:List Stmt}{scope:Scope}{f:Addr}{F':FM} (h:∀ws st,F' ws st=.no)
  (F:∃fd,FunD K x qual params body scope [] [] f fd) (bd:∀(kV doc pm:Value) (an:Option Addr) (cdv ct:Value) (us:List Value),us.length=ps.length→bindArgs (PySem.W.fnOf x qual params body scope .none kV doc pm an cdv ct) ⟨us,[]⟩=pure (ps.zip us)):Fk P w K mg base cl 0 f ps F':=by
 obtain⟨fd,F⟩:=F;refine⟨⟨fd,⟨fun vs H Q E q=>?_,fun A outer s H args us vs Q E hr he hb hv q=>?_⟩,F.bindsN bd⟩,F.kp⟩
 ·obtain⟨ρ0,G0,st0,ws,R,r,a⟩:=q;rw[h]at a;exact a.elim
 ·obtain⟨ρ0,G0,st0,ws,R,r,a⟩:=q;rw[h]at a;exact a.elim
theorem Fk.mono{P:Program}{w:World}{mg:Str→Option Value}{base:Heap}{j k:Nat}{f:Addr}{ps:List Str}{F:FM} (h:Fk P w K mg base cl j f ps F) (q:j≤k):Fk P w K mg base cl k f ps F:=by
 obtain⟨⟨fd,h1,h2⟩,h3⟩:=h;exact⟨⟨fd,h1.mono q,h2⟩,h3⟩
theorem Rel.freeze(R:Rel K cl E0 ρ G st H){i:Nat}{c:Cell}{a:Addr}{o:HO} (h:st[i]?=some c) (hc:c≠.dead) (ha:ρ[i]?=some a) (ho:H a=some o) (nt:NT o:=by intro _ z;cases z):Rel K cl E0 ρ (upd G a o) (st.set i .dead) H:=by
 have hi:i<st.length:=(Ja.mp h).1;have ga:G a=none:=(R.sep i c a h ha).resolve_left hc
 have same:∀(j:Nat) b,ρ[j]?=some b→b=a→j=i:=fun j b e z=>by
  subst z;have h1:=Ja.mp e;have h2:=Ja.mp ha;exact(Y5 (h₀:=h1.1) (h₁:=h2.1) R.nd).mp (h1.2.trans h2.2.symm)
 refine⟨by rw[JQ];exact R.len,R.nd,fun j e b e1 e2=>?_,fun j e b e1 e2=>?_,fun b u e=>?_,R.old,R.new,R.n0,fun b u e=>?_,R.ent,fun b u e=>by
  by_cases z:b=a
  ·subst z;rw[Ju]at e;cases e;exact nt
  ·rw[JF z]at e;exact R.gnt b u e,fun q hq=>(R.tabs q hq).sub (Sub.new ga)⟩
 ·by_cases hj:j=i
  ·subst hj;rw[JL hi]at e1;rw[ha]at e2;cases e1;cases e2;exact⟨o,Ju⟩
  ·rw[JN (Vl hj)]at e1;exact(R.cell j e b e1 e2).mono (Je _) (Sub.new ga) rfl
 ·by_cases hj:j=i
  ·subst hj;rw[JL hi]at e1;cases e1;exact .inl rfl
  ·rw[JN (Vl hj)]at e1;rw[JF fun z=>hj (same j b e2 z)]
   exact R.sep j e b e1 e2
 ·by_cases z:b=a
  ·subst z;rw[Ju]at e;cases e;exact ho
  ·rw[JF z]at e;exact R.sub b u e
 ·by_cases z:b=a
  ·subst z
   by_cases hn:i<E0.n0
   ·exact .inr (.inr ⟨i,hn,ha⟩)
   ·exact .inr (.inl (R.new i b ∅ ha))
  ·rw[JF z]at e;exact R.grow b u e
def mFrz(a:EM):EM:=fun σ st=>(a σ st).bind fun w st1=>match w with
 | .p x=>.ok (.p x) st1
 | .r i=>match st1[i]? with
  |some (.lst l)=>match pures l with
   |some m=>.ok (.p (.lst m)) (st1.set i .dead)
   |none=>.no
  |_=>.no
theorem se_frz{a:EM}{e:Expr} (ha:SE K cl X Wx a e):SE K cl X Wx (mFrz a) e:=by
 refine⟨fun E0 ρ G σ st τ H Q R S h=>ha.run E0 ρ G σ st τ H Q R S ?_⟩
 refine Aft.seq h fun w st1 ρ1 G1 H1 v e1 p1 s1 R1 u1 h1=>?_
 cases w with
 |p x=>exact h1.here R1 u1
 |r i =>
  have h1:Aft (bs K cl E0) (bs K cl E0).RW ρ1 G1 (match st1[i]? with
   |some (.lst l)=>match pures l with
    |some m=>.ok (.p (.lst m)) (st1.set i .dead)
    |none=>.no
   |_=>.no) Q _:=h1
  split at h1
  ·rename_i l el
   split at h1
   ·rename_i m em
    obtain⟨b,hb,rfl⟩:=u1;obtain⟨b2,hb2,⟨vs,g1,g2⟩,hd⟩:=R1.at el;cases Jd (hb.symm.trans hb2);have gb:G1 b=none:=hd.resolve_left (fun z=>by cases z)
    exact h1 ρ1 (upd G1 b _) H1 (.ref b) (Je _) (Sub.new gb) (R1.freeze el (fun z=>by cases z) hb g1) (.lst Ju ((g2.pures em).mono (Sub.new gb)))
   ·exact h1.elim
  ·exact h1.elim
def loc(sc:Scope) (x:Str):Bool:=match sc.names.lookup x with
 |some .local=>true
 |some .cell=>true
 |_=>false
theorem zAY{sc:Scope}{x:Str} (h:loc sc x=true):Loc sc x:=by
 unfold loc at h;split at h
 ·exact .inl (by assumption)
 ·exact .inr (by assumption)
 ·cases h
theorem zAc{f:Addr}{ps:List Str}{F:FM}{a:AM}{k:Nat}{x:Str}{p pos:Pos}{e:Expr}{es:List Expr} (h:Fk X.prog X.w X.K X.mg X.base cl k f ps F) (g:GX K X) (hr:Room k X.A) (hg:Gl X x) (hm:X.mg x=some (.ref f))
  (ha:SA K cl X Wx a (e::es)) (hdb:(x==("__debug__" : Str))=false) (he:starEach (e::es) X.env=(false,eval e X.env)::starEach es X.env:=by rfl) (hpl:(backTo pos (starEach es X.env)).any (·.1)=false:=by rfl) :
  SE K cl X Wx (zAH F a) (.Call (.Name x p) (e::es) [] pos):=by
 obtain⟨hK,_⟩:=g;subst hK;obtain⟨fd,h1,h2⟩:=h.ex;exact zRh h1 hr hg hm h.kp h2 ha hdb he hpl
theorem zJI{f C:Addr}{ns:List Str}{c:Nat}{ps:List Str}{F:FM}{o:EM}{eo:Expr}{a:AM}{k:Nat}{m:Str}{apos pos:Pos}{e:Expr}{es:List Expr}{pl:Sem Bool} (h:Fk X.prog X.w X.K X.mg X.base cl k f ps F) (g:GX K X) (hr:Room k X.A) (hC:cl[c]?=some (C,ns)) (hn:ns.contains m=false) (kc:L2.Cls K C) (hmt:Meth K C m f)
  (ho:SE K cl X Wx o eo) (ha:SA K cl X Wx a (e::es))
  (hst:starEach (e::es) X.env=(false,eval e X.env)::starEach es X.env:=by rfl) (hpl:(backTo pos (starEach es X.env)).any (·.1)=false:=by rfl)
  (ht:eval (.Call (.Attribute eo m apos) (e::es) [] pos) X.env=(do
   let ov ←eval eo X.env
   standAt apos.atName
   let (f,first) ←holding [ov] (getMethod ov m pl)
   callWith pos f first (backTo pos (starEach (e::es) X.env)) (backToKw pos (keywordEach [] X.env))):=by rfl):SE K cl X Wx (zB1 c F o a) (.Call (.Attribute eo m apos) (e::es) [] pos):=by
 obtain⟨hK,_⟩:=g;subst hK;obtain⟨fd,h1,h2⟩:=h.ex;exact zQu hC (fun z=>by rw[Ym.mpr z]at hn;cases hn) kc hmt h1 hr h2 ho ha hst hpl ht
theorem zCv{f C:Addr}{ns:List Str}{c:Nat}{ps:List Str}{F:FM}{o:EM}{eo:Expr}{k:Nat}{m:Str}{apos pos:Pos}{pl:Sem Bool} (h:Fk X.prog X.w X.K X.mg X.base cl k f ps F) (g:GX K X) (hr:Room k X.A) (hC:cl[c]?=some (C,ns)) (hn:ns.contains m=false) (kc:L2.Cls K C) (hmt:Meth K C m f)
  (ho:SE K cl X Wx o eo)
  (ht:eval (.Call (.Attribute eo m apos) [] [] pos) X.env=(do
   let ov ←eval eo X.env
   standAt apos.atName
   let (f,first) ←holding [ov] (getMethod ov m pl)
   callWith pos f first (backTo pos (starEach [] X.env)) (backToKw pos (keywordEach [] X.env))):=by rfl):SE K cl X Wx (zB1 c F o mNil) (.Call (.Attribute eo m apos) [] [] pos):=by
 obtain⟨hK,_⟩:=g;subst hK;obtain⟨fd,h1,h2⟩:=h.ex;exact zOI hC (fun z=>by rw[Ym.mpr z]at hn;cases hn) kc hmt h1 hr h2 ho ht
section
variable {a b:EM}{pa pb:Expr}{pos:Pos}
theorem zBG(g:GX K X) (ha:SE K cl X Wx a pa) (hb:SE K cl X Wx b pb) (hm:behindInMarks .Eq pb=false:=by rfl):ST K cl X Wx (mTst (mBin (vEqB false) a b)) (.Compare pa [.Eq] [pb] pos):=by
 obtain⟨hK,hc,hN,hu,hh⟩:=g;subst hK;exact zEh (zPi ∅) hm zPO ha hb
theorem zFw(g:GX K X) (ha:SE K cl X Wx a pa) (hb:SE K cl X Wx b pb) (hm:behindInMarks .NotEq pb=false:=by rfl):ST K cl X Wx (mTst (mBin (vEqB true) a b)) (.Compare pa [.NotEq] [pb] pos):=by
 obtain⟨hK,hc,hN,hu,hh⟩:=g;subst hK;exact zEh (zPQ ∅) hm zPP ha hb
theorem zF0(g:GX K X) (ha:SE K cl X Wx a pa) (hb:SE K cl X Wx b pb) (hm:behindInMarks .In pb=false:=by rfl):ST K cl X Wx (mTst (mBin (vInB false) a b)) (.Compare pa [.In] [pb] pos):=by
 obtain⟨hK,_,_,hu,_⟩:=g;subst hK;exact zEh (zPa hu) hm zLn ha hb
theorem zDf(g:GX K X) (ha:SE K cl X Wx a pa) (hb:SE K cl X Wx b pb) (hm:behindInMarks .NotIn pb=false:=by rfl):ST K cl X Wx (mTst (mBin (vInB true) a b)) (.Compare pa [.NotIn] [pb] pos):=by
 obtain⟨hK,_,_,hu,_⟩:=g;subst hK;exact zEh (zM3 hu) hm zLn ha hb
theorem zHD(ha:SE K cl X Wx a pa) (hb:SE K cl X Wx b pb) (hm:behindInMarks .Lt pb=false:=by rfl):ST K cl X Wx (mTst (mBin vLt a b)) (.Compare pa [.Lt] [pb] pos):=zEh op_lt hm vLt_ok ha hb
theorem st_le(ha:SE K cl X Wx a pa) (hb:SE K cl X Wx b pb) (hm:behindInMarks .LtE pb=false:=by rfl):ST K cl X Wx (mTst (mBin vLe a b)) (.Compare pa [.LtE] [pb] pos):=zEh op_le hm zFG ha hb
theorem zHE(ha:SE K cl X Wx a pa) (hb:SE K cl X Wx b pb) (hm:behindInMarks .Gt pb=false:=by rfl):ST K cl X Wx (mTst (mBin vGt a b)) (.Compare pa [.Gt] [pb] pos):=zEh op_gt hm vGt_ok ha hb
theorem st_ge(ha:SE K cl X Wx a pa) (hb:SE K cl X Wx b pb) (hm:behindInMarks .GtE pb=false:=by rfl):ST K cl X Wx (mTst (mBin vGe a b)) (.Compare pa [.GtE] [pb] pos):=zEh op_ge hm vGe_ok ha hb
theorem zL0(ha:SE K cl X Wx a pa) (hb:SE K cl X Wx b pb) (hm:behindInMarks .Is pb=false:=by rfl):ST K cl X Wx (mTst (mBin (vIsN false) a b)) (.Compare pa [.Is] [pb] pos):=zEh op_isN hm zPb ha hb
theorem zIL{neg:Bool}{op:CmpOp}{d:Addr}{kvs:List (Str×Str)}{x:Str}{p:Pos} (g:GX K X) (tb:KTab K X.w d kvs)
  (ho:∀es n,KDict X.K X.w d es n→OpR X (compareOp op) (fun x y H Q=>∃(z:Str) (r:Option Value),x=.str z∧y=.ref d∧PySem.W.nsIn X.K d z=some r∧Q (.bl (if neg=true then !r.isSome else r.isSome)) H))
  (hg:Gl X x) (hm:X.mg x=some (.ref d)) (hd:(x==("__debug__" : Str))=false) (hb:behindInMarks op (.Name x p)=false) (ha:SE K cl X Wx a pa):ST K cl X Wx (mTst (mInT kvs neg a)) (.Compare pa [op] [.Name x p] pos):=by
 obtain⟨hK,_⟩:=g;subst hK;obtain⟨es,n,kd⟩:=tb.kd;refine⟨fun E0 ρ G σ st τ H Q R S h=>TT'.of (pt_cmpR (ho es n kd) T.pe (zJX hg hm hd) hb) ?_⟩
 unfold mTst mInT at h;rw[Res.bind_bind]at h;refine ha.run E0 ρ G σ st τ H _ R S (Aft.seq h fun w st1 ρ1 G1 H1 v e1 p1 s1 R1 u1 h1=>?_)
 cases w with
 |r i=>exact h1.elim
 |p y =>
  cases y with
  |str z =>
   cases u1;obtain⟨r,hr,hs⟩:=tb.in_ z;refine⟨z,r,rfl,rfl,hr,?_⟩;rw[hs];exact⟨_,rfl,Aft.here h1 R1 rfl⟩
  |_=>exact h1.elim
theorem st_inT{d:Addr}{kvs:List (Str×Str)}{x:Str}{p:Pos} (g:GX K X) (tb:KTab K X.w d kvs) (hg:Gl X x) (hm:X.mg x=some (.ref d)) (hd:(x==("__debug__" : Str))=false) (ha:SE K cl X Wx a pa):ST K cl X Wx (mTst (mInT kvs false a)) (.Compare pa [.In] [.Name x p] pos) :=
 zIL g tb (fun es n kd=>op_in_kd kd) hg hm hd rfl ha
theorem zMh{d:Addr}{kvs:List (Str×Str)}{x:Str}{p:Pos} (g:GX K X) (tb:KTab K X.w d kvs) (hg:Gl X x) (hm:X.mg x=some (.ref d)) (hd:(x==("__debug__" : Str))=false) (ha:SE K cl X Wx a pa):ST K cl X Wx (mTst (mInT kvs true a)) (.Compare pa [.NotIn] [.Name x p] pos) :=
 zIL g tb (fun es n kd=>op_notIn_kd kd) hg hm hd rfl ha
end
theorem ixK{a b:EM}{pa pb:Expr}{pos:Pos} (g:GX K X) (hs:PlainIx pb) (ha:SE K cl X Wx a pa) (hb:SE K cl X Wx b pb):SE K cl X Wx (mBin vIx a b) (.Subscript pa pb pos):=by
 obtain⟨hK,_⟩:=g;subst hK;exact se_ix ixRA vIx_ok hs ha hb
where ixRA:IxR X (rIx X.K):=(IxR.or ix_list (IxR.or ix_tup ix_str))
end
section
variable {K:PySem.W.Frag}{cl:Cls}{X:Cx}{Wx:WX}{E0:En}{ρ ρ':List Addr}{G G':Hp}{σ:Sg}{τ:L2.St}{st:List Cell}{H:Hp}{D:Ends}
theorem AftS.never{R:SR} (h:AftS (bs K cl E0) ρ G R D WF):AftS (bs K cl E0) ρ G R D Wx:=by
 cases R with
 |ok f σ st=>exact h
 |exc x σ st=>exact fun ρ' G' H' τ' c d p s R S x=>(h ρ' G' H' τ' c d p s R S x).elim
 |no=>exact h
def SR.nox:SR→SR
 | .exc _ _ _=>.no
 |r=>r
theorem GX.nox(g:GX K X):GX K X.nox:=⟨g.hK,g.hc,g.hN,g.hu,g.hh⟩
end
theorem zMk{prog:Program}{w:World}{A:Around}{E:Value→Shared→Prop}{s:Shared}{l:Addr}{items:Array Value}{Q:Value→Shared→Prop} (hl:s.heap.IsTuple l items)
  (h:∀s₂:Shared,s₂={ s with heap:=s.heap.push { cls:=.type "tuple_iterator",data:=.fields #[.ref l,.int 0 0] } } →
   (s₂.heap.IsTupleIter s.heap.objs.size l 0∧s₂.heap.IsTuple l items)→(∀b∈[s.heap.objs.size,l],b<s₂.heap.objs.size)→l≠s.heap.objs.size→Q (.ref s.heap.objs.size) s₂):wpAny (model prog w) A (pyIter (.ref l)) Q E s:=by
 have hlt:l<s.heap.objs.size:=by obtain⟨_,e,_⟩:=hl;exact JB e
 refine YE hl (h _ rfl ⟨⟨_,JH _ rfl,rfl,rfl⟩,hl.push _⟩ (fun b hb=>?_) (VA hlt))
 have e:(s.heap.push { cls:=.type "tuple_iterator",data:=.fields #[.ref l,.int 0 0] }).objs.size=s.heap.objs.size+1:=by simp[Heap.push]
 show b<(s.heap.push _).objs.size;rw[e];simp only[Jr,VL,bv]at hb;rcases hb with rfl|rfl
 ·exact Vf _
 ·exact Nat.lt_succ_of_lt hlt
section
variable {K:PySem.W.Frag}{cl:Cls}{X:Cx}{Wx:WX}{E0:En}{ρ ρ':List Addr}{G G':Hp}{σ:Sg}{τ:L2.St}{st:List Cell}{H:Hp}{D:Ends}
theorem zMR{its:List Value}{ns:List Int} (r:Vals (ns.map V.int) its){i:Nat}{v:Value} (h:its.toArray[i]?=some v):∃t,v=.int (ns.getD i 0) t:=by
 have h':its[i]?=some v:=by simpa using h
 clear h
 induction ns generalizing its i with
 |nil=>cases r;simp at h'
 |cons n ns ih =>
  cases r with
  |cons r1 r2 =>
   cases i with
   |zero =>
    have e:_=v:=Jd h';subst e;obtain⟨t,rfl⟩:=r1;exact⟨t,rfl⟩
   |succ i=>exact ih r2 (by simpa using h')
def rMaxT(K:PySem.W.Frag):List V→Hp→VK→Prop:=fun vs H Q=>∃(a:Addr) (ns:List Int),vs=[V.ref a]∧SqT K H a (ns.map V.int)∧0<ns.length∧∀m,m∈ns→(∀y,y∈ns→y≤m)→Q (.int m) H
theorem zMv(hc:X.calm=true):CallR X (.builtin "max") (rMaxT X.K):=by
 intro pins s σ H xs us Q I r h;obtain⟨a,ns,rfl,hs,hn,q⟩:=h;rw[Vals.ref1 r];obtain⟨its,rv,hl,_⟩:=I.tuple hs;have hlen:its.toArray.size=ns.length:=by rw[J9,←rv.length,Jb]
 refine call_max_walk (zMk (show s.heap.IsTuple a its.toArray from hl) fun s₂ e2 st hfp hne=>?_)
 subst e2;refine⟨_,_,_,_,_,_,_,rfl,bt (A:=X.A.in1) (I.ok.hd hc) _ a hne its.toArray,st,hfp,by rw[hlen];exact hn,CmpOf.ints_gt (fun i=>ns.getD i 0) (fun _ _ hv=>zMR rv hv),fun v h' tk hP hk=>?_⟩
 obtain⟨t,rfl⟩:=zMR rv hP;obtain⟨h1,h2⟩:=argBest_gt (fun i=>ns.getD i 0) (its.toArray.size-1)
 refine⟨.int _,H,I.kept fun b o eo=>hk b o (fun hmem=>?_) (Jo _ eo),⟨t,rfl⟩,?_⟩
 ·rcases Jr.mp hmem with e1|hmem
  ·exact absurd (e1▸JB eo) (V8 _)
  ·cases hmem
 ·refine q _ (PySem.getD_mem ∅) fun y hy=>?_
  obtain⟨j,hj,rfl⟩:=mem_getD hy;exact h2 j ∅
theorem zLW(R:(bs K cl E0).Rel ρ G st H){w:W}{v:V}{l:List Int} (r:RW K cl ρ G w v) (e:(seqP st w).bind intsOf=some l):∃a,v=.ref a∧(SqL K H a (l.map V.int)∨SqT K H a (l.map V.int)):=by
 cases e1:seqP st w with
 |none=>rw[e1]at e;cases e
 |some m =>
  rw[e1]at e;obtain⟨a,vs,rfl,h1,q⟩:=zGe R r e1
  have:=zIw (show intsOf m=some l from e)
  subst this;rw[q.of_ints]at h1;exact⟨a,rfl,h1⟩
def zHe(ws:List W) (st:List Cell):Res W:=match ws with
 |[w]=>match(seqP st w).bind intsOf with
  |some l=>if 0<l.length then .ok (.p (.int (maxI l))) st else .no
  |none=>.no
 |[.p (.int i),.p (.int j)]=>.ok (.p (.int (if j>i then j else i))) st
 |_=>.no
def rMaxS(K:PySem.W.Frag):List V→Hp→VK→Prop:=fun xs H Q=>rMaxA K xs H Q∨rMaxT K xs H Q
theorem zLv(hc:X.calm=true):CallR X (.builtin "max") (rMaxS X.K):=(zMg hc).or (zMv hc)
theorem zOD:zHM K cl zHe (rMaxS K):=by
 intro E0 ρ G st H ws vs Q Z R rw' h;unfold zHe at h;split at h
 ·obtain⟨v,rfl,r⟩:=rw'.one;split at h
  ·rename_i l el
   obtain⟨a,rfl,hs|hs⟩:=zLW R r el
   ·split at h
    ·rename_i hl
     refine .inl (.inl ⟨a,l,rfl,hs,hl,fun m h1 h2=>?_⟩)
     rw[zJY h1 h2];exact h.here R (RP.int _)
    ·exact h.elim
   ·split at h
    ·rename_i hl
     refine .inr ⟨a,l,rfl,hs,hl,fun m h1 h2=>?_⟩
     rw[zJY h1 h2];exact h.here R (RP.int _)
    ·exact h.elim
  ·exact h.elim
 ·obtain⟨v,u,rfl,r,r2⟩:=rw'.two;cases r;cases r2;exact .inl (.inr ⟨_,_,rfl,h.here R (RP.int _)⟩)
 ·exact h.elim
end
section
open PySem.W (ksEnv ksFn kxs_mw)
structure zJ9 (ps:List Str) (sc:Scope):Prop where
 kind:sc.kind=.function
 co:sc.isCoroutine=false
 gen:sc.isGenerator=false
 nd:ps.Nodup
 par:∀x∈ps,sc.names.lookup x=some .local
 own:∀y∈sc.names,y.2=.free→y.1=("__class__" : Str)
 nocell:∀y∈sc.names,y.2≠.cell
 cls:sc.names.lookup ("__class__" : Str)=some .free
 sup:sc.names.lookup ("super" : Str)=some .globalImplicit
abbrev ccx(P:Program) (w:World) (K:PySem.W.Frag) (mg:Str→Option Value) (base:Heap) (ps:List Str) (qual:Str) (scope:Scope) (f cc:Addr) (cd:Value) (A:Around) (outer:List Env) (s:Shared) (H:Hp):Cx where
 prog:=P
 w:=w
 K:=K
 mg:=mg
 base:=base
 A:=A.deeper (ksEnv qual scope s.heap.objs.size f cd cc)
 N:=ps
 s_0:=s
 H_0:=H
 env:=ksEnv qual scope s.heap.objs.size f cd cc
 outer:=outer
 stack:=ksEnv qual scope s.heap.objs.size f cd cc::outer
 ex:=[]
 calm:=true
 fn:=fun _=>false
 pn:=[]
 xe:=fun _ _=>False
theorem zId{y:Str}{u:Value}:∀ {l:List (Str×Value)},(l.map (·.1)).Nodup→(y,u)∈l→l.lookup y=some u
 |(z,v)::l,nd,h=>by
  rw[Jk,Vb]at nd;rw[JE];rcases Jr.mp h with e|h
  ·cases e;simp
  ·have:(y==z)=false:=J8.mpr fun e=>nd.1 (by rw[←e];exact Jx.mpr ⟨_,h,rfl⟩)
   rw[this];exact zId nd.2 h
theorem zHV{ps:List Str}{us:List Value} (nd:ps.Nodup) (hl:us.length=ps.length){i:Nat}{y:Str}{u:Value} (h1:ps[i]?=some y) (h2:us[i]?=some u):(ps.zip us).reverse.lookup y=some u:=by
 refine zId ?_ (List.mem_reverse.mpr (List.mem_iff_getElem?.mpr ⟨i,by rw[List.getElem?_zip_eq_some];exact⟨h1,h2⟩⟩))
 rw[List.map_reverse,List.map_fst_zip ∅];exact(List.reverse_perm ps).nodup_iff.mpr nd
section
variable {P:Program}{w:World}{K:PySem.W.Frag}{mg:Str→Option Value}{base:Heap}{ps:List Str}{name qual:Str}{scope:Scope}{f cc C cda:Addr}{cd:Value}{A:Around}{outer:List Env}{s:Shared}{H:Hp}
theorem zLC{us:List Value}{vs:List V} (S:zJ9 ps scope) (hd:A.handled=none) (e0:Env0 P w K mg base A outer s H) (hl:vs.length=ps.length) (r:Vals vs us){ob:Obj}{v0:Option Value} (hcc:K.lookup cc=some ob) (hob:ob.data=.cell v0)
  {h₁:Heap}{tk:Nat} (hns:h₁.Ns s.heap.objs.size fun x=>(ps.zip us).reverse.lookup x) (kp:∀b o,s.heap.get? b=some o→h₁.get? b=some o) :
  Inv (ccx P w K mg base ps qual scope f cc cd A outer s H) [] (L2.start ps vs) H { s with heap:=h₁,toks:=tk }:=by
 have noA:∀b:Addr,b∉(ccx P w K mg base ps qual scope f cc cd A outer s H).ex:=fun b z=>absurd (show b∈([]:List Addr)from z) (by simp)
 have hbc:base.get? cc=some ob:=e0.mod.kin _ _ hcc
 have lku:∀ {y c},([("__class__",cc)]:List (Str×Addr)).lookup y=some c→y=("__class__" : Str)∧c=cc:=fun{y c} h=>by
  rw[JE]at h;split at h
  ·rename_i e
   exact⟨eq_of_beq e,(Jd h).symm⟩
  ·cases h
 have lul:us.length=ps.length:=by rw[←r.length];exact hl
 refine⟨⟨e0.mod,S.kind,rfl,rfl,Jq _,fun y z c h1 h2=>(lku h1).1.trans (lku h2).1.symm,fun y hy=>?_,fun y c z _=>?_,fun _=>hd,Around.frames_deeper e0.frames,.inr ⟨rfl,rfl⟩,fun b z=>absurd z (noA b),e0.bs,e0.bsz,fun b _ _=>noA b,fun b z=>absurd z (noA b),e0.funs,e0.frf⟩,
  rfl,e0.bare,Un.kept kp,⟨_,hns,fun i y v h1 h2 h3=>?_⟩,fun y c h=>?_,e0.hok.fresh (Jq _),fun y c h=>?_,fun p hp=>absurd (show p∈([]:List (Addr×Obj))from hp) (by simp),e0.hok.kept kp,?_⟩
 ·have hy:scope.names.lookup y=some .cell∨scope.names.lookup y=some .free:=hy;rcases hy with hy|hy
  ·exact absurd rfl (S.nocell _ (JW hy))
  ·have:=S.own _ (JW hy) rfl
   have this:y=("__class__" : Str):=this;subst this;exact⟨cc,rfl⟩
 ·exact absurd (show false=true from z) (by simp)
 ·have hi:i<vs.length:=by
   unfold L2.start at h2
   by_cases hi:i<vs.length
   ·exact hi
   ·rw[JA (by simpa using hi)]at h2
    rw[Vo]at h2;split at h2<;>cases h2
  have ha:vs[i]?=some v:=by
   unfold L2.start at h2;rw[Jh (by simpa using hi),Ji]at h2
   cases e:vs[i]? with
   |none=>rw[e]at h2;cases h2
   |some a=>rw[e]at h2;cases h2;rfl
  obtain⟨u,hu,rv⟩:=r.get ha;have hp:ps[i]?=some y:=h1;exact⟨u,rv,.inl ⟨S.par y (Jn hp),zHV S.nd lul hp hu⟩⟩
 ·obtain⟨_,rfl⟩:=lku h;exact⟨v0,ob,kp _ _ (e0.bs _ _ hbc).1,hob⟩
 ·obtain⟨_,rfl⟩:=lku h;exact(e0.bs _ _ hbc).2
 ·unfold L2.start;simp[hl]
end
section
open PySem.W PySem.Calls
variable {prog:Program}{w:World}{A:Around}{E:Value→Shared→Prop}{h:Heap}{g:Array GenState}{d:Drawn}{t:Nat}{os:OsState}
variable {nm q:Str}{C N:Addr}{bs bm:List Value}{hdct:Bool}{sn:List Str}{sub:List Value}{ab:Bool}{col:Option Bool}{dd:Option Addr}{k0 k1 k2 k3 k5:Option Value}
theorem zN1{u e t0:Addr}{rest:List Value}{Q:Value→Shared→Prop}
  (hC:h.get? C=some (excClassObj nm q C N bs bm hdct sn sub ab col dd k0 k1 k2 k3 k5 "ValueError.__new__")) (he:h.get? e=some (HandSPX.excO C t0)) (hu:h.get? u=some (kxs_mw "ValueError.__init__" e)) (hrest:rest.length≤sizeLine)
  (hq:∀h' t1,(∀b o,b≠e→h.get? b=some o→h'.get? b=some o)→h'.get? e=some (HandSPX.excO C t1)→Q .none ⟨h',g,d,t,os⟩) :
  wpAny (model prog w) A (call (.ref u) rest) Q E ⟨h,g,d,t,os⟩:=by
 refine YK (codeAny_of_tree ?_);show wpAny _ A.in1 (callAny (.ref u) ⟨rest,[]⟩) _ _ _;simp only[callAny];refine JG (wpAny_load hu ?_);simp only[kxs_mw,show(Value.type "method-wrapper" == Value.type "method" || Value.type "method-wrapper" == Value.type "builtin_function_or_method" || Value.type "method-wrapper" == Value.type "method-wrapper")=true by decide,VG]
 refine W.KFB.if_so (!0) ?_
 refine JG (check_bound_init VZ.toExcCallFacts hC he rfl ?_);refine JG (Vt (Vt ?_));refine⟨Code.quiet_builtin _ ⋯,codeAny_builtin VZ.initEntry ?_⟩;rw[Around.under_plainId VZ.init.plain _]
 wp_walk
 refine hq _ h.objs.size (fun b o hb ho=>?_) ?_
 ·rw[Heap.get?_update_other _ _ (Vl hb)];exact Jo _ ho
 ·rw[Heap.get?_update_self _ (Jo _ he) rfl];rfl
end
structure SayF (P:Program) (K:PySem.W.Frag) (mg:Str→Option Value) (C f cc cda:Addr) (name qual:Str) (params:Arguments) (body:List Stmt) (scope:Scope) (fd:FuncData):Prop where
 T:OexC K C
 lk:∃oc od dV kV doc pm an ct osl,fd=ksFn name qual params body scope dV kV doc pm an (.ref cda) ct cc∧K.lookup f=some ⟨oc,od,.func fd,osl⟩
 hcd:PySem.W.codeIn K (.ref cda) qual=true
 cell:∃cl0 cd0 csl,K.lookup cc=some ⟨cl0,cd0,.cell (some (.ref C)),csl⟩
 par:∃ar,(params.posonlyargs++params.args).head?=some ar∧ar.arg=("self" : Str)
 code:∃ccl cdd vs ccs file tf,K.lookup cda=some ⟨ccl,cdd,.fields vs,ccs⟩∧vs[2]?=some (.str file tf)∧((P.main.file:Str)==file)=true
 top:(P.main.scope.names.lookup ("super" : Str)).isSome=false
 sup:mg "super" = none
 along:PySem.W.ks_superIn K C C "__init__" = some (some (.builtin "ValueError.__init__"))
 self:PySem.W.mroIn K C (.ref C)=some true
 isVE:PySem.W.subIn K (.ref C) (.type "ValueError")=some true
 opq:PySem.W.nsIn K PySem.cStatics "thirdparty.any" = some none
section
open PySem.W PySem.Calls
variable {P:Program}{w:World}{K:PySem.W.Frag}{mg:Str→Option Value}{base:Heap}{C f cc cda:Addr}{name qual:Str}{params:Arguments}{scope:Scope}{fd:FuncData}
def zLx(ps:List Str) (C:Addr) (t:TS):Sp:=fun vs H Q _=>vs.length=ps.length∧∃a ws,vs=.ref a::ws∧H a=some (exo a C none)∧t { nx:=fun _ H'=>Q .non H',rt:=Q } (L2.start ps vs) H
theorem zPw{ps ps':List Str}{k j:Nat}{p0 p1 p2 p3 p4 p5:Pos}{m:Str}{rest:List Stmt}{t:TS} (hps:ps=("self" : Str)::ps')
  (D:SayF P K mg C f cc cda name qual params (.Expr (.Call (.Attribute (.Call (.Name "super" p0) [] [] p1) "__init__" p2) [.Constant (.str m) j p3] [] p4) p5::rest) scope fd) (S:zJ9 ps scope)
  {pl:Sem Bool} (he:∀L,eval (.Call (.Attribute (.Call (.Name "super" p0) [] [] p1) "__init__" p2) [.Constant (.str m) j p3] [] p4) (ksEnv qual scope L f (.ref cda) cc)=(do
   let ov ←attributeBase (.Call (.Name "super" p0) [] [] p1) "__init__" (ksEnv qual scope L f (.ref cda) cc) (eval (.Call (.Name "super" p0) [] [] p1) (ksEnv qual scope L f (.ref cda) cc))
   standAt p2.atName
   let (f',first) ←holding [ov] (getMethod ov "__init__" pl)
   callWith p4 f' first (backTo p4 (starEach [.Constant (.str m) j p3] (ksEnv qual scope L f (.ref cda) cc))) []))
  (hi:∀L,interactive (ksEnv qual scope L f (.ref cda) cc)=false) (hsw:∀L,swapsWith (.Call (.Attribute (.Call (.Name "super" p0) [] [] p1) "__init__" p2) [.Constant (.str m) j p3] [] p4) none p5.line (ksEnv qual scope L f (.ref cda) cc)=pure false)
  (hrest:∀(A:Around) (outer:List Env) (s:Shared) (H:Hp),PSs (ccx P w K mg base ps qual scope f cc (.ref cda) A outer s H) rest t):FnOk P w K mg base CX0 (k+1) f fd ps (zLx ps C t):=by
 refine⟨fun vs H Q E h=>h.1,fun A outer s H args us vs Q E hr e0 hb' r hsp=>?_⟩
 obtain⟨hl,a,ws,rfl,ea,ht⟩:=hsp;obtain⟨oc,od,dV,kV,doc,pm,an,ct,osl,rfl,lk⟩:=D.lk;obtain⟨cl0,cd0,csl,hcc⟩:=D.cell;obtain⟨ar,hpar,har⟩:=D.par;obtain⟨ccl,cdd,cvs,ccs,file,tf,hcode,hvs,hfile⟩:=D.code;have KX:K.In s.heap:=e0.mod.kin.keeps fun b o e=>(e0.bs b o e).1
 have lim:s.heap.NoLimit:=e0.mod.nolimit.keeps fun b o e=>(e0.bs b o e).1
 refine PySem.ks_codeAny_call_defAt (binds:=ps.zip us) hr.depth (KX _ _ lk) rfl lim (YD KX D.hcd) rfl hb' S.nocell (fun y hy=>S.par _ (be hy).1) (fun h₁ hns kp=>?_) S.co S.gen S.kind
 have I:=zLC (w:=w) (mg:=mg) (qual:=qual) (f:=f) (cd:=.ref cda) (tk:=s.toks+(ps.zip us).length) S hr.hd e0 hl r hcc rfl hns kp
 have fin:∀ {σ':L2.St}{H':Hp}{v:V}{u:Value}{s':Shared},Inv (ccx P w K mg base ps qual scope f cc (.ref cda) A outer s H) [] σ' H' s'→L2.RelV v u→Q v H'→CE outer P w H s Q u s' :=
  fun{σ' H' v u s'} J rv q=>⟨v,H',J.os,J.bare,J.base,J.hok,rv,q⟩
 have fin2:∀(fl:Flow) (s':Shared),SP (ccx P w K mg base ps qual scope f cc (.ref cda) A outer s H) [] { nx:=fun _ H'=>Q .non H',rt:=Q } fl s'→CE outer P w H s Q (match fl with | .ret v=>v|_=>.none) s':=fun fl s' hs=>by
  cases fl with
  |ret u =>
   obtain⟨v,σ',H',J,rv,q⟩:=hs;exact fin J rv q
  |next =>
   obtain⟨σ',H',J,q⟩:=hs;exact fin (v:=V.non) (u:=Value.none) J rfl q
  |brk =>
   obtain⟨_,_,_,q⟩:=hs;exact False.elim q
  |cont =>
   obtain⟨_,_,_,q⟩:=hs;exact False.elim q
 refine PySem.ks_wpAt_execs_cons (PySem.ks_wpAt_Expr_any (PySem.ks_wpAt_MethodCall (PySem.ks_wpAt_super_base (env:=ksEnv qual scope s.heap.objs.size f (.ref cda) cc) S.sup S.cls rfl rfl (I.kIn _ _ lk) rfl hpar rfl (I.kIn _ _ hcode) rfl hvs hfile D.top ?_) (he _)) (hi _) (hsw _));obtain⟨mb,b1,b2⟩:=I.mod.blt
 obtain⟨u0,ur,rfl,ru⟩:∃u0 ur,us=u0::ur∧L2.RelV (.ref a) u0:=by
  cases r with
  |cons r1 r2=>exact⟨_,_,rfl,r1⟩
 obtain rfl:u0=.ref a:=ru;obtain⟨nm,qn,N,bs,bm,sn,sub,ab,col,dd,k0,k1,k2,k3,k5,hCK,hbm⟩:=D.T.cls;have hC:=I.kIn _ _ hCK;obtain⟨t1,hea⟩:=exo_at I.hok ea;have hcl:PySem.W.clsIn K C=some { name:=nm,bases:=bs,mro:=.ref C::bm,ns:=N,qualname:=qn,hasDict:=true,slotNames:=sn,subclasses:=sub,abstract:=ab,collection:=col,hasDel:=false }:=by unfold PySem.W.clsIn;rw[hCK]<;>rfl
 have lul:(Value.ref a::ur).length=ps.length:=by rw[←r.length];exact hl
 have hself:(ps.zip (Value.ref a::ur)).reverse.lookup ar.arg=some (.ref a):=by
  rw[har];exact zHV (i:=0) S.nd lul (by rw[hps];rfl) rfl
 refine PySem.W.ks_loadName_global S.kind S.sup (PySem.Calls.loadGlobal_builtin (env:=ksEnv qual scope s.heap.objs.size f (.ref cda) cc) (I.mod.glob.keeps I.bk) D.sup (b1.keeps I.bk) ((b2 "super" (!0)).trans PyProof.Rows.Boot.«super») ⟨rfl,?_⟩);refine wpAny_loadName_free S.kind S.cls rfl ⟨_,I.kIn _ _ hcc,rfl⟩ ?_
 refine wpAny_loadName_local S.kind (by rw[har];exact S.par _ (by rw[hps];exact Jc)) hns hself ?_
 refine PySem.ks_wpAny_isType_cls hC rfl ⟨rfl,?_⟩;refine PySem.ks_wpAny_call_super hC rfl hea rfl (fun c e=>by cases e) (PySem.W.looks_mroIn I.kIn D.self) (fun h' e k=>?_)
 have I2:Inv (ccx P w K mg base ps qual scope f cc (.ref cda) A outer s H) [] (L2.start ps (.ref a::ws)) H { s with heap:=h',toks:=s.toks+(ps.zip (Value.ref a::ur)).length }:=I.kept k
 have ia:PySem.W.InstAt h' a (PySem.HandSPX.excO C t1) C none:=⟨k _ _ hea,rfl,rfl,trivial⟩;have al:=D.along;unfold PySem.W.ks_superIn at al;rw[hcl]at al;refine PySem.W.kxs_getMethod PySem.W.kxs_ValueError e (PySem.W.looks_opaque I2.kIn D.opq) (l₀:=.ref C::bm) (fun A Q E s k q=>JG ((PySem.W.looks_clsIn I2.kIn hcl) A _ E s k (Vt q))) rfl I2.kIn al (ia.type.andThen (PySem.W.looks_subIn I2.kIn D.isVE)) (PySem.W.ks_ne I2.kIn ia hcl) (!0) ?_
 have hu:(h'.push (kxs_mw "ValueError.__init__" a)).get? h'.objs.size=some (kxs_mw "ValueError.__init__" a):=Heap.get?_push_at rfl rfl;have kk:∀b o,h'.get? b=some o→(h'.push (kxs_mw "ValueError.__init__" a)).get? b=some o:=fun b o e=>Jo _ e
 refine PySem.W.kxs_callWith (i := "ValueError.__init__") (x:=a) rfl ?_
 refine PySem.Calls.evalArgs_plain (PySem.Calls.spliced_cons (PySem.Calls.Constant_str (pos:=p3) (k:=j) (PySem.Calls.spliced_nil ⟨hu,?_⟩)));refine zN1 (kk _ _ (k _ _ hC)) (kk _ _ (k _ _ hea)) hu (by rw[Vm];show 1≤16777216;decide) fun h3 t3 k3 hx=>?_
 have J:=(I2.kept (t':=0) kk).write (t':=s.toks+(ps.zip (Value.ref a::ur)).length+1+1) (x:=a) (e:=a) (o:=exo a C none) (h':=h3) (by rw[ea];exact True.intro) (.inl rfl) k3 ⟨_,hx⟩ (exo_ok hx)
 have eu:upd H a (exo a C none)=H:=by
  funext b
  by_cases hb:b=a
  ·rw[hb,Ju,ea]
  ·rw[JF hb]
 rw[eu]at J;refine wpAt_of_wpAny ?_
 refine V5 ((hrest A outer s H).run [] _ _ H _ J ht) (fun fl s' hs=>fin2 fl s' hs) fun e' s' hs=>hs.elim
end
end
section
open PySem.W (ksEnv ksFn kxs_mw)
section
variable {X:Cx}{p pos:Pos}{e:Expr}{es:List Expr}{ta:TA}
theorem zNy{CX:CXT}{x:Str}{C fI:Addr}{k:Nat}{fd:FuncData}{ps:List Str}{sp:Sp} (T:OexC X.K C) (iC:PySem.W.findIn X.K (.ref C) "__init__" = some (some (.ref fI))) (tI:PySem.W.typeIn X.K (.ref fI)=some (.type "function"))
  (F1:FnOk X.prog X.w X.K X.mg X.base CX k fI fd ps sp) (hr:Room (k+1) X.A) (hb:Binds X.K fd ps []) (hx:Passes CX X (fun _ _ _=>False)) (hg:Gl X x) (hm:X.mg x=some (.ref C))
  (hdb:(x==("__debug__" : Str))=false:=by decide):PMk X (.Call (.Name x p) [] [] pos) (tMkO C sp [] tNil):=by
 intro pins s σ H Q I h;obtain⟨nm,q,N,bs,bm,sn,sub,ab,col,dd,k0,k1,k2,k3,k5,hC,hbm⟩:=T.cls;refine Vd (bA I hg hm ?_ hdb);refine PySem.W.callWith_K0 I.kIn T.kC ?_
 obtain⟨hz,q1⟩:=h;obtain⟨hp,g,dr,tk,os⟩:=s;have hsz:hp.objs.size≤hp.objs.size+1:=Nat.le_succ _;have hn:H (hp.objs.size+1)=none:=I.hok.fresh hsz;have hq:=q1 (hp.objs.size+1) hn;have kk:∀b o,hp.get? b=some o→((hp.push (PySem.W.kdv_tup [])).push (PySem.HandSPX.excO C hp.objs.size)).get? b=some o:=fun b o e=>Jo _ (Jo _ e)
 have hget:((hp.push (PySem.W.kdv_tup [])).push (PySem.HandSPX.excO C hp.objs.size)).get? (hp.objs.size+1)=some (PySem.HandSPX.excO C hp.objs.size):=by heap_get
 have I2:Inv X pins σ (upd H (hp.objs.size+1) (exo (hp.objs.size+1) C none)) ⟨(hp.push (PySem.W.kdv_tup [])).push (PySem.HandSPX.excO C hp.objs.size),g,dr,tk,os⟩ :=
  I.laid (t':=tk) (a:=hp.objs.size+1) (o:=exo (hp.objs.size+1) C none) (h':=(hp.push (PySem.W.kdv_tup [])).push (PySem.HandSPX.excO C hp.objs.size)) kk hsz (exo_ok hget)
 have r2:Vals [V.ref (hp.objs.size+1)] [Value.ref (hp.objs.size+1)]:=.cons rfl .nil
 have hl:([Value.ref (hp.objs.size+1)]++[]).length=ps.length:=by
  have e:=F1.len _ _ _ _ hq;exact e
 refine YK (PySem.HandSPX.call_own VZ (fun Y=>PySem.HandSPX.refsVE_contains Y bm hbm) (I.kIn _ _ hC) (PySem.W.looks_findIn I.kIn iC) (fun self=>PySem.W.bind_fn I.kIn self tI) (JI _)
  (YF (F1.run _ X.stack _ _ ⟨[Value.ref (hp.objs.size+1)],[]⟩ [Value.ref (hp.objs.size+1)] _ _ (fun _ _ _=>False) (hr.make C [] []) (I2.env0.make C [] []) (hb _ [Value.ref (hp.objs.size+1)] I2.kIn hl) r2 hq) fun r s' hq'=>?_))
 cases r with
 |error er=>exact hx pins σ _ _ er s' I2 hq'
 |ok fl =>
  cases fl with
  |ret u =>
   obtain⟨v,H2,os2,bare2,un2,hok2,rv,ev,d,fs,ea,ed,hd1,q2⟩:=hq';subst ev;obtain⟨h2,g2,d2,t2,os'⟩:=s';exact⟨rv,mk_end (raises_own T.exC T.tyC) I hsz kk un2 hok2 os2 bare2 ea ed hd1 q2⟩
  |next=>exact False.elim hq'
  |brk=>exact False.elim hq'
  |cont=>exact False.elim hq'
end
def tSay0(K:PySem.W.Frag) (T:Str):TS:=tOst K "tag" (tVar 0) (tC (.str T))
def tSay1(K:PySem.W.Frag) (T g:Str):TS:=tSeq (tOst K "tag" (tVar 0) (tC (.str T))) (tOst K g (tVar 0) (tVar 1))
theorem zN2{H:Hp}{a d:Addr}{o0 o1 o2 o3:HO} (hda:d≠a) (ha:H a=none):upd (L2.del (upd (upd (upd H a o0) d o1) a o2) a) d o3=upd H d o3:=by
 funext b
 by_cases h:b=d
 ·subst h;rw[Ju,Ju]
 ·rw[JF h,JF h]
  by_cases h2:b=a
  ·subst h2;rw[del_same,ha]
  ·rw[del_ne h2,JF h2,JF h,JF h2]
def tExc(C:Addr) (fs:List (Str×V)) (H:Hp) (Q:XK):Prop:=∀d,H d=none→Q (.ref C) (some d) (upd H d (.xd fs))
theorem zOz{K:PySem.W.Frag}{C:Addr}{T:Str}{H:Hp}{Q:XK} (O:OexC K C) (ht:PySem.W.findIn K (.ref C) "tag" = some none) (h:tExc C [("tag",.str T)] H Q){a:Addr} (ha:H a=none) :
  zLx ["self"] C (tSay0 K T) [.ref a] (upd H a (exo a C none)) (fun v H2=>v=.non∧∃(d:Addr) (fs:List (Str×V)),H2 a=some (exo a C (some d))∧H2 d=some (exd d fs)∧H d=none∧Q (.ref C) (some d) (upd (L2.del H2 a) d (.xd fs))) (fun _ _ _=>False):=by
 refine⟨rfl,a,[],rfl,Ju,⟨.ref a,rfl,a,C,rfl,O,ht,.inl ⟨Ju,fun d hd hne=>⟨rfl,d,[("tag",.str T)],Ju,?_,?_,?_⟩⟩⟩⟩
 ·rw[JF hne,Ju]
 ·rwa [JF hne]at hd
 ·rw[JF hne]at hd;rw[zN2 hne ha];exact h d hd
theorem zPC{K:PySem.W.Frag}{C:Addr}{T g:Str}{v:V}{H:Hp}{Q:XK}{pn:Str} (O:OexC K C) (ht:PySem.W.findIn K (.ref C) "tag" = some none) (hg:PySem.W.findIn K (.ref C) g=some none) (h:tExc C [(g,v),("tag",.str T)] H Q){a:Addr} (ha:H a=none) :
  zLx ["self",pn] C (tSay1 K T g) [.ref a,v] (upd H a (exo a C none)) (fun v H2=>v=.non∧∃(d:Addr) (fs:List (Str×V)),H2 a=some (exo a C (some d))∧H2 d=some (exd d fs)∧H d=none∧Q (.ref C) (some d) (upd (L2.del H2 a) d (.xd fs))) (fun _ _ _=>False):=by
 refine⟨rfl,a,[v],rfl,Ju,⟨.ref a,rfl,a,C,rfl,O,ht,.inl ⟨Ju,fun d hd hne=>⟨v,rfl,.ref a,rfl,a,C,rfl,O,hg,.inr ⟨d,[("tag",.str T)],Ju,?_,by simp,rfl,d,[(g,v),("tag",.str T)],?_,Ju,?_,?_⟩⟩⟩⟩⟩
 ·rw[JF hne,Ju]
 ·rw[JF (Vl hne),Ju]
 ·rwa [JF hne]at hd
 ·rw[JF hne]at hd
  have e:upd (L2.del (upd (upd (upd (upd H a (exo a C none)) d (exd d [("tag",V.str T)])) a (exo a C (some d))) d (exd d [(g,v),("tag",.str T)])) a) d (.xd [(g,v),("tag",.str T)])=upd H d (.xd [(g,v),("tag",.str T)]):=by
   funext b
   by_cases h:b=d
   ·subst h;rw[Ju,Ju]
   ·rw[JF h,JF h]
    by_cases h2:b=a
    ·subst h2;rw[del_same,ha]
    ·rw[del_ne h2,JF h,JF h2,JF h,JF h2]
  rw[e];exact h d hd
def zGZ(c:Nat) (T:Str):SMm:=fun σ st=>.exc ⟨c,[.str T]⟩ σ st
def zHf(c:Nat) (m:EM) (T:Str):SMm:=fun σ st=>(m σ st).to σ fun w st1=>match w with
 | .p x=>.exc ⟨c,[x,.str T]⟩ σ st1
 |_=>.no
structure Exc0 (P:Program) (w:World) (K:PySem.W.Frag) (mg:Str→Option Value) (base:Heap) (cl:Cls) (k c:Nat) (C:Addr) (T:Str):Prop where
 at_:cl[c]?=some (C,[("tag" : Str)])
 O:OexC K C
 tag:PySem.W.findIn K (.ref C) "tag" = some none
 ex:∃fI fd,PySem.W.findIn K (.ref C) "__init__" = some (some (.ref fI))∧PySem.W.typeIn K (.ref fI)=some (.type "function")∧FnOk P w K mg base CX0 k fI fd ["self"] (zLx ["self"] C (tSay0 K T))∧Binds K fd ["self"] []
structure Exc1 (P:Program) (w:World) (K:PySem.W.Frag) (mg:Str→Option Value) (base:Heap) (cl:Cls) (k c:Nat) (C:Addr) (T f pn:Str):Prop where
 at_:cl[c]?=some (C,[f,("tag" : Str)])
 O:OexC K C
 tag:PySem.W.findIn K (.ref C) "tag" = some none
 fld:PySem.W.findIn K (.ref C) f=some none
 ex:∃fI fd,PySem.W.findIn K (.ref C) "__init__" = some (some (.ref fI))∧PySem.W.typeIn K (.ref fI)=some (.type "function")∧FnOk P w K mg base CX0 k fI fd ["self",pn] (zLx ["self",pn] C (tSay1 K T f))∧Binds K fd ["self",pn] []
section
variable {K:PySem.W.Frag}{cl:Cls}{X:Cx}{Wx:WX}{E0:En}{ρ ρ':List Addr}{G G':Hp}{σ:Sg}{τ:L2.St}{st:List Cell}{H:Hp}{D:Ends}
theorem zNI{C:Addr}{c:Nat}{ns:List Str}{vs:List V}{l:List P} (hC:cl[c]?=some (C,ns)) (hl:ns.length=vs.length) (R:(bs K cl E0).Rel ρ G st H) (S:RS K cl ρ G σ τ) (r:RPs K cl G l vs) (h:AftS (bs K cl E0) ρ G (.exc ⟨c,l⟩ σ st) D Wx) :
  tExc C (ns.zip vs) H fun cls d H'=>Wx cls d τ H':=by
 intro d hd;refine h ρ (upd G d (.xd (ns.zip vs))) (upd H d (.xd (ns.zip vs))) τ (.ref C) (some d) (Je _) (Sub.new (R.gnone hd)) (R.froze hd) (S.mono (Je _) (Sub.new (R.gnone hd))) ?_
 exact⟨C,ns,d,vs,hC,rfl,rfl,Ju,hl,r.mono (Sub.new (R.gnone hd))⟩
theorem zGk{C:Addr}{k c:Nat}{T x:Str}{p pos pos2:Pos} (B:Exc0 X.prog X.w X.K X.mg X.base cl k c C T) (g:GX K X) (tk:Takes X Wx) (hr:Room (k+1) X.A) (hg:Gl X x) (hm:X.mg x=some (.ref C)) (hdb:(x==("__debug__" : Str))=false) :
  SS K cl X Wx (zGZ c T) (.Raise (some (.Call (.Name x p) [] [] pos)) none pos2):=by
 obtain⟨hK,hc,_⟩:=g;subst hK;obtain⟨fI,fd,h1,h2,h3,h4⟩:=B.ex;refine⟨fun E0 ρ G σ st τ H D R S h=>TS'.of (ps_raise hc tk (zNy B.O h1 h2 h3 hr h4 pass0 hg hm hdb)) ?_⟩
 have e:=zNI (vs:=[.str T]) B.at_ rfl R S (.cons (.str T) .nil) h;exact⟨JI _,fun a ha=>zOz B.O B.tag e ha⟩
theorem zLg{C:Addr}{k c:Nat}{tg f pn x:Str}{p pos pos2:Pos}{a:EM}{e:Expr} (B:Exc1 X.prog X.w X.K X.mg X.base cl k c C tg f pn) (g:GX K X) (tk:Takes X Wx) (hr:Room (k+1) X.A) (hg:Gl X x) (hm:X.mg x=some (.ref C)) (ha:SE K cl X Wx a e)
  (hdb:(x==("__debug__" : Str))=false) (he:starEach [e] X.env=(false,eval e X.env)::starEach [] X.env:=by rfl) (hpl:(backTo pos (starEach [] X.env)).any (·.1)=false:=by rfl) :
  SS K cl X Wx (zHf c a tg) (.Raise (some (.Call (.Name x p) [e] [] pos)) none pos2):=by
 obtain⟨hK,hc,_⟩:=g;subst hK;obtain⟨fI,fd,h1,h2,h3,h4⟩:=B.ex;refine⟨fun E0 ρ G σ st τ H D R S h=>TS'.of (ps_raise hc tk (pmk_oex B.O h1 h2 h3 hr h4 .nil pass0 hg hm (Yg T.pe bC he) hdb he hpl)) ?_⟩
 refine ha.run E0 ρ G σ st τ H _ R S (AftS.seq S h fun w st1 ρ1 G1 H1 v e1 p1 s1 R1 u1 h'=>?_)
 split at h'
 case h_2=>exact h'.elim
 have S1:=S.mono p1 s1;have en:=zNI (vs:=[v,.str tg]) B.at_ rfl R1 S1 (.cons u1 (.cons (.str tg) .nil)) h';exact⟨by simp,fun y hy=>zPC B.O B.tag B.fld en hy⟩
def runX(np N:Nat) (m:SMm):FM:=fun ws st=>if ws.length=np then match m (ws.map some++List.replicate (N-np) none) st with
 | .ok .nx _ st1=>.ok (.p .non) st1
 | .ok (.rt w) _ st1=>.ok w st1
 | .exc x _ st1=>.exc x st1
 |_=>.no
 else .no
abbrev cxE(P:Program) (w:World) (K:PySem.W.Frag) (mg:Str→Option Value) (base:Heap) (N:List Str) (qual:Str) (scope:Scope) (f:Addr) (cd:Value) (A:Around) (outer:List Env) (s:Shared) (H:Hp) (E:XK):Cx :=
 cxOf (L2.CX P w) P w K mg base N qual scope f cd A outer s H E
theorem zPc{P:Program}{w:World}{mg:Str→Option Value}{base:Heap}{N ps:List Str}{qual:Str}{scope:Scope}{f:Addr}{cd:Value}{A:Around}{outer:List Env}{s:Shared}{H:Hp}{E:XK}{k:Nat}
  (S:FnScope N ps scope) (hr:Room k (A.deeper (envOfC qual scope s.heap.objs.size f cd))):GX K (cxE P w K mg base N qual scope f cd A outer s H E) :=
 ⟨rfl,rfl,S.nd,by have:=hr.un;show(A.deeper _).units+65<cLine;omega,hr.hd⟩
theorem zPy{P:Program}{w:World}{mg:Str→Option Value}{base:Heap}{N:List Str}{qual:Str}{scope:Scope}{f:Addr}{cd:Value}{A:Around}{outer:List Env}{s:Shared}{H:Hp}{E:XK}:Takes (cxE P w K mg base N qual scope f cd A outer s H E) (WE E):=takes_of rfl rfl rfl rfl
theorem zPq{P:Program}{w:World}{mg:Str→Option Value}{base:Heap}{N ps:List Str}{x qual:Str}{params:Arguments}{body:List Stmt}{scope:Scope}{dvs:List V}{kws:List (Str×V)}{f:Addr}{fd:FuncData}{k:Nat}{m:SMm}
  (F:FunD K x qual params body scope dvs kws f fd) (S:FnScope N ps scope) (hb:∀(cd:Value) (A:Around) (outer:List Env) (s:Shared) (H:Hp) (E:XK),Room k (A.deeper (envOfC qual scope s.heap.objs.size f cd))→SSs K cl (cxE P w K mg base N qual scope f cd A outer s H E) (WE E) m body) :
  FnOk P w K mg base (L2.CX P w) (k+1) f fd ps (spF K cl (runX ps.length N.length m)):=by
 refine F.ok S (fun vs H Q E h=>?_) (fun cd A outer s H vs Q E hr h=>⟨TSs' (cxE P w K mg base N qual scope f cd A outer s H E) body,TSs'.pss,?_⟩)
 ·obtain⟨ρ0,G0,st0,ws,R,r,a⟩:=h;unfold runX at a;split at a
  ·rename_i hl;rw[←r.length];exact hl
  ·exact a.elim
 ·obtain⟨ρ0,G0,st0,ws,R,r,a⟩:=h;unfold runX at a;split at a
  case isFalse=>exact a.elim
  rename_i hl
  have lv:vs.length=ps.length:=by rw[←r.length];exact hl
  refine(hb cd A outer s H E hr).run ⟨strip H,ρ0.length,G0⟩ ρ0 G0 (ws.map some++List.replicate (N.length-ps.length) none) st0 (L2.start N vs) H _ R ?_ ?_
  ·unfold L2.start;rw[lv];refine⟨by rw[Jl,Jl,Jb,Jb,hl,lv,Vk,Vk],fun i w' e=>?_⟩
   rcases zDY e with⟨h1,h2⟩|⟨h1,h2⟩
   ·rw[Jb]at h1;rw[Ji]at h2;cases q:ws[i]? with
    |none=>rw[q]at h2;cases h2
    |some u =>
     rw[q]at h2;have h2:some (some u)=some (some w'):=h2;cases h2;obtain⟨v,ev,rv⟩:=r.get q;refine⟨v,?_,rv⟩;rw[Jh (by rw[Jb,lv,←hl];exact h1),Ji,ev];rfl
   ·rw[Vo]at h2;split at h2<;>cases h2
  ·generalize m (ws.map some++List.replicate (N.length-ps.length) none) st0=res at a ⊢;cases res with
   |no=>exact a.elim
   |exc x σ st=>exact fun ρ' G' H' τ' cls d p s R' S' u=>a ρ' G' H' cls d p s R' u
   |ok fl σ st =>
    cases fl with
    |nx=>exact fun ρ' G' H' τ' p s R' S'=>a ρ' G' H' .non p s R' RP.non
    |rt u=>exact fun ρ' G' H' τ' p s R' S' v rv=>a ρ' G' H' v p s R' rv
    |bk=>exact a.elim
    |ct=>exact a.elim
structure Xk (P:Program) (w:World) (K:PySem.W.Frag) (mg:Str→Option Value) (base:Heap) (cl:Cls) (k:Nat) (f:Addr) (ps:List Str) (F:FM):Prop where
 ex:∃fd,FnOk P w K mg base (L2.CX P w) k f fd ps (spF K cl F)∧Binds K fd ps []
 kp:PySem.W.keepIn K (.ref f)=true
theorem Xk.of{P:Program}{w:World}{mg:Str→Option Value}{base:Heap}{N ps:List Str}{x qual:Str}{params:Arguments}{body:List Stmt}{scope:Scope}{f:Addr}{k:Nat}{m:SMm}
  (F:∃fd,FunD K x qual params body scope [] [] f fd) (S:FnScope N ps scope) (bd:∀(kV doc pm:Value) (an:Option Addr) (cdv ct:Value) (us:List Value),us.length=ps.length→bindArgs (PySem.W.fnOf x qual params body scope .none kV doc pm an cdv ct) ⟨us,[]⟩=pure (ps.zip us))
  (hb:∀(cd:Value) (A:Around) (outer:List Env) (s:Shared) (H:Hp) (E:XK),GX K (cxE P w K mg base N qual scope f cd A outer s H E)→Takes (cxE P w K mg base N qual scope f cd A outer s H E) (WE E)→Room k (A.deeper (envOfC qual scope s.heap.objs.size f cd))→SSs K cl (cxE P w K mg base N qual scope f cd A outer s H E) (WE E) m body) :
  Xk P w K mg base cl (k+1) f ps (runX ps.length N.length m):=by
 obtain⟨fd,F⟩:=F;exact⟨⟨fd,zPq F S fun cd A outer s H E hr=>hb cd A outer s H E (zPc S hr) zPy hr,F.bindsN bd⟩,F.kp⟩
theorem Xk.mono{P:Program}{w:World}{mg:Str→Option Value}{base:Heap}{j k:Nat}{f:Addr}{ps:List Str}{F:FM} (h:Xk P w K mg base cl j f ps F) (q:j≤k):Xk P w K mg base cl k f ps F:=by
 obtain⟨⟨fd,h1,h2⟩,h3⟩:=h;exact⟨⟨fd,h1.mono q,h2⟩,h3⟩
end
end
def WI(Wx:WX):Prop:=∀c d σ σ' H,Wx c d σ H→Wx c d σ' H
theorem WI.e{E:XK}:WI (WE E):=fun _ _ _ _ _ h=>h
section
variable {K:PySem.W.Frag}{cl:Cls}{X:Cx}{Wx:WX}{E0:En}{ρ ρ':List Addr}{G G':Hp}{σ:Sg}{τ:L2.St}{st:List Cell}{H:Hp}{D:Ends}
variable {f:Addr}{fd:FuncData}{ps:List Str}{F:FM}{a:AM}{k:Nat}{x m:Str}{p pos apos:Pos}{e:Expr}{es:List Expr}
def zJq(c n:Nat) (F:FM) (ws:List W) (st:List Cell):Res W :=
 if(zAU ws).Nodup then match getCells st (zAU ws)with
  |some cs=>match F (.r 0::zC9 1 ws) (.ins c []::cs)with
   | .ok (.p .non) st'=>if((st'.drop 1).take (zAU ws).length).all zBS=true∧1+(zAU ws).length≤st'.length then match(st'[0]?:Option Cell)with
     |some (Cell.ins c' l)=>match pures l with
      |some m=>if c'=c∧m.length=n then .ok (.p (.obj c m)) (putCells (zAU ws) (st'.drop 1) st)else .no
      |none=>.no
     |_=>.no
    else .no
   | .exc x st'=>if((st'.drop 1).take (zAU ws).length).all zBS=true∧1+(zAU ws).length≤st'.length then .exc x (putCells (zAU ws) (st'.drop 1) st)else .no
   |_=>.no
  |none=>.no
 else .no
theorem zOi{c n:Nat}{C:Addr}{ns:List Str}{ws:List W}{vs:List V}{Q:VK}{Z:ZX} (hC:cl[c]?=some (C,ns)) (hn:ns.length=n) (R:(bs K cl E0).Rel ρ G st H) (r:RWs K cl ρ G ws vs) (h:Aft (bs K cl E0) (bs K cl E0).RW ρ G (zJq c n F ws st) Q Z)
  {x dx:Addr} (hx:H x=none) (hdx:H dx=none) (hne:dx≠x):spF K cl F (.ref x::vs) (upd (upd H dx (.own x)) x (.ins C dx [])) (fun v H2=>v=.non∧Q (.ref x) H2) Z:=by
 unfold zJq at h;split at h
 case isFalse=>exact h.elim
 rename_i nd
 split at h
 case h_2=>exact h.elim
 rename_i cs hc
 generalize hHm:upd (upd H dx (.own x)) x (.ins C dx [])=Hm
 have up:Sub H Hm:=fun a o e=>by
  rw[←hHm,JF (VF e hx),JF (VF e hdx)];exact e
 have nx:∀y∈[x],H y=none:=fun y m=>by
  have:y=x:=by simpa using m
  subst this;exact hx
 have lr:(rhos ρ (zAU ws)).length=(zAU ws).length:=Jb ..;refine⟨[x]++rhos ρ (zAU ws),G,[.ins c []]++cs,.r 0::zC9 1 ws,Rel.enter R nd hc up nx (by simp) rfl (fun i d y e1 e2=>?_),.cons ⟨x,rfl,rfl⟩ (zD9 1 r fun j i e=>?_),?_⟩
 ·have hi:i=0:=by
   have:=(Ja.mp e1).1
   simpa using this
  subst hi;cases e1;cases e2;exact⟨C,dx,ns,[],hC,by rw[←hHm,Ju];simp,JI _,.nil⟩
 ·obtain⟨a,h1,h2⟩:=zFJ R hc e;refine⟨a,h1,?_⟩;rw[JA (by simp)]
  show(rhos ρ (zAU ws))[1+j-1]?=some a;rw[show 1+j-1=j by omega];exact h2
 ·have e0:([.ins c []]++cs:List Cell)=.ins c []::cs:=rfl;rw[e0];generalize F (.r 0::zC9 1 ws) (.ins c []::cs)=res at h ⊢;split at h
  case h_3=>exact h.elim
  case h_2 =>
   rename_i xx st'
   intro ρ' G' H' cls d p s R' u
   by_cases hp:((st'.drop 1).take (zAU ws).length).all zBS=true∧1+(zAU ws).length≤st'.length
   case neg=>rw[Js hp]at h;exact h.elim
   rw[Jm hp]at h;exact h ρ G' H' cls d (Je _) s (Rel.ret R nd hc up nx p s R' hp.1 (by simpa using hp.2)) u
  rename_i st'
  intro ρ' G' H' v p s R' u;cases u
  by_cases hp:((st'.drop 1).take (zAU ws).length).all zBS=true∧1+(zAU ws).length≤st'.length
  case neg=>rw[Js hp]at h;exact h.elim
  rw[Jm hp]at h;split at h
  case h_2=>exact h.elim
  rename_i c' l e1
  split at h
  case h_2=>exact h.elim
  rename_i m em
  split at h
  case isFalse=>exact h.elim
  rename_i hh
  obtain⟨rfl,hm⟩:=hh;have R2:=Rel.ret R nd hc up nx p s R' hp.1 (by simpa using hp.2)
  have px:ρ'[0]?=some x:=by
   obtain⟨tl,rfl⟩:=p;rfl
  obtain⟨C',dx',ns',us,k1,k2,k3,k4⟩:=R'.cell 0 _ x e1 px;rw[hC]at k1;cases k1;have gx:G' x=none:=(R'.sep 0 _ x e1 px).resolve_left (fun z=>by cases z)
  have q:=k4.pures em;have hl:ns.length=us.length:=by rw[←q.length,hm,hn]
  have R3:=Rel.adopt R2 k2 gx (fun i e=>by
   obtain⟨o,q⟩:=R.there e
   rw[hx]at q;cases q) (R.fresh0 hx)
  refine⟨rfl,h ρ (upd G' x _) H' (.ref x) (Je _) (s.trans (Sub.new gx)) R3 ?_⟩;exact .obj hC Ju hl (q.mono (Sub.new gx))
end
section
open LamX
theorem zNr{H:Hp}{a:Addr}{u:HO} (h:Rd H a u) (nt:NT u):Rd (strip H) a u:=by
 rcases h with h|⟨o,h⟩
 ·exact .inl (strip_of h nt)
 ·exact .inr ⟨o,strip_of h fun _ z=>by cases z⟩
theorem zOm{K:PySem.W.Frag}{H:Hp}{a:Addr}{xs:List V} (h:SqL K H a xs):SqL K (strip H) a xs:=by
 rcases h with h|h
 ·exact .inl (zNr h fun _ z=>by cases z)
 ·exact .inr h
end
theorem exq_at{P:Program}{w:World}{H:Hp}{h:Heap}{a:Addr}{oe:Obj} (hok:HOk P w H h) (e:H a=some (exq a oe)):h.get? a=some oe:=by
 have x:ObjOk P w H h a (.ext fun h=>h.get? a=some oe):=hok a _ e
 exact x.1
def ends1(i:Nat) (D:Ends):Ends := { nx:=fun σ' H'=>D.nx (σ'.set i none) H',rt:=D.rt,bk:=fun σ' H'=>D.bk (σ'.set i none) H',ct:=fun σ' H'=>D.ct (σ'.set i none) H' }
def wSel(K:PySem.W.Frag) (n0 i:Nat) (D:Ends):List (Value×(Addr→Value→Option Addr→TS))→WX
 |[]=>fun _ _ _ _=>False
 |(c,ts)::r=>fun cls d σ H=>∃b,PySem.W.exmOne K cls c=some b∧(b=true→∀a,H a=none→σ.length=n0→ts a cls d (ends1 i D) (σ.set i (some (.ref a))) H)∧(b=false→wSel K n0 i D r cls d σ H)
inductive HdsA (X:Cx) (n:Str):List ExceptHandler→List (Value×(Addr→Value→Option Addr→TS))→Prop
 |nil:HdsA X n [] []
 |cons {x:Str}{c:Value}{ts:Addr→Value→Option Addr→TS}{b₀:Stmt}{suite:List Stmt}{np pos':Pos}{hds:List ExceptHandler}{l:List (Value×(Addr→Value→Option Addr→TS))} (hc:Names X x c)
   (hsu:∀(a:Addr) (oe:Obj) (cls:Value) (d:Option Addr) (pn:List (Addr×Obj)),Zc cls d oe→(∃vs,oe.data=.fields vs)→X.base.get? a=none→PSs (X.suite a ((a,oe)::pn)) (b₀::suite) (ts a cls d)) (r:HdsA X n hds l) :
   HdsA X n (.ExceptHandler (some (.Name x np)) (some n) (b₀::suite) pos'::hds) ((c,ts)::l)
section
variable {X:Cx}{n:Str}{i:Nat}{body:List Stmt}{h₀:ExceptHandler}{hds:List ExceptHandler}{l:List (Value×(Addr→Value→Option Addr→TS))}{pos:Pos}{tb:WX→TS}
theorem zLZ(hs:X.stack=X.env::X.outer) (hf:X.env.frame=some X.env.locals) (hN:X.N.Nodup) (hi:X.N[i]?=some n) (hln:X.env.kindOf n=some .local)
  (hb:∀(W:WX) (pn:List (Addr×Obj)) (xe:Value→Shared→Prop),Takes (X.tr pn xe) W→PassesOwn (model X.prog X.w) X.A X.env xe→PSs (X.tr pn xe) body (tb W))
  (hh:HdsA X n (h₀::hds) l):PS X (.Try body (h₀::hds) [] [] pos) (fun D σ H=>tb (wSel X.K X.N.length i D l) D σ H):=by
 refine⟨fun pins s σ H D I h=>wpAny_Try_except ?_⟩
 have ok:=I.ok;have hfr:X.A.frames=some (X.env::X.outer):=by rw[ok.frames,hs]
 refine V5 ((hb (wSel X.K X.N.length i D l) (X.pn++pins) (fun e s₁=>wpAny (model X.prog X.w) X.A (noteFrame e X.env) (fun _ s₂=>wpAny (model X.prog X.w) X.A (setFlight e none) (fun _ s₃ =>
  wpAny (model X.prog X.w) X.A (handleBy e X.env (h₀::hds)) (SP X pins D) X.xe s₃) X.xe s₂) X.xe s₁) (fun u s' xx=>?_) PassesOwn.looking).run [] s σ H D (I.toTry _) h) (fun f s1 hsp=>?_) (fun e s1 he=>he)
 case refine_2 =>
  cases f with
  |next=>obtain⟨σ',H',J,q⟩:=hsp;exact wpAny_execs_nil ⟨σ',H',J.ofTry ok,q⟩
  |brk=>obtain⟨σ',H',J,q⟩:=hsp;exact⟨σ',H',J.ofTry ok,q⟩
  |cont=>obtain⟨σ',H',J,q⟩:=hsp;exact⟨σ',H',J.ofTry ok,q⟩
  |ret u=>obtain⟨v,σ',H',J,r,q⟩:=hsp;exact⟨v,σ',H',J.ofTry ok,r,q⟩
 obtain⟨a,B,sI,pins',σ',H',cls,d,rfl,J',nb,up,sky,na,os,ag,w⟩:=xx;have J:Inv X pins σ' H' sI:=J'.ofTry ok;have sky1:Sky B (X.env::X.outer) a (Zc cls d) X.env.locals s'.heap:=hs▸sky;show wpAny (model X.prog X.w) X.A (noteFrame (.ref a) X.env) _ _ _;refine Sky.land Zc.steady hfr hf sky1 fun h3 fl3 up3=>?_
 have J3:Inv X pins σ' H' { s' with heap:=h3 }:=J.landed nb fl3.1 (up.trans up3) os ag
 obtain⟨oe3,vs3,he3,hz3,hd3⟩:=fl3.there
 have nfr:a∉frs (X.env::X.outer):=fun hm=>by
  obtain⟨_,o',e',hnf⟩:=fl3.2.2.1.mem hm;rw[he3]at e';cases e';exact hnf _ hd3
 have nL:a≠X.env.locals:=fun z=>nfr (V6.mpr ⟨X.env,Jc,by rw[hf,z]⟩)
 have nF:a∉X.fs:=fun hm=>by
  obtain⟨e,he,q⟩:=V6.mp hm;exact nfr (V6.mpr ⟨e,Jg _ he,q⟩)
 have nB:X.base.get? a=none:=by
  cases e:X.base.get? a with
  |none=>rfl
  |some o =>
   have z:=nb a o (J.bk a o e) (hs▸nfr);rw[fl3.2.1]at z;cases z
 have S3:=J3.suite he3 hd3 na nL nF;have LT:PySem.W.Looks (model X.prog X.w) h3 (typeOf (.ref a)) cls:=fun A Q E s k q=>wpAny_typeOf_ref (k _ _ he3) (by rw[hz3.1];exact q)
 have go:∀ {hds':List ExceptHandler}{l':List (Value×(Addr→Value→Option Addr→TS))},HdsA X n hds' l'→wSel X.K X.N.length i D l' cls d σ' H' →
   wpAny (model X.prog X.w) X.A (handleBy (.ref a) X.env hds') (SP X pins D) X.xe { s' with heap:=h3 }:=by
  intro hds' l' hk
  induction hk with
  |nil=>intro w;exact w.elim
  |@cons x c ts b₀ suite np pos' hds2 l2 hc hsu r ih =>
   intro w;obtain⟨b,hb1,yes,no⟩:=w;refine wpAny_handleBy_cons (codeAny_handlers_test ?_) (by intro q;cases q)
   have LM:=PySem.W.exm_one (M:=model X.prog X.w) (J3.kIn) LT hb1
   have named:∀ {Q:Value→Shared→Prop}{E:Value→Shared→Prop},Q c { s' with heap:=h3 }→wpAny (model X.prog X.w) (X.A.mark (some (.ref a))) (eval (.Name x np) X.env) Q E { s' with heap:=h3 }:=fun{Q E} q=>by
    obtain⟨hg,hdbg,hm|⟨hm,hv,hnn⟩⟩:=hc
    ·exact bA (X:=X.suite a ((a,oe3)::(X.pn++pins))) S3 hg hm q hdbg
    ·exact ld_blt (X:=X.suite a ((a,oe3)::(X.pn++pins))) S3 hg hm hv q hnn hdbg
   refine named (LM.here ?_);cases b with
   |false =>
    show wpAny _ X.A (handleBy (.ref a) X.env hds2) _ _ _;exact ih (no rfl)
   |true =>
    refine codeAny_handlers_suite_as ?_
    refine HandSPX.lands_againZ fl3 fun h4 fl4 up4=>?_
    have J4:Inv X pins σ' H' { s' with heap:=h4 }:=J.landed nb fl4.1 ((up.trans up3).trans up4) os ag
    obtain⟨oe4,vs4,he4,hz4,hd4⟩:=fl4.there;refine store_ok (X:=X.suite a ((a,oe4)::(X.pn++pins))) (v:=.ref a) (J4.suite he4 hd4 na nL nF) hN hi (.inl hln) rfl (fun s5 S5=>?_) (.inr hln)
    refine V5 ((hsu a oe4 cls d (X.pn++pins) hz4 ⟨_,hd4⟩ nB).run [] s5 _ H' _ S5 (yes rfl a na J.len)) (fun f s6 hsp=>?_) (fun _ _ z=>False.elim z)
    have gone:∀ {σ6:L2.St}{H6:Hp}{Q:Shared→Prop},Inv (X.suite a ((a,oe4)::(X.pn++pins))) [] σ6 H6 s6→(∀s7,Inv X pins (σ6.set i none) H6 s7→Q s7) →
      wpAny (model X.prog X.w) X.A (do bindName X.env n .none;unbindBehindTheSuite X.env n pos') (fun _ s7=>Q s7) X.xe s6:=fun S6 hq=>gone_ok (S6.unsuite ok) hN hi hln hq
    cases f with
    |next=>obtain⟨σ6,H6,S6,q⟩:=hsp;exact gone S6 fun s7 J7=>⟨_,_,J7,q⟩
    |brk=>obtain⟨σ6,H6,S6,q⟩:=hsp;exact gone S6 fun s7 J7=>⟨_,_,J7,q⟩
    |cont=>obtain⟨σ6,H6,S6,q⟩:=hsp;exact gone S6 fun s7 J7=>⟨_,_,J7,q⟩
    |ret u=>obtain⟨v6,σ6,H6,S6,r,q⟩:=hsp;exact gone S6 fun s7 J7=>⟨_,_,_,J7,r,q⟩
 exact go hh w
end
section
variable {X:Cx}{k:Nat}{f a:Addr}{fd:FuncData}{oe:Obj}{pins:List (Addr×Obj)}{σ:L2.St}{H:Hp}{s:Shared}{Q:VK}{N:List Str}{pn x qual:Str}{params:Arguments}{body:List Stmt}{scope:Scope}{t:TS}
theorem zRY(F:FunD X.K x qual params body scope [] [] f fd) (S:FnScope N [pn] scope) (hb:Binds X.K fd [pn] []) (hr:L2H.RoomH (k+1) X.A) (I:Inv X pins σ H s) (hp:(a,oe)∈X.pn++pins)
  (hbody:∀(cd:Value) (A:Around) (outer:List Env) (s:Shared) (H:Hp),L2H.RoomH k (A.deeper (envOfC qual scope s.heap.objs.size f cd))→PSs (L2H.cxH CX0 X.prog X.w X.K X.mg X.base N qual scope f cd A outer s H L2.E0 (a,oe)) body t)
  (h:t { nx:=fun _ H'=>Q .non H',rt:=Q } (L2.start N [.ref a]) H):wpAny (model X.prog X.w) X.A (call (.ref f) [.ref a]) (EP X pins σ Q) X.xe s:=by
 obtain⟨oc,od,dV,kV,doc,pm,an,cdv,ct,osl,rfl,lk,hcd,_,_⟩:=F.ex;have P1:=I.pin (a,oe) hp;have hpin:L2H.PinOk X.stack H s (a,oe):=⟨P1.1,P1.2.1,fun hm=>(Jr.mp (I.stkSub a hm)).elim P1.2.2.1 P1.2.2.2.1,P1.2.2.2.2⟩
 have e0:=I.env0;have KX:X.K.In s.heap:=e0.mod.kin.keeps fun b o e=>(e0.bs b o e).1
 have lim:s.heap.NoLimit:=e0.mod.nolimit.keeps fun b o e=>(e0.bs b o e).1
 have b:=hb s [.ref a] I.kIn rfl;rw[JK]at b
 have hkind:∀y∈[pn].zip [Value.ref a],scope.names.lookup y.1=some .local∨(scope.names.lookup y.1=some .cell∧((cellsFrom (s.heap.objs.size+1) scope.names []).lookup y.1).isSome=true):=fun⟨n,v⟩ hy=>by
  rcases S.par n (be hy).1 with q|q
  ·exact .inl q
  ·exact .inr ⟨q,PySem.W.cellsFrom_some _ _ _ (.inl q)⟩
 have rc:codeAny (model X.prog X.w) X.A (.call (.ref f) ⟨[.ref a],[]⟩) (CR CX0 X.stack X.prog X.w H s Q L2.E0) s:=by
  refine codeAny_call_function hr.depth (KX _ _ lk) rfl S.co S.gen rfl (YD KX hcd) (b _ _ _ _ ?_);refine YB S.kind hkind fun env he s1 x=>?_
  subst he;refine⟨lim.keeps x.toInCall.keep,codeAny_func ?_⟩;have J:Inv (L2H.cxH CX0 X.prog X.w X.K X.mg X.base N qual scope f cdv X.A X.stack s H L2.E0 (a,oe)) [] (L2.start N [.ref a]) H s1:=L2H.inv_startH (vs:=[.ref a]) S hpin e0 rfl (.cons rfl .nil) x;refine V5 ((hbody cdv X.A X.stack s H (hr.deeper _)).run [] s1 (L2.start N [.ref a]) H _ J h) (fun fl s' hs=>?_) fun e s' hs=>hs
  have fin:∀ {σ':L2.St}{H':Hp}{v:V}{u:Value},Inv (L2H.cxH CX0 X.prog X.w X.K X.mg X.base N qual scope f cdv X.A X.stack s H L2.E0 (a,oe)) [] σ' H' s'→RelV v u→Q v H'→CE X.stack X.prog X.w H s Q u s' :=
   fun{σ' H' v u} J rv q=>⟨v,H',J.os,J.bare,J.base,J.hok,rv,q⟩
  cases fl with
  |ret u =>
   obtain⟨v,σ',H',J,rv,q⟩:=hs;exact fin J rv q
  |next =>
   obtain⟨σ',H',J,q⟩:=hs;exact fin (v:=V.non) (u:=Value.none) J rfl q
  |brk =>
   obtain⟨_,_,_,q⟩:=hs;exact False.elim q
  |cont =>
   obtain⟨_,_,_,q⟩:=hs;exact False.elim q
 refine YK (YF rc fun r s' hq=>?_)
 cases r with
 |error e=>exact hq.elim
 |ok fl =>
  cases fl with
  |ret u=>exact I.after hq
  |next=>exact False.elim hq
  |brk=>exact False.elim hq
  |cont=>exact False.elim hq
end
def tPin(K:PySem.W.Frag) (a:Addr) (cls:Value) (d:Option Addr) (n:Str) (te:TE):TE:=fun σ H Q=>te σ H fun x H1=>∃(C dd:Addr) (fs:List (Str×V)) (v:V),x=.ref a∧cls=.ref C∧d=some dd∧XfC K C∧PySem.W.findIn K (.ref C) n=some none∧H1 dd=some (.xd fs)∧fs.lookup n=some v∧Q v H1
section
variable {X:Cx}{a:Addr}{oe:Obj}{cls:Value}{d:Option Addr}
theorem zFk{e:Expr}{te:TE}{pos:Pos}{n:Str} (hp:(a,oe)∈X.pn) (hz:Zc cls d oe) (hf:∃vs,oe.data=.fields vs) (he:PE X e te) (hb:attributeBase e n X.env (eval e X.env)=eval e X.env) :
  PE X (.Attribute e n pos) (tPin X.K a cls d n te):=by
 refine⟨fun pins s σ H Q I h=>?_⟩
 refine attr_of hb (thn (he.run pins s σ H _ I h) fun u s1 hh=>?_)
 obtain⟨x,H1,I1,rx,C,dd,fs,v,ex,ec,ed,T,hno,ea,l,q⟩:=hh;subst ex;obtain rfl:u=Value.ref a:=rx;subst ec;subst ed;obtain⟨ha,_⟩:=I1.pin (a,oe) (Yr _ hp);obtain⟨vs,hd⟩:=hf;have hx:ObjOk X.prog X.w H1 s1.heap dd (.xd fs):=I1.hok dd _ ea;obtain⟨mA,hns,hr⟩:=hx;obtain⟨od,ho,hl⟩:=lookIn_ns hns;obtain⟨u,hu,ru⟩:=RelO.some_of (v:=v) (o:=mA n) (by rw[←l];exact hr n)
 have J:PySem.W.InstAt s1.heap a oe C (some od):=⟨ha,hz.1,by unfold PySem.W.notCls;rw[hd]<;>rfl,by rw[hz.2];exact ho⟩
 exact HandSPX.exc_get I1.kIn J T.ga T.gg T.exC (PySem.W.findObj_own T.hdC hno rfl (by rw[hl,hu])) (handed_of ru) ⟨v,H1,I1.tok _,ru,q⟩
def tFld(K:PySem.W.Frag) (a:Addr) (cls:Value) (d:Option Addr) (r:Str→Option Str):TS:=fun D σ H=>σ[0]?=some (some (.ref a))∧∃(C dd:Addr) (fs:List (Str×V)) (T:Str) (v:V),cls=.ref C∧d=some dd∧XfC K C∧PySem.W.findIn K (.ref C) ("tag" : Str)=some none∧H dd=some (.xd fs) ∧
 fs.lookup ("tag" : Str)=some (.str T)∧(match r T with|none=>v=.non|some f=>PySem.W.findIn K (.ref C) f=some none∧fs.lookup f=some v)∧∀H',(∀b o,H b=some o→H' b=some o)→D.rt v H'
theorem pss_str{b:List Stmt}{t t':TS} (h:PSs X b t) (q:∀D σ H,t' D σ H→t D σ H):PSs X b t':=⟨fun pins s σ H D I z=>h.run pins s σ H D I (q D σ H z)⟩
inductive CStr:List Expr→List Str→Prop
 |nil:CStr [] []
 |cons {z:Str}{j:Nat}{p:Pos}{es:List Expr}{ls:List Str} (r:CStr es ls):CStr (.Constant (.str z) j p::es) (z::ls)
theorem zRO{es:List Expr}{ls:List Str} (c:CStr es ls):PA X es (fun _ H Q=>Q (ls.map V.str) H):=by
 induction c with
 |nil=>exact bC
 |cons r ih=>exact Yg bD ih rfl
theorem zN9(T:Str) (ls:List Str):L2.inV (.str T) (ls.map V.str)=ls.any fun z=>z==T:=by
 unfold L2.inV
 induction ls with
 |nil=>rfl
 |cons z ls ih=>rw[Jk,Vp,Vp,ih];rfl
theorem zQB{H H1:Hp} (e:∀b o,H b=some o→H1 b=some o){K:PySem.W.Frag}{r r':Str→Option Str}{D:Ends}{σ:L2.St} (h:tFld K a cls d r D σ H)
  (hr:∀T,(∃(C dd:Addr) (fs:List (Str×V)),cls=.ref C∧d=some dd∧H dd=some (.xd fs)∧fs.lookup ("tag" : Str)=some (.str T))→r T=r' T):tFld K a cls d r' D σ H1:=by
 obtain⟨h1,C,dd,fs,T,v,h2,h3,h4,h5,h6,h7,h8,h9⟩:=h;refine⟨h1,C,dd,fs,T,v,h2,h3,h4,h5,e _ _ h6,h7,?_,fun H' e'=>h9 H' fun b o z=>e' b o (e b o z)⟩
 rw[←hr T ⟨C,dd,fs,h2,h3,h6,h7⟩];exact h8
theorem zM1{es:List Expr}{ls:List Str}{en f:Str}{rest:List Stmt}{r:Str→Option Str}{p1 p2 p3 p4 p5 p6 p7 p8:Pos} (hp:(a,oe)∈X.pn) (hz:Zc cls d oe) (hf:∃vs,oe.data=.fields vs) (hN:X.N[0]?=some en) (hv:Vis X.env.scope en)
  (hd:(en==("__debug__" : Str))=false) (hcd:(en==("__classdict__" : Str))=false) (hb:∀p n,attributeBase (.Name en p) n X.env (eval (.Name en p) X.env)=eval (.Name en p) X.env) (ces:CStr es ls) (h:PSs X rest (tFld X.K a cls d r)) (hl:ls.length≤1000:=by decide) :
  PSs X (.If (.Compare (.Attribute (.Name en p1) "tag" p2) [.In] [.List es p3] p4) [.Return (some (.Attribute (.Name en p5) f p6)) p7] [] p8::rest) (tFld X.K a cls d fun T=>if(ls.any fun z=>z==T)=true then some f else r T):=by
 have hv1:∀p,PE X (.Name en p) (tVar 0):=fun p=>Y4 hN hv hd hcd
 refine pss_str (pss_cons (ps_if (pt_cmpR op_in_seq (zFk hp hz hf (hv1 p1) (hb _ _)) (pe_lst (zRO ces)) rfl) (YH (bF (zFk hp hz hf (hv1 p5) (hb _ _)))) pss_nil) h) fun D σ H h=>?_
 obtain⟨h1,C,dd,fs,T,v,h2,h3,h4,h5,h6,h7,h8,h9⟩:=h;refine⟨.ref a,h1,C,dd,fs,.str T,rfl,h2,h3,h4,h5,h6,h7,?_⟩;refine⟨by rw[Jb,Vm];omega,fun p hn=>⟨p,ls.map V.str,rfl,.inl (.inl (.inl Ju)),rfl,by simp[flatV],_,rfl,?_⟩⟩
 have ex:∀b o,H b=some o→upd H p (.lst (ls.map V.str)) b=some o:=fun b o e=>by rw[JF (VF e hn)];exact e
 rw[zN9];rw[show(if false=true then !(ls.any fun z=>z==T)else ls.any fun z=>z==T)=ls.any fun z=>z==T from rfl]
 cases hc:ls.any fun z=>z==T with
 |true =>
  dsimp only;rw[Jm rfl];have h8:(match(if(ls.any fun z=>z==T)=true then some f else r T)with|none=>v=.non|some f=>PySem.W.findIn X.K (.ref C) f=some none∧fs.lookup f=some v):=h8
  rw[hc,Jm rfl]at h8;exact⟨.ref a,h1,C,dd,fs,v,rfl,h2,h3,h4,h8.1,ex _ _ h6,h8.2,h9 _ ex⟩
 |false =>
  dsimp only;rw[Js VO];refine zQB ex (r:=fun T=>if(ls.any fun z=>z==T)=true then some f else r T) ⟨h1,C,dd,fs,T,v,h2,h3,h4,h5,h6,h7,h8,h9⟩ fun T' ⟨C',dd',fs',k1,k2,k3,k4⟩=>?_
  rw[h3]at k2;cases k2;rw[h6]at k3;cases k3;rw[h7]at k4;cases k4;show(if(ls.any fun z=>z==T)=true then some f else r T)=r T
  rw[hc];rfl
theorem dec_str(T z:Str):decide (V.str T=V.str z)=(z==T):=by
 by_cases h:z=T
 ·subst h;simp
 ·rw[J8.mpr h];exact JS fun e=>h (V.str.inj e).symm
theorem fb_eq{z en f:Str}{j:Nat}{rest:List Stmt}{r:Str→Option Str}{p1 p2 p3 p4 p5 p6 p7 p8:Pos} (hp:(a,oe)∈X.pn) (hz:Zc cls d oe) (hf:∃vs,oe.data=.fields vs) (hN:X.N[0]?=some en) (hv:Vis X.env.scope en)
  (hd:(en==("__debug__" : Str))=false) (hcd:(en==("__classdict__" : Str))=false) (hb:∀p n,attributeBase (.Name en p) n X.env (eval (.Name en p) X.env)=eval (.Name en p) X.env) (h:PSs X rest (tFld X.K a cls d r)) :
  PSs X (.If (.Compare (.Attribute (.Name en p1) "tag" p2) [.Eq] [.Constant (.str z) j p3] p4) [.Return (some (.Attribute (.Name en p5) f p6)) p7] [] p8::rest) (tFld X.K a cls d fun T=>if(z==T)=true then some f else r T):=by
 have hv1:∀p,PE X (.Name en p) (tVar 0):=fun p=>Y4 hN hv hd hcd
 refine pss_str (pss_cons (ps_if (pt_cmpR op_eq (zFk hp hz hf (hv1 p1) (hb _ _)) bD rfl) (YH (bF (zFk hp hz hf (hv1 p5) (hb _ _)))) pss_nil) h) fun D σ H h=>?_
 obtain⟨h1,C,dd,fs,T,v,h2,h3,h4,h5,h6,h7,h8,h9⟩:=h;refine⟨.ref a,h1,C,dd,fs,.str T,rfl,h2,h3,h4,h5,h6,h7,rfl,_,rfl,?_⟩;rw[dec_str];have h8:(match(if(z==T)=true then some f else r T)with|none=>v=.non|some f=>PySem.W.findIn X.K (.ref C) f=some none∧fs.lookup f=some v):=h8
 cases hc:z==T with
 |true =>
  dsimp only;rw[Jm rfl];rw[hc,Jm rfl]at h8;exact⟨.ref a,h1,C,dd,fs,v,rfl,h2,h3,h4,h8.1,h6,h8.2,h9 _ fun _ _ e=>e⟩
 |false =>
  dsimp only;rw[Js VO];rw[hc,Js VO]at h8;exact⟨h1,C,dd,fs,T,v,h2,h3,h4,h5,h6,h7,h8,h9⟩
theorem fb_end{z en f:Str}{j j2:Nat}{p1 p2 p3 p4 p5 p6 p7 p8 p9:Pos} (hp:(a,oe)∈X.pn) (hz:Zc cls d oe) (hf:∃vs,oe.data=.fields vs) (hN:X.N[0]?=some en) (hv:Vis X.env.scope en)
  (hd:(en==("__debug__" : Str))=false) (hcd:(en==("__classdict__" : Str))=false) (hb:∀p n,attributeBase (.Name en p) n X.env (eval (.Name en p) X.env)=eval (.Name en p) X.env) :
  PSs X [.Return (some (.IfExp (.Compare (.Attribute (.Name en p1) "tag" p2) [.Eq] [.Constant (.str z) j p3] p4) (.Attribute (.Name en p5) f p6) (.Constant .none j2 p7) p8)) p9] (tFld X.K a cls d fun T=>if(z==T)=true then some f else none):=by
 have hv1:∀p,PE X (.Name en p) (tVar 0):=fun p=>Y4 hN hv hd hcd
 refine pss_str (YH (bF (pe_ifExp (pt_cmpR op_eq (zFk hp hz hf (hv1 p1) (hb _ _)) bD rfl) (zFk hp hz hf (hv1 p5) (hb _ _)) pe_non))) fun D σ H h=>?_
 obtain⟨h1,C,dd,fs,T,v,h2,h3,h4,h5,h6,h7,h8,h9⟩:=h;refine⟨.ref a,h1,C,dd,fs,.str T,rfl,h2,h3,h4,h5,h6,h7,rfl,_,rfl,?_⟩;rw[dec_str];have h8:(match(if(z==T)=true then some f else none)with|none=>v=.non|some f=>PySem.W.findIn X.K (.ref C) f=some none∧fs.lookup f=some v):=h8
 cases hc:z==T with
 |true =>
  dsimp only;rw[Jm rfl];rw[hc,Jm rfl]at h8;exact⟨.ref a,h1,C,dd,fs,v,rfl,h2,h3,h4,h8.1,h6,h8.2,h9 _ fun _ _ e=>e⟩
 |false =>
  dsimp only;rw[Js VO];rw[hc,Js VO]at h8;have h8:v=.non:=h8;subst h8;exact h9 _ fun _ _ e=>e
end
section
open LamX (GivesTo CodeO LamS lamCx lamEnv TabB Tabs ExtN tLam)
section
variable {X:Cx}{k i:Nat}{f a:Addr}{fd:FuncData}{oe:Obj}{N:List Str}{pn x qual fx en:Str}{params:Arguments}{body:List Stmt}{scope:Scope}{t:TS}{p q pos:Pos}
theorem zK4(F:FunD X.K x qual params body scope [] [] f fd) (S:FnScope N [pn] scope) (hb:L2.Binds X.K fd [pn] []) (hr:L2H.RoomH (k+1) X.A) (hp:(a,oe)∈X.pn) (hg:Gl X fx) (hm:X.mg fx=some (.ref f)) (hdb:(fx==("__debug__" : Str))=false)
  (hN:X.N[i]?=some en) (hv:Vis X.env.scope en) (hd:(en==("__debug__" : Str))=false) (hcd:(en==("__classdict__" : Str))=false)
  (hbody:∀(cd:Value) (A:Around) (outer:List Env) (s:Shared) (H:Hp),L2H.RoomH k (A.deeper (envOfC qual scope s.heap.objs.size f cd))→PSs (L2H.cxH CX0 X.prog X.w X.K X.mg X.base N qual scope f cd A outer s H L2.E0 (a,oe)) body t) :
  PE X (.Call (.Name fx q) [.Name en p] [] pos) (fun σ H Q=>σ[i]?=some (some (.ref a))∧t { nx:=fun _ H'=>Q .non H',rt:=Q } (L2.start N [.ref a]) H):=by
 refine⟨fun pins s σ H Q I h=>?_⟩
 obtain⟨h1,h2⟩:=h;refine Vd (bA I hg hm ?_ hdb);refine VB (h₀:=X.base) I.ok.mod.kin F.kp (thn ((Yg (Y4 hN hv hd hcd) bC rfl).run pos pins s σ H (fun vs H1=>vs=[.ref a]∧H1=H) I ⟨.ref a,h1,rfl,rfl⟩) fun us s1 ⟨vs,H1,I1,r,q1,q2⟩=>⟨I1.kIn,?_⟩) rfl rfl
 subst q1;subst q2
 obtain rfl:us=[.ref a]:=by
  cases r with
  |cons r1 r2 =>
   cases r2;have r1:_=Value.ref a:=r1;rw[r1]
 exact zRY F S hb hr I1 (Yr _ hp) hbody h2
end
def zFj(T:Str):Option Str:=if((["InvalidNode", "InvalidWay", "NotOfWay", "InvalidRounds", "InvalidSheets", "NotAnswered"]:List Str).any fun z=>z==T)=true then some "given"
 else if((["InvalidArc", "InvalidRules"]:List Str).any fun z=>z==T)=true then some "index"
 else if((["InvalidName", "DuplicateName", "UnknownName", "WrongKind"]:List Str).any fun z=>z==T)=true then some "name"
 else if((["CapacityExceeded", "InvalidLimit"]:List Str).any fun z=>z==T)=true then some "limit"
 else if((["TooMany", "TooWide", "TooLong"]:List Str).any fun z=>z==T)=true then some "most"
 else if((("InvalidCommand" : Str))==T)=true then some "word"
 else if((("ParseError" : Str))==T)=true then some "line" else none
def EchT(K:PySem.W.Frag) (CS CM CN:Addr) (Q:VK):XK:=fun cls d H'=>∃(C dd:Addr) (fs:List (Str×V)) (T:Str) (v:V),cls=.ref C∧d=some dd∧XfC K C∧PySem.W.findIn K (.ref C) ("tag" : Str)=some none∧H' dd=some (.xd fs)∧fs.lookup ("tag" : Str)=some (.str T) ∧
 (((PySem.W.exmOne K cls (.ref CS)=some true∨(PySem.W.exmOne K cls (.ref CS)=some false∧PySem.W.exmOne K cls (.ref CM)=some true))∧(match zFj T with|none=>v=.non|some f=>PySem.W.findIn K (.ref C) f=some none∧fs.lookup f=some v)) ∨
  (PySem.W.exmOne K cls (.ref CS)=some false∧PySem.W.exmOne K cls (.ref CM)=some false∧PySem.W.exmOne K cls (.ref CN)=some true∧v=.non)) ∧
 ∀H2,(∀b o,H' b=some o→H2 b=some o)→∀p,H2 p=none→Q (.ref p) (upd H2 p (.tup [.str T,v]))
def TTry(K:PySem.W.Frag) (CS CM CN:Addr):(XK→Hp→VK→Prop)→Hp→VK→Prop:=fun tl H Q=>tl (EchT K CS CM CN Q) H fun v H'=>([V.str "value",v]:List V).length≤sizeLine∧∀p,H' p=none→Q (.ref p) (upd H' p (.tup [.str "value",v]))
section
variable {X:Cx}{q:Str}{Ng Nf:List Str}{ask en fn:Str}{sg sf:Scope}{g ff CS CM CN:Addr}{cdg:Value}{pf:Arguments}{bf:List Stmt}{fdf:FuncData}
theorem zL3{j1 j2:Nat}{x1 x2 x3 x4:_}{p1 p2 p3 p4 q1 q2 q3 q4 q5 q6 q7 q8 q9 r1 r2 r3 r4 r5 r6 r7 r8 r9 s1 s2 s3 s4 s5 s6 s7 t1 t2:Pos} (hN0:Ng[0]?=some ask) (hN1:Ng[1]?=some en) (nd:Ng.Nodup) (hst:∀f:Addr,L2.start Ng [V.ref f]=[some (V.ref f),none]) (hln:sg.names.lookup en=some .local)
    (gS:sg.names.lookup ("SayError" : Str)=some .globalImplicit) (gM:sg.names.lookup ("Missing" : Str)=some .globalImplicit) (gN:sg.names.lookup ("NothingLeft" : Str)=some .globalImplicit) (gF:sg.names.lookup ("_law_field" : Str)=some .globalImplicit)
    (mS:X.mg "SayError" = some (.ref CS)) (mM:X.mg "Missing" = some (.ref CM)) (mN:X.mg "NothingLeft" = some (.ref CN)) (mF:X.mg "_law_field" = some (.ref ff)) (de:(en==("__debug__" : Str))=false) (dc:(en==("__classdict__" : Str))=false)
    (Ff:FunD X.K "_law_field" "_law_field" pf bf sf [] [] ff fdf) (Sf:FnScope Nf [fn] sf) (Bf:L2.Binds X.K fdf [fn] []) (hsf:∀a:Addr,(L2.start Nf [V.ref a])[0]?=some (some (V.ref a)))
    (hbf:∀(a:Addr) (oe:Obj) (cls:Value) (d:Option Addr),Zc cls d oe→(∃vs,oe.data=.fields vs)→∀(cd:Value) (A:Around) (outer:List Env) (s:Shared) (H:Hp),PSs (L2H.cxH CX0 X.prog X.w X.K X.mg X.base Nf "_law_field" sf ff cd A outer s H L2.E0 (a,oe)) bf (tFld X.K a cls d zFj))
    (hr:Room 2 X.A) :
    GivesTo X Ng "_law_try" sg g cdg [.Try [.Return (some (.Tuple [.Constant (.str "value") j1 p1,.Call (.Name ask p2) [] [] p3] x1 p4)) q1]
      [.ExceptHandler (some (.Name "SayError" q2)) (some en) [.Return (some (.Tuple [.Attribute (.Name en q3) "tag" q4,.Call (.Name "_law_field" q5) [.Name en q6] [] q7] x2 q8)) q9] r1,
       .ExceptHandler (some (.Name "Missing" r2)) (some en) [.Return (some (.Tuple [.Attribute (.Name en r3) "tag" r4,.Call (.Name "_law_field" r5) [.Name en r6] [] r7] x3 r8)) r9] s1,
       .ExceptHandler (some (.Name "NothingLeft" s2)) (some en) [.Return (some (.Tuple [.Attribute (.Name en s3) "tag" s4,.Constant .none j2 s5] x4 s6)) s7] t1] [] [] t2] ask q (TTry X.K CS CM CN):=by
  intro f c' s H Q tl act hc h;generalize hZ:(cxOf C8.CX0 X.prog X.w X.K X.mg X.base Ng "_law_try" sg g cdg X.A X.stack s H C8.E0).nox=Z;have hZK:Z.K=X.K:=by subst hZ;rfl
  have hrZ:L2H.RoomH 1 Z.A:=by rw[←hZ];exact L2H.roomH_of (hr.deeper _)
  have attr:∀(a:Addr) (pn:List (Addr×Obj)) (p:Pos) (n:Str),attributeBase (.Name en p) n (Z.suite a pn).env (eval (.Name en p) (Z.suite a pn).env)=eval (.Name en p) (Z.suite a pn).env:=fun a pn p n=>by rw[←hZ];rfl
  have zN:Z.N[1]?=some en:=by rw[←hZ];exact hN1
  have zv:Vis Z.env.scope en:=by rw[←hZ];exact .inl hln
  have main:∀(a:Addr) (oe:Obj) (cls:Value) (d:Option Addr) (pn:List (Addr×Obj)){u1 u2 u3 u4 u5 u6 u7:Pos}{xx:_},Zc cls d oe→(∃vs,oe.data=.fields vs) →
      PSs (Z.suite a ((a,oe)::pn)) [.Return (some (.Tuple [.Attribute (.Name en u1) "tag" u2,.Call (.Name "_law_field" u3) [.Name en u4] [] u5] xx u6)) u7]
        (tRet (tTup (tCons (tPin X.K a cls d "tag" (tVar 1)) (tCons (fun σ H Q=>σ[1]?=some (some (.ref a))∧tFld X.K a cls d zFj { nx:=fun _ H'=>Q .non H',rt:=Q } (L2.start Nf [.ref a]) H) tNil)))):=by
    intro a oe cls d pn u1 u2 u3 u4 u5 u6 u7 xx hz hf;have e1:=zFk (X:=Z.suite a ((a,oe)::pn)) (pos:=u2) (n := "tag") Jc hz hf (Y4 (pos:=u1) zN zv de dc) (attr a _ _ _)
    have e2:PE (Z.suite a ((a,oe)::pn)) (.Call (.Name "_law_field" u3) [.Name en u4] [] u5) (fun σ H Q=>σ[1]?=some (some (.ref a))∧tFld X.K a cls d zFj { nx:=fun _ H'=>Q .non H',rt:=Q } (L2.start Nf [.ref a]) H):=by
      subst hZ;exact zK4 (k:=0) (i:=1) Ff Sf Bf ⟨hrZ.dp,hrZ.un⟩ Jc gF mF (!0) zN zv de dc fun cd A outer s H _=>hbf a oe cls d hz hf cd A outer s H
    have e1:PE (Z.suite a ((a,oe)::pn)) (.Attribute (.Name en u1) "tag" u2) (tPin X.K a cls d "tag" (tVar 1)):=by rw[←hZK];exact e1
    exact YH (bF (pe_tup (Yg e1 (Yg e2 bC rfl) rfl)))
  have last:∀(a:Addr) (oe:Obj) (cls:Value) (d:Option Addr) (pn:List (Addr×Obj)),Zc cls d oe→(∃vs,oe.data=.fields vs) →
      PSs (Z.suite a ((a,oe)::pn)) [.Return (some (.Tuple [.Attribute (.Name en s3) "tag" s4,.Constant .none j2 s5] x4 s6)) s7]
        (tRet (tTup (tCons (tPin X.K a cls d "tag" (tVar 1)) (tCons (tC .non) tNil)))):=by
    intro a oe cls d pn hz hf;have e1:=zFk (X:=Z.suite a ((a,oe)::pn)) (pos:=s4) (n := "tag") Jc hz hf (Y4 (pos:=s3) zN zv de dc) (attr a _ _ _);rw[←hZK];exact YH (bF (pe_tup (Yg e1 (Yg pe_non bC rfl) rfl)))
  have nmS:Names Z "SayError" (.ref CS):=by rw[←hZ];exact⟨gS,!0,.inl mS⟩
  have nmM:Names Z "Missing" (.ref CM):=by rw[←hZ];exact⟨gM,!0,.inl mM⟩
  have nmN:Names Z "NothingLeft" (.ref CN):=by rw[←hZ];exact⟨gN,!0,.inl mN⟩
  have hs:Z.stack=Z.env::Z.outer:=by subst hZ;rfl
  have hfr:Z.env.frame=some Z.env.locals:=by rw[←hZ];rfl
  have hnd:Z.N.Nodup:=by rw[←hZ];exact nd
  have hk:Z.env.kindOf en=some .local:=by rw[←hZ];exact hln
  refine⟨_,YH (zLZ (X:=Z) (i:=1) (n:=en)
    (tb:=fun W D σ H=>∃Ech:XK,(∀cls d σ' H',Ech cls d H'→W cls d σ' H')∧σ[0]?=some (some (.ref f))∧H c'=some (CodeO c' q)∧tl Ech H (fun v H'=>([V.str "value",v]:List V).length≤sizeLine∧∀p,H' p=none→D.rt (.ref p) (upd H' p (.tup [.str "value",v]))))
    hs hfr hnd zN hk (fun W pn xe tk _=>?_)
    (.cons nmS (fun a oe cls d pn hz hf _=>main a oe cls d pn hz hf) (.cons nmM (fun a oe cls d pn hz hf _=>main a oe cls d pn hz hf) (.cons nmN (fun a oe cls d pn hz hf _=>last a oe cls d pn hz hf) .nil)))),?_⟩
  · refine⟨fun pins s' σ H' D I h'=>?_⟩
    obtain⟨Ech,hW,h1,h2,h3⟩:=h';have tk2:Takes ((cxOf C8.CX0 X.prog X.w X.K X.mg X.base Ng "_law_try" sg g cdg X.A X.stack s H C8.E0).tr pn xe) W:=by subst hZ;exact tk
    have hp:=act W pn xe Ech p2 p3 tk2 hW;have hp2:PE (Z.tr pn xe) (.Call (.Name ask p2) [] [] p3) (fun σZ HZ Q=>σZ[0]?=some (some (.ref f))∧HZ c'=some (CodeO c' q)∧tl Ech HZ Q):=by subst hZ;exact hp
    have hs0:PE (Z.tr pn xe) (.Constant (.str ("value" : Str)) j1 p1) (tC (.str "value")):=bD;have hq:=YH (bF (pos:=q1) (pe_tup (x1:=x1) (pos:=p4) (Yg hs0 (Yg hp2 bC rfl) rfl)));refine hq.run pins s' σ H' D I ?_
    exact⟨h1,h2,h3⟩
  · have two:∀x y:V,([x,y]:List V).length≤sizeLine:=fun x y=>by rw[Vm];show 2≤_;omega
    have zl:Z.N.length=2:=by
      rw[←hZ];have e:=congrArg List.length (hst 0);unfold L2.start at e;simp at e;show Ng.length=2;omega
    have h0:(L2.start Ng [V.ref f])[0]?=some (some (.ref f)):=by rw[hst];rfl
    refine⟨EchT X.K CS CM CN Q,fun cls d σ' H' w=>?_,h0,hc,h⟩
    obtain⟨C,dd,fs,T,v,e1,e2,e3,e4,e5,e6,e7,e8⟩:=w;subst e1;subst e2;have s1:∀a:Addr,σ'.length=Z.N.length→(σ'.set 1 (some (.ref a)))[1]?=some (some (V.ref a)):=fun a hl=>JL (by rw[hl,zl];decide)
    have yes:(match zFj T with|none=>v=.non|some f=>PySem.W.findIn X.K (.ref C) f=some none∧fs.lookup f=some v)→∀a,H' a=none→σ'.length=Z.N.length→tRet (tTup (tCons (tPin X.K a (.ref C) (some dd) "tag" (tVar 1)) (tCons (fun σ H Q=>σ[1]?=some (some (.ref a))∧tFld X.K a (.ref C) (some dd) zFj { nx:=fun _ H'=>Q .non H',rt:=Q } (L2.start Nf [.ref a]) H) tNil)))
        (ends1 1 { nx:=fun _ H'=>Q .non H',rt:=Q }) (σ'.set 1 (some (.ref a))) H':=fun hv a ha hl =>
      ⟨.ref a,s1 a hl,C,dd,fs,.str T,rfl,rfl,rfl,e3,e4,e5,e6,s1 a hl,hsf a,C,dd,fs,T,v,rfl,rfl,e3,e4,e5,e6,hv,fun H2 ext=>⟨two _ _,fun p hp=>e8 H2 ext p hp⟩⟩
    rw[←hZK]at e7;rcases e7 with⟨e7|⟨e7,e9⟩,hv⟩|⟨e7,e9,e10,hv⟩
    · exact⟨true,e7,fun _=>yes (by rw[←hZK];exact hv),fun z=>by cases z⟩
    · exact⟨false,e7,fun z=>(by cases z),fun _=>⟨true,e9,fun _=>yes (by rw[←hZK];exact hv),fun z=>by cases z⟩⟩
    · refine⟨false,e7,fun z=>(by cases z),fun _=>⟨false,e9,fun z=>(by cases z),fun _=>⟨true,e10,fun _ a ha hl=>?_,fun z=>by cases z⟩⟩⟩
      subst hv;exact⟨.ref a,s1 a hl,C,dd,fs,.str T,rfl,rfl,rfl,e3,e4,e5,e6,two _ _,fun p hp=>e8 H' (fun _ _ z=>z) p hp⟩
end
def tryE(tb:List (Nat×Str×Option Str)) (x:Exn):Option P:=match tb.lookup x.c with
 |some (T,none)=>(match x.l with|[.str T']=>if T=T' then some (.tup [.str T,.non])else none|_=>none)
 |some (T,some _)=>(match x.l with|[y,.str T']=>if T=T' then some (.tup [.str T,y])else none|_=>none)
 |none=>none
def zDB(tb:List (Nat×Str×Option Str)) (m:EM):EM:=fun σ st=>match m σ st with
 | .ok (.p x) st1=>.ok (.p (.tup [.str "value",x])) st1
 | .ok (.r _) _=>.no
 | .exc x st1=>(match tryE tb x with|some p=>.ok (.p p) st1|none=>.no)
 | .no=>.no
def nsOf:Option Str→List Str
 |none=>["tag"]
 |some f=>[f, "tag"]
structure TryC (K:PySem.W.Frag) (cl:Cls) (CS CM CN:Addr) (c:Nat) (T:Str) (f:Option Str):Prop where
 ex:∃C,cl[c]?=some (C,nsOf f)∧XfC K C∧PySem.W.findIn K (.ref C) ("tag" : Str)=some none∧(∀g,f=some g→(g==("tag" : Str))=false∧PySem.W.findIn K (.ref C) g=some none) ∧
  (((PySem.W.exmOne K (.ref C) (.ref CS)=some true∨(PySem.W.exmOne K (.ref C) (.ref CS)=some false∧PySem.W.exmOne K (.ref C) (.ref CM)=some true))∧zFj T=f) ∨
   (PySem.W.exmOne K (.ref C) (.ref CS)=some false∧PySem.W.exmOne K (.ref C) (.ref CM)=some false∧PySem.W.exmOne K (.ref C) (.ref CN)=some true∧f=none))
structure LamD (P:Program) (w:World) (K:PySem.W.Frag) (mg:Str→Option Value) (base:Heap) (x:Str) (g CS CM CN:Addr):Prop where
 ex:∃(oc:Value) (od:Option Addr) (osl:Array (Option Value)) (pg:Arguments) (bg:List Stmt) (sg:Scope) (dV kV doc pm cdv ct:Value) (an:Option Addr) (Ng:List Str) (a:Str),
  K.lookup g=some ⟨oc,od,.func (PySem.W.fnOf x x pg bg sg dV kV doc pm an cdv ct),osl⟩∧PySem.W.codeIn K cdv x=true∧L2.Binds K (PySem.W.fnOf x x pg bg sg dV kV doc pm an cdv ct) [a] []∧FnScope Ng [a] sg∧Ng[0]?=some a∧Vis sg a∧(a==("__debug__" : Str))=false∧(a==("__classdict__" : Str))=false ∧
  ∀X:Cx,X.prog=P→X.w=w→X.K=K→X.mg=mg→X.base=base→Room 2 X.A→∀q,GivesTo X Ng x sg g cdv bg a q (TTry K CS CM CN)
 kp:PySem.W.keepIn K (.ref g)=true
section
variable {K:PySem.W.Frag}{cl:Cls}{X:Cx}{Wx:WX}
theorem gx_lam{A:Around}{outer:List Env}{s:Shared}{H:Hp}{E:XK}{scope:Scope}{f c':Addr}{k:Nat} (g:GX K X) (hr:Room k (A.deeper (lamEnv X scope s.heap.objs.size f c'))):GX K (lamCx X A outer s H E scope f c') :=
 ⟨g.hK,rfl,g.hN,by have:=hr.un;show(A.deeper _).units+65<cLine;omega,hr.hd⟩
theorem tk_lam{A:Around}{outer:List Env}{s:Shared}{H:Hp}{E:XK}{scope:Scope}{f c':Addr}:Takes (lamCx X A outer s H E scope f c') (WE E):=takes_of rfl rfl rfl rfl
theorem zGt{α β:Type} [BEq α] [LawfulBEq α] {a:α}{b:β}:∀ {l:List (α×β)},l.lookup a=some b→(a,b)∈l
 |[],h=>by cases h
 |(k,v)::l,h=>by
  rw[JE]at h;split at h
  ·rename_i e
   cases h;rw[eq_of_beq e];exact Jc
  ·exact Jg _ (zGt h)
theorem zMb{f:Option Str}{vs:List V}{T:Str}{y:V} (h:f=none∧vs=[.str T]∨∃g,f=some g∧(g==("tag" : Str))=false∧vs=[y,.str T]):((nsOf f).zip vs).lookup ("tag" : Str)=some (.str T):=by
 rcases h with⟨rfl,rfl⟩|⟨g,rfl,hg,rfl⟩
 ·rfl
 ·have hg:(("tag" : Str)==g)=false:=by
   have:=J8.mp hg
   exact J8.mpr (Vl this)
  simp[nsOf,JE,hg]
open LamX (CodeO ExtN TabB)
end
end
section
open LamX (CodeO ExtN TabB)
section
variable {M:Model}{A:Around}{E Q:Value→Shared→Prop}{s:Shared}{q:Str}{r:LamR}{env:Env}{dV:Value}{mg:Str→Option Value}{c Pt:Addr}{ps:Array Value}{pos:Pos}{fl:Nat}{clos:List (Str×Addr)}
theorem zRb(hcl:closureFor r.scope env=pure clos) (hge:env.globals=mainGlobals) (hg:s.heap.Ns mainGlobals mg) (hcode:env.code=.ref c) (C:PySem.W.CodeHd s.heap c Pt) (hP:s.heap.get? Pt=some (PySem.W.tabObj ps)) (ht:TriplesOk ps.toList)
  (hnf:codeAmong pos ps.toList=none) (hgP:mainGlobals≠Pt) (hb:s.heap.BuiltinsAt mg Pt)
  (h:∀(c':Addr) (ct:Value) (h':Heap) (tk:Nat),Heap.ExtBut Pt s.heap h'→s.heap.objs.size≤c'→c'<h'.objs.size→h'.CodeRec (.ref c') q→h'.get? Pt=some (PySem.W.tabObj (ps ++ #[rawInt pos.line,rawInt pos.col,.ref c'])) →
   Q (.ref h'.objs.size) { s with heap:=h'.push (lamO r q clos ((mg "__name__").getD .none) (.ref c') ct dV),toks:=tk }) :
  wpAny M A (makeTail "<lambda>" q r.params (.expr r.body) r.scope env dV .none none pos fl) Q E s:=by
 obtain⟨bm,ob,g1,g2,_,g3,g4,g5,g6,g7⟩:=hb;unfold makeTail;rw[hcl,hge];refine JG (Vt ?_)
 have main:∀(ct:Value) (h1:Heap),(∀b o,s.heap.get? b=some o→h1.get? b=some o)→s.heap.objs.size≤h1.objs.size →
   wpAny M A (do
    let cd ←functionCode env pos fl "<lambda>" q r.params r.scope (.expr r.body)
    let bl ←builtinsFor mainGlobals env.builtins
    let nm ←nsGet mainGlobals "__name__"
    let dc ←(pure Value.none:Sem Value)
    newObj (.type "function") (.func { name := "<lambda>",qualname:=q,params:=r.params,body:=.expr r.body,scope:=r.scope,globals:=mainGlobals,closure:=clos,closureTuple:=ct,code:=cd,builtins:=bl,defaults:=dV,kwdefaults:=.none,annotations:=none,pyModule:=nm.getD .none,doc:=dc }))
    Q E { s with heap:=h1 }:=by
  intro ct h1 kp sz;refine JG (wpAny_functionCodeX (s := { s with heap:=h1 }) hcode ((C.keeps kp).code (kp _ _ hP) ht) ((C.keeps kp).tab (kp _ _ hP)) hnf fun c' h' tk x1 x2 x3 _ x4 x5 _=>?_)
  have gg:Heap.Ns h' mainGlobals mg:=(hg.keeps kp).extBut x1 hgP;refine JG (wpAny_builtinsFor gg g1 g2 (x1 _ _ g3 (kp _ _ g4)) g5 g6 g7 ?_);refine JG (wpAny_nsGet gg ?_);refine JG (Vt (wpAny_newObj_type (h c' ct h' tk (fun b o nb e=>x1 b o nb (kp b o e)) (Jt sz x2) x3 x4 x5.2) (by size_fits)))
 cases clos with
 |nil =>
  simp only[Yp,VG];exact JG (Vt (main .none s.heap (fun _ _ e=>e) (Jq _)))
 |cons z l =>
  simp only[YL,V9,YX];exact JG (YG (main _ _ (fun b o e=>Jo _ e) (by rw[Heap.size_push];omega)))
theorem zQx{cv:Value} (hcl:closureFor r.scope env=pure clos) (hge:env.globals=mainGlobals) (hg:s.heap.Ns mainGlobals mg) (hcode:env.code=.ref c) (C:PySem.W.CodeHd s.heap c Pt) (hP:s.heap.get? Pt=some (PySem.W.tabObj ps)) (ht:TriplesOk ps.toList)
  (hf:codeAmong pos ps.toList=some cv) (hb:s.heap.BuiltinsAt mg Pt)
  (h:∀(ct:Value) (h':Heap),(∀b o,s.heap.get? b=some o→h'.get? b=some o)→s.heap.objs.size≤h'.objs.size →
   Q (.ref h'.objs.size) { s with heap:=h'.push (lamO r q clos ((mg "__name__").getD .none) cv ct dV) }) :
  wpAny M A (makeTail "<lambda>" q r.params (.expr r.body) r.scope env dV .none none pos fl) Q E s:=by
 obtain⟨bm,ob,g1,g2,_,g3,g4,g5,g6,g7⟩:=hb;unfold makeTail;rw[hcl,hge];refine JG (Vt ?_)
 have main:∀(ct:Value) (h1:Heap),(∀b o,s.heap.get? b=some o→h1.get? b=some o)→s.heap.objs.size≤h1.objs.size →
   wpAny M A (do
    let cd ←functionCode env pos fl "<lambda>" q r.params r.scope (.expr r.body)
    let bl ←builtinsFor mainGlobals env.builtins
    let nm ←nsGet mainGlobals "__name__"
    let dc ←(pure Value.none:Sem Value)
    newObj (.type "function") (.func { name := "<lambda>",qualname:=q,params:=r.params,body:=.expr r.body,scope:=r.scope,globals:=mainGlobals,closure:=clos,closureTuple:=ct,code:=cd,builtins:=bl,defaults:=dV,kwdefaults:=.none,annotations:=none,pyModule:=nm.getD .none,doc:=dc }))
    Q E { s with heap:=h1 }:=by
  intro ct h1 kp sz;refine JG (wpAny_functionCode_hit (s := { s with heap:=h1 }) hcode ((C.keeps kp).code (kp _ _ hP) ht) hf ?_)
  refine JG (wpAny_builtinsFor (s := { s with heap:=h1 }) (hg.keeps kp) g1 g2 (kp _ _ g4) g5 g6 g7 ?_)
  refine JG (wpAny_nsGet (s := { s with heap:=h1 }) (hg.keeps kp) ?_)
  exact JG (Vt (wpAny_newObj_type (h ct h1 kp sz) (by size_fits)))
 cases clos with
 |nil =>
  simp only[Yp,VG];exact JG (Vt (main .none s.heap (fun _ _ e=>e) (Jq _)))
 |cons z l =>
  simp only[YL,V9,YX];exact JG (YG (main _ _ (fun b o e=>Jo _ e) (by rw[Heap.size_push];omega)))
end
structure zQQ (N:List Str) (sc scope:Scope):Prop where
 kind:scope.kind=.function
 co:scope.isCoroutine=false
 gen:scope.isGenerator=false
 own:∀y∈scope.names,y.2≠.cell∧(y.2=.local→y.1∉N)
 free:∀y∈scope.names,y.2=.free→sc.names.lookup y.1=some .cell∨sc.names.lookup y.1=some .free
def zIt(N:List Str) (sc scope:Scope):Bool :=
 decide (scope.kind=.function) && !scope.isCoroutine && !scope.isGenerator&&scope.names.all fun y => !decide (y.2=.cell)&&(!decide (y.2=.local) || !N.contains y.1)&&(!decide (y.2=.free)||decide (sc.names.lookup y.1=some .cell)||decide (sc.names.lookup y.1=some .free))
theorem zKS{N:List Str}{sc scope:Scope} (h:zIt N sc scope=true):zQQ N sc scope:=by
 unfold zIt at h;simp only[Jj,VS,YM,JR,decide_eq_false_iff_not,Jp]at h;obtain⟨⟨⟨h1,h2⟩,h3⟩,h4⟩:=h;refine⟨h1,h2,h3,fun y hy=>⟨(h4 y hy).1.1,fun e=>?_⟩,fun y hy e=>?_⟩
 ·rcases(h4 y hy).1.2 with z|z
  ·exact absurd e z
  ·intro hm;rw[Ym.mpr hm]at z;cases z
 ·rcases(h4 y hy).2 with(z|z)|z
  ·exact absurd e z
  ·exact .inl z
  ·exact .inr z
theorem zEL{M:Model}{A:Around}{E:Value→Shared→Prop}{s:Shared}{Q:List (Option Value)→Shared→Prop} (h:Q [] s):wpAny M A (evalAllOpt []) Q E s:=Vt h
def DefOk(r:LamR) (env:Env):Prop:=(r.dfl=false∧defaultsOf r.params env=([],[]))∨(r.dfl=true∧r.params.kwonlyargs=[]∧∃j dp,defaultsOf r.params env=([eval (.Constant (.int 0) j dp) env],[]))
section
variable {K:PySem.W.Frag}{cl:Cls}{X:Cx}{Wx:WX}{E0:En}{ρ:List Addr}{G:Hp}{σ:Sg}{τ:L2.St}{st:List Cell}{H:Hp}
theorem exq_nt{a:Addr}{oe:Obj}:NT (exq a oe):=fun _ z=>by unfold exq at z;cases z
theorem exq_ok{P:Program}{w:World}{H:Hp}{h:Heap}{a:Addr}{oe:Obj} (e:h.get? a=some oe):ObjOk P w H h a (exq a oe):=⟨e,⟨oe,e⟩,fun _ _ p st=>st _ p⟩
def mLam(j i:Nat):EM:=fun _ st=>.ok (.p (.lam j i)) st
theorem zKO{j i:Nat}{r:LamR}{q:Str}{c Pt:Addr}{pos:Pos}{fl:Nat}{dV:Value}{s:Shared}{pins:List (Addr×Obj)}{Q:VK}{Z:ZX}{E:Value→Shared→Prop} (I:Inv X pins τ H s) (R:Rel K cl E0 ρ G st H) (hr:cl.lm[i]?=some r) (hf:cl.fr[j]?=some (q,X.env.cells)) (TB:TabB X.base X.mg c Pt) (hcode:X.env.code=.ref c)
  (hm:(Pt,q)∈cl.tb) (hu:∀p∈cl.tb,p.1=Pt→p.2=q) (hfree:∀y∈r.scope.names,y.2=.free→∃c,X.env.cells.lookup y.1=some c) (hdV:r.dfl=false∧dV=.none∨r.dfl=true∧∃T,dV=.ref T∧G T=some (.tup [.int 0]))
  (h:Aft (bs K cl E0) (bs K cl E0).RW ρ G (.ok (.p (.lam j i)) st) Q Z):wpAny (model X.prog X.w) X.A (makeTail "<lambda>" q r.params (.expr r.body) r.scope X.env dV .none none pos fl) (EP X pins τ Q) E s:=by
 obtain⟨ps,hP,ht,ha⟩:=R.tabs _ hm;have bP:s.heap.BuiltinsAt X.mg Pt:=TB.bm.keeps I.bk;have hP':s.heap.get? Pt=some { cls:=.none,data:=.fields ps }:=I.hok Pt _ hP
 have fin:∀(f c':Addr) (pm ct:Value) (G1 H1:Hp) (s1:Shared),Sub G G1→Rel K cl E0 ρ G1 st H1→Inv X pins τ H1 s1→H1 f=none→s1.heap.objs.size=f→G1 c'=some (CodeO c' q)→∀tk,EP X pins τ Q (.ref f) { s1 with heap:=s1.heap.push (lamO r q (cloFrom X.env.cells r.scope.names []) pm (.ref c') ct dV),toks:=tk }:=by
  intro f c' pm ct G1 H1 s1 sg R1 I1 hn hs hc tk
  have ho:(s1.heap.push (lamO r q (cloFrom X.env.cells r.scope.names []) pm (.ref c') ct dV)).get? f=some (lamO r q (cloFrom X.env.cells r.scope.names []) pm (.ref c') ct dV):=by
   rw[←hs];exact JH _ rfl
  have I2:Inv X pins τ (upd H1 f (exq f (lamO r q (cloFrom X.env.cells r.scope.names []) pm (.ref c') ct dV))) { s1 with heap:=s1.heap.push (lamO r q (cloFrom X.env.cells r.scope.names []) pm (.ref c') ct dV),toks:=tk } :=
   I1.laid (fun b o e=>Jo _ e) (Nat.le_of_eq hs) (exq_ok ho)
  have R2:=R1.froze (o:=exq f (lamO r q (cloFrom X.env.cells r.scope.names []) pm (.ref c') ct dV)) hn exq_nt;have s2:Sub G1 (upd G1 f (exq f (lamO r q (cloFrom X.env.cells r.scope.names []) pm (.ref c') ct dV))):=Sub.new (R1.gnone hn);refine⟨.ref f,_,I2,rfl,h ρ _ _ (.ref f) (Je _) (sg.trans s2) R2 ?_⟩;refine RP.lam hr hf Ju (s2 _ _ hc) ?_
  rcases hdV with hd|⟨hd,T,e1,e2⟩
  ·exact .inl hd
  ·exact .inr ⟨hd,T,e1,s2 _ _ (sg _ _ e2)⟩
 cases hc:codeAmong pos ps.toList with
 |none =>
  refine zRb (mg:=X.mg) (c:=c) (Pt:=Pt) (ps:=ps) (closure_ok hfree) I.ok.glob (I.mod.glob.keeps I.bk) hcode (TB.code.keeps I.bk) hP' ht hc TB.gP bP fun c' ct h' tk x1 x2 x3 x4 x5=>?_
  obtain⟨c2,oc,vs,t,e2,hoc,hd,hv⟩:=x4;cases e2;have nC:H c'=none:=I.hok.fresh x2
  have I1:Inv X pins τ (upd (upd H Pt (.tbl (ps ++ #[rawInt pos.line,rawInt pos.col,.ref c']))) c' (CodeO c' q)) { s with heap:=h',toks:=tk } :=
   LamX.inv_table (more := #[rawInt pos.line,rawInt pos.col,.ref c']) I hP (fun b o hb e=>x1 b o hb e) x5 x2 ⟨oc,vs,t,hoc,hd,hv⟩
  have eL:(ps ++ #[rawInt pos.line,rawInt pos.col,.ref c']).toList=ps.toList++[rawInt pos.line,rawInt pos.col,.ref c']:=by simp
  have sg:Sub G (upd G c' (CodeO c' q)):=Sub.new (R.gnone nC)
  have R1:=R.code (q:=q) (ps':=ps ++ #[rawInt pos.line,rawInt pos.col,.ref c']) hP nC hu (by rw[eL];exact PySem.TriplesOk_snoc _ _ _ _ ht) fun p' cv hcv=>by
   rw[eL]at hcv;rcases LamX.among_app _ ht hcv with z|z
   ·obtain⟨c0,e1,e2⟩:=ha p' cv z;exact⟨c0,e1,sg _ _ e2⟩
   ·exact⟨c',z,Ju⟩
  exact fin h'.objs.size c' _ ct _ _ { s with heap:=h',toks:=tk } sg R1 I1 (I1.hok.fresh (Jq _)) rfl Ju tk
 |some cv =>
  obtain⟨c',e,hco⟩:=ha pos cv hc;subst e;refine zQx (mg:=X.mg) (c:=c) (Pt:=Pt) (ps:=ps) (closure_ok hfree) I.ok.glob (I.mod.glob.keeps I.bk) hcode (TB.code.keeps I.bk) hP' ht hc bP fun ct h' hx hsz=>?_
  have I1:Inv X pins τ H { s with heap:=h',toks:=s.toks }:=I.kept hx
  exact fin h'.objs.size c' _ ct G H { s with heap:=h',toks:=s.toks } (Sub.refl _) R I1 (I1.hok.fresh (Jq _)) rfl hco s.toks
theorem se_lam{j i:Nat}{r:LamR}{c Pt:Addr}{pos:Pos} (gx:GX K X) (hr:cl.lm[i]?=some r) (hf:cl.fr[j]?=some (X.env.qual++("<lambda>" : Str),X.env.cells)) (TB:TabB X.base X.mg c Pt) (hcode:X.env.code=.ref c) (hm:(Pt,X.env.qual++("<lambda>" : Str))∈cl.tb) (hu:∀p∈cl.tb,p.1=Pt→p.2=X.env.qual++("<lambda>" : Str))
  (L:zIt X.N X.env.scope r.scope=true) (hdef:DefOk r X.env):SE K cl X Wx (mLam j i) (.Lambda r.params r.body r.scope pos):=by
 refine⟨fun E0 ρ G σ st τ H Q R S h pins s I=>?_⟩
 have L:=zKS L
 have hfree:∀y∈r.scope.names,y.2=.free→∃c,X.env.cells.lookup y.1=some c:=fun y hy e=>by
  rcases L.free y hy e with k|k
  ·exact I.ok.has _ (.inl k)
  ·exact I.ok.has _ (.inr k)
 rcases hdef with⟨hd,hdf⟩|⟨hd,hk,jj,dp,hdf⟩
 ·refine PySem.W.kla_eval hdf ?_
  rw[makeFunction_eq];simp only[List.zip_nil_right,List.filterMap_nil,Yp,VG,pure_bind];exact zKO I R hr hf TB hcode hm hu hfree (.inl ⟨hd,rfl⟩) h
 ·rw[arm_eval_Lambda,hdf];show wpAny _ _ (do let dv ←evalAll [eval (.Constant (.int 0) jj dp) X.env];let kdv ←holding dv (evalAllOpt []);makeFunction "<lambda>" (X.env.qual++("<lambda>" : Str)) r.params (.expr r.body) r.scope X.env dv kdv [] pos pos.line) _ _ _
  refine JG (wpAny_evalAll_cons (thn (pe_int.run pins s τ H (fun v H1=>v=.int 0∧H1=H) I ⟨rfl,rfl⟩) fun u s1 ⟨v,H1,I1,rv,q1⟩=>wpAny_evalAll_nil ?_))
  obtain⟨rfl,rfl⟩:=q1;refine JG (Yv (zEL ?_));rw[makeFunction_eq,hk];simp only[List.zip_nil_left,List.filterMap_nil,Yp,YL,V9,YX,VG,pure_bind];refine JG (YG ?_)
  have I2:Inv X pins τ (upd H1 s1.heap.objs.size (.tup [.int 0])) { s1 with heap:=s1.heap.push { cls:=.type "tuple",data:=.seq [u].toArray } } :=
   I1.laid (t':=s1.toks) (fun b o e=>Jo _ e) (Jq _) ⟨by rw[Vm];decide,[u],.cons rv .nil,_,JH _ rfl,rfl,_,rfl⟩
  have hn:H1 s1.heap.objs.size=none:=I1.hok.fresh (Jq _);have R2:=R.froze (o:=.tup [.int 0]) hn;exact zKO I2 R2 hr hf TB hcode hm hu hfree (.inr ⟨hd,_,rfl,Ju⟩) (Aft.mono (Je _) (Sub.new (R.gnone hn)) h)
end
end
section
open LamX (CodeO ExtN TabB lamCx lamEnv GivesTo)
structure CFc (N:List Str) (sc:Scope) (cells:List (Str×Addr)) (σ:L2.St) (h:Heap) (H:Hp):Prop where
 at_:∀x c,cells.lookup x=some c→(∃v,h.IsCell c v)∧H c=none
 val:∀(i:Nat) x v,N[i]?=some x→σ[i]?=some (some v)→(sc.names.lookup x=some .cell∨sc.names.lookup x=some .free)→∃u c,RelV v u∧cells.lookup x=some c∧h.IsCell c (some u)
 inj:∀x y c,cells.lookup x=some c→cells.lookup y=some c→x=y
 has:∀x,(sc.names.lookup x=some .cell∨sc.names.lookup x=some .free)→∃c,cells.lookup x=some c
 len:σ.length=N.length
section
variable {X X0:Cx}{pins:List (Addr×Obj)}{σ:L2.St}{H HZ:Hp}{s s1:Shared}
theorem Inv.cfc(I:Inv X pins σ H s):CFc X.N X.env.scope X.env.cells σ s.heap H:=by
 refine⟨fun x c e=>⟨I.cell x c e,I.freeC x c e⟩,fun i x v e1 e2 k=>?_,I.ok.inj,I.ok.has,I.len⟩
 obtain⟨m,hn,hl⟩:=I.loc;obtain⟨u,r,q⟩:=hl i x v e1 e2 (.inr k);rcases q with⟨k',_⟩|⟨_,c,e,z⟩
 ·have k':X.env.scope.names.lookup x=some .local:=k';rcases k with k|k<;>rw[k']at k<;>cases k
 ·exact⟨u,c,r,e,z⟩
theorem CFc.un{N:List Str}{sc:Scope}{cells:List (Str×Addr)}{fs ex:List Addr}{H':Hp}{h h':Heap} (c:CFc N sc cells σ h H) (un:Un fs ex H H' h h') (hx:∀x a,cells.lookup x=some a→a∉ex):CFc N sc cells σ h' H':=by
 have k:∀ {x a v},cells.lookup x=some a→h.IsCell a v→h'.IsCell a v:=fun{x a v} e ⟨o,ho,hd⟩=>by
  obtain⟨sl,q⟩:=un.any ho (c.at_ x a e).2 (hx x a e);exact⟨_,q,hd⟩
 refine⟨fun x a e=>?_,fun i x v e1 e2 q=>?_,c.inj,c.has,c.len⟩
 ·obtain⟨⟨v,z⟩,n⟩:=c.at_ x a e;obtain⟨o,ho,_⟩:=id z;exact⟨⟨v,k e z⟩,un.free a o ho n (hx x a e)⟩
 ·obtain⟨u,a,r,e,z⟩:=c.val i x v e1 e2 q;exact⟨u,a,r,e,k e z⟩
theorem CFc.kept{N:List Str}{sc:Scope}{cells:List (Str×Addr)}{h h':Heap} (c:CFc N sc cells σ h H) (kp:∀b o,h.get? b=some o→h'.get? b=some o):CFc N sc cells σ h' H :=
 c.un (fs:=[]) (ex:=[]) (Un.kept kp) fun _ _ _ z=>by cases z
theorem zKz{A:Around}{outer:List Env}{E:XK}{scope:Scope}{f c':Addr}{h₁:Heap}{tk:Nat}{m:Str→Option Value} (cf:CFc X.N X.env.scope X.env.cells σ s1.heap HZ) (L:zQQ X.N X.env.scope scope) (e0:Env0 X.prog X.w X.K X.mg X.base A outer s1 HZ) (hd:A.handled=none)
  (hns:h₁.Ns s1.heap.objs.size m) (kp:∀b o,s1.heap.get? b=some o→h₁.get? b=some o):Inv (lamCx X A outer s1 HZ E scope f c') [] σ HZ { s1 with heap:=h₁,toks:=tk }:=by
 have cm:∀ {y c},(cloFrom X.env.cells scope.names []).lookup y=some c→X.env.cells.lookup y=some c:=fun{y c} e=>by
  rcases cloFrom_mem (JW e)with hm|⟨h1,h2⟩
  ·cases hm
  ·obtain⟨c1,hc⟩:=cf.has _ (by
    rcases L.free _ h1 rfl with k|k
    ·exact .inl k
    ·exact .inr k)
   have hc:X.env.cells.lookup y=some c1:=hc;have e2:c=c1:=by rw[h2,hc]<;>rfl
   rw[e2];exact hc
 have look:∀ {y},scope.names.lookup y=some .free→∃c,(cloFrom X.env.cells scope.names []).lookup y=some c:=fun{y} hl =>
  mem_lookup (cloFrom_has (cells:=X.env.cells) (acc:=[]) (JW hl))
 have cl':=cf.kept kp;have noA:∀b:Addr,b∉(lamCx X A outer s1 HZ E scope f c').ex:=fun b z=>absurd (show b∈([]:List Addr)from z) (by simp)
 refine⟨⟨e0.mod,L.kind,rfl,rfl,Jq _,fun y z c e1 e2=>cf.inj y z c (cm e1) (cm e2),fun y hy=>?_,fun y c z _=>?_,fun _=>hd,Around.frames_deeper e0.frames,.inr ⟨rfl,rfl⟩,fun b z=>absurd z (noA b),e0.bs,e0.bsz,fun b _ _=>noA b,
   fun b z=>absurd z (noA b),e0.funs,e0.frf⟩,
  rfl,e0.bare,Un.kept kp,⟨m,hns,fun i y v e1 e2 e3=>?_⟩,fun y c e=>(cl'.at_ y c (cm e)).1,e0.hok.fresh (Jq _),fun y c e=>(cl'.at_ y c (cm e)).2,fun q hq=>absurd (show q∈([]:List (Addr×Obj))++[]from hq) (by simp),e0.hok.kept kp,cf.len⟩
 ·have hy:scope.names.lookup y=some .cell∨scope.names.lookup y=some .free:=hy;rcases hy with hy|hy
  ·exact absurd rfl (L.own _ (JW hy)).1
  ·exact look hy
 ·have z:false=true:=z;cases z
 ·have e3:Vis scope y:=e3;have e1:X.N[i]?=some y:=e1;rcases e3 with k|k|k
  ·exact absurd (Jn e1) ((L.own _ (JW k)).2 rfl)
  ·exact absurd rfl (L.own _ (JW k)).1
  ·obtain⟨u,c,r,e,z⟩:=cl'.val i y v e1 e2 (L.free _ (JW k) rfl);obtain⟨c2,h2⟩:=look k;have c1:=cm h2;rw[e]at c1;cases c1;exact⟨u,r,.inr ⟨.inr k,c,h2,z⟩⟩
def zRr(r:LamR):Prop:=(r.dfl=false→∀(q:Str) (clos:List (Str×Addr)) (pm cv ct:Value),bindArgs { PySem.W.kla_fn "<lambda>" q r.params r.body r.scope clos pm cv ct with defaults:=.none } ⟨[],[]⟩=pure []) ∧
 (r.dfl=true→∃pa,r.scope.names.lookup pa=some .local∧∀(q:Str) (clos:List (Str×Addr)) (pm cv ct dV:Value),∃k:Option (Array Value)→Sem (List (Str×Value)),bindArgs { PySem.W.kla_fn "<lambda>" q r.params r.body r.scope clos pm cv ct with defaults:=dV } ⟨[],[]⟩=(seqItems? dV >>= k)∧∀v,k (some #[v])=pure [(pa,v)])
def DflAt(r:LamR) (dV:Value) (H:Hp):Prop:=r.dfl=false∧dV=.none∨r.dfl=true∧∃T,dV=.ref T∧H T=some (.tup [.int 0])
theorem zP4{CXg:CXT}{Eg:XK}{Ng:List Str}{qg:Str}{sg:Scope}{g f c':Addr}{cdg pm ct dV:Value}{r:LamR}{q:Str}{k i:Nat}{a:Str}{pn:List (Addr×Obj)}{xe:Value→Shared→Prop}{W:WX}{E:XK}{tb:TE}{p1 p2:Pos}
  (sm:X0.prog=X.prog∧X0.w=X.w∧X0.K=X.K∧X0.mg=X.mg∧X0.base=X.base) (hq:q=X0.env.qual++("<lambda>" : Str)) (cf:CFc X0.N X0.env.scope X0.env.cells σ s.heap H) (L:zQQ X0.N X0.env.scope r.scope) (hb:zRr r)
  (tk:Takes ((cxOf CXg X.prog X.w X.K X.mg X.base Ng qg sg g cdg X.A X.stack s H Eg).tr pn xe) W) (hW:∀cls d σ' H',E cls d H'→W cls d σ' H') (hr:Room (k+1) (X.A.deeper (envOfC qg sg s.heap.objs.size g cdg)))
  (hbody:∀(A:Around) (outer:List Env) (s:Shared) (H:Hp),Room k (A.deeper (lamEnv X0 r.scope s.heap.objs.size f c'))→PE (lamCx X0 A outer s H E r.scope f c') r.body tb)
  (hN:Ng[i]?=some a) (hv:Vis sg a) (hd:(a==("__debug__" : Str))=false:=by decide) (hcd:(a==("__classdict__" : Str))=false:=by decide) :
  PE ((cxOf CXg X.prog X.w X.K X.mg X.base Ng qg sg g cdg X.A X.stack s H Eg).tr pn xe) (.Call (.Name a p1) [] [] p2)
   (fun σZ HZ Q=>σZ[i]?=some (some (.ref f))∧HZ c'=some (CodeO c' q)∧HZ f=some (exq f (lamO r q (cloFrom X0.env.cells r.scope.names []) pm (.ref c') ct dV))∧DflAt r dV HZ∧tb σ HZ Q):=by
 subst hq;obtain⟨e1,e2,e3,e4,e5⟩:=sm;refine⟨fun pinsZ sZ σZ HZ Q IZ h=>?_⟩
 obtain⟨hs,hc,hf,hdv,ht⟩:=h;refine Vd (thn ((Y4 (pos:=p1) (i:=i) hN hv hd hcd).run pinsZ sZ σZ HZ (fun v H1=>v=.ref f∧H1=HZ) IZ ⟨.ref f,hs,rfl,rfl⟩) fun u s1 ⟨v,H1,I1,r1,q1⟩=>?_)
 obtain⟨ev,eH⟩:=q1;subst ev;rw[eH]at I1;obtain rfl:u=Value.ref f:=r1;have of1:=exq_at I1.hok hf;refine PySem.W.callWith_F0 ⟨_,_,_,_,of1⟩ ?_
 have un:Un (frs X.stack) [] H HZ s.heap s1.heap:=I1.base;have cf1:=cf.un un fun _ _ _ z=>by cases z
 obtain⟨⟨oc,vs,t,hoc,hdc,hvc⟩,_,_⟩:=I1.hok c' _ hc
 have go:∀binds:List (Str×Value),(∀y∈binds,r.scope.names.lookup y.1=some .local)→wpAny (model X.prog X.w) (X.A.deeper (envOfC qg sg s.heap.objs.size g cdg)).in1 (newFunctionEnv r.scope mainGlobals (cloFrom X0.env.cells r.scope.names []) binds (X0.env.qual++("<lambda>" : Str) ++ ".<locals>.") (some f) (.ref c') none builtinsNs)
   (fun env s₂=>s₂.heap.NoLimit∧codeAny (model X.prog X.w) (X.A.deeper (envOfC qg sg s.heap.objs.size g cdg)) (.expr r.body env) (CR (L2.CX X.prog X.w) (envOfC qg sg s.heap.objs.size g cdg::X.stack) X.prog X.w HZ s1 Q E) s₂)
   (fun e s'=>CR (L2.CX X.prog X.w) (envOfC qg sg s.heap.objs.size g cdg::X.stack) X.prog X.w HZ s1 Q E (.error e) s') s1:=by
  intro binds hbl;refine wpAny_newFunctionEnv (fun y hy=>(L.own y hy).1) hbl (fun h₁ hns hsb=>⟨I1.nolimit.fresh _ hsb,?_⟩) L.kind
  show codeAny _ _ (.expr r.body (lamEnv X0 r.scope s1.heap.objs.size f c')) _ _;have kp:∀b o,s1.heap.get? b=some o→h₁.get? b=some o:=fun b o e=>hsb.extBut b o (VA (JB e)) (Jo _ e)
  have J:Inv (lamCx X0 (X.A.deeper (envOfC qg sg s.heap.objs.size g cdg)) (envOfC qg sg s.heap.objs.size g cdg::X.stack) s1 HZ E r.scope f c') [] σ HZ { s1 with heap:=h₁,toks:=s1.toks+binds.length } :=
   zKz cf1 L (by rw[e1,e2,e3,e4,e5];exact I1.env0) hr.hd hns kp
  have hbd:=(hbody _ _ s1 HZ (hr.deeper _)).run [] _ _ HZ Q J ht;refine PySem.W.kla_codeExpr ?_
  rw[←e1,←e2];refine V5 hbd (fun v s' hq=>?_) fun e s' hq=>?_
  ·obtain⟨w',H',J',rv,q⟩:=hq;have os:=J'.os;exact⟨w',H',J'.os,J'.bare,J'.base,by have:=J'.hok;exact this,rv,q⟩
  ·exact hq
 have rc:codeAny (model X.prog X.w) (X.A.deeper (envOfC qg sg s.heap.objs.size g cdg)) (.call (.ref f) ⟨[],[]⟩) (CR (L2.CX X.prog X.w) (envOfC qg sg s.heap.objs.size g cdg::X.stack) X.prog X.w HZ s1 Q E) s1:=by
  refine PySem.W.kla_callFunE hr.depth of1 rfl L.co L.gen rfl ⟨c',oc,vs,t,rfl,hoc,hdc,hvc⟩ ?_
  rcases hdv with⟨hd,rfl⟩|⟨hd,T,rfl,hT⟩
  ·rw[hb.1 hd];exact Vt (go [] fun y hy=>absurd hy (by simp))
  ·obtain⟨pa,hpa,hk⟩:=hb.2 hd;obtain⟨kk,hk1,hk2⟩:=hk (X0.env.qual++("<lambda>" : Str)) (cloFrom X0.env.cells r.scope.names []) pm (.ref c') ct (.ref T);rw[hk1];obtain⟨_,its,rits,o,ho,_,n,hd2⟩:=I1.hok T _ hT;refine JG (wpAny_seqItems ho hd2 ?_)
   obtain⟨v0,hv0⟩:∃v0,its.toArray = #[v0]:=by
    cases rits with
    |cons r1 r2=>cases r2;exact⟨_,rfl⟩
   rw[hv0,hk2]
   exact Vt (go _ fun y hy=>by
    simp only[Jr,VL,bv]at hy;subst hy
    exact hpa)
 have hx:Passes (L2.CX X.prog X.w) ((cxOf CXg X.prog X.w X.K X.mg X.base Ng qg sg g cdg X.A X.stack s H Eg).tr pn xe) E:=passes_call tk hW;refine YK (YF rc fun r s' hq=>?_)
 cases r with
 |error e=>exact hx pinsZ σZ HZ s1 e s' I1 hq
 |ok fl =>
  cases fl with
  |ret u=>exact I1.after hq
  |next=>exact False.elim hq
  |brk=>exact False.elim hq
  |cont=>exact False.elim hq
end
end
section
open LamX (CodeO ExtN TabB lamCx lamEnv GivesTo)
def zMK(tb:List (Nat×Str×Option Str)) (J:Nat) (ms:List EM) (m:EM):EM:=fun σ st=>(m σ st).bind fun w st1=>match w with
 | .p (.lam j i)=>if j=J then(match ms[i]? with|some b=>zDB tb b σ st1|none=>.no)else .no
 |_=>.no
section
variable {K:PySem.W.Frag}{cl:Cls}{X:Cx}{Wx:WX}
def zGf(K:PySem.W.Frag) (cl:Cls) (X:Cx) (k i:Nat) (b:EM):Prop:=∃r,cl.lm[i]?=some r∧zIt X.N X.env.scope r.scope=true∧zRr r∧∀(A:Around) (outer:List Env) (s:Shared) (H:Hp) (E:XK) (f c':Addr),GX K (lamCx X A outer s H E r.scope f c')→Takes (lamCx X A outer s H E r.scope f c') (WE E) →
 Room k (A.deeper (lamEnv X r.scope s.heap.objs.size f c'))→SE K cl (lamCx X A outer s H E r.scope f c') (WE E) b r.body
def zHO(K:PySem.W.Frag) (cl:Cls) (X:Cx) (k:Nat):Nat→List EM→Prop
 |_,[]=>True
 |i,b::ms=>zGf K cl X k i b∧zHO K cl X k (i+1) ms
theorem zHO.get{k:Nat}:∀ {ms:List EM}{i0 i:Nat}{b:EM},zHO K cl X k i0 ms→ms[i]?=some b→zGf K cl X k (i0+i) b
 |[],_,_,_,_,e=>by simp at e
 |b0::ms,i0,0,b,h,e=>by
  simp at e;subst e;exact h.1
 |b0::ms,i0,i+1,b,h,e=>by
  have:=zHO.get (i:=i) h.2 (by simpa using e)
  rw[show i0+(i+1)=i0+1+i by omega]
  exact this
theorem zNp{tb:List (Nat×Str×Option Str)}{CS CM CN:Addr}{E0:En}{ρ:List Addr}{G:Hp}{m:EM}{σ:Sg}{st:List Cell}{Q:VK}{Z:ZX} (ok:∀q∈tb,TryC K cl CS CM CN q.1 q.2.1 q.2.2) (h:Aft (bs K cl E0) (bs K cl E0).RW ρ G (zDB tb m σ st) Q Z) :
  Aft (bs K cl E0) (bs K cl E0).RW ρ G (m σ st) (fun v H'=>([V.str "value",v]:List V).length≤sizeLine∧∀p,H' p=none→Q (.ref p) (upd H' p (.tup [.str "value",v]))) (fun c d H'=>EchT K CS CM CN Q c d H'):=by
 have two:∀x y:V,([x,y]:List V).length≤sizeLine:=fun x y=>by rw[Vm];show 2≤_;omega
 unfold zDB at h;cases e:m σ st with
 |no=>rw[e]at h;exact h
 |ok w st1 =>
  rw[e]at h;cases w with
  |r i=>exact h.elim
  |p x =>
   intro ρ' G' H' b p1 s1 R' u;refine⟨two _ _,fun a ha=>?_⟩
   have h2:Aft (bs K cl E0) (bs K cl E0).RW ρ G (.ok (.p (.tup [.str "value",x])) st1) Q _:=h;refine(Aft.mono p1 s1 h2).newP R' ha (.tup (.inl (.inl Ju)) (.cons (.str _) (.cons ?_ .nil)));exact RP.mono (Sub.new (R'.gnone ha)) u
 |exc y st1 =>
  rw[e]at h;intro ρ' G' H' cls d p1 s1 R' u;have h2:Aft (bs K cl E0) (bs K cl E0).RW ρ G (match tryE tb y with|some p=>.ok (.p p) st1|none=>.no) Q _:=h
  obtain⟨C,ns,dd,vs,k1,k2,k3,k4,k5,k6⟩:=u;subst k2;subst k3
  have endT:∀(T:Str) (py:P) (v:V),RP K cl G' py v→Aft (bs K cl E0) (bs K cl E0).RW ρ G (.ok (.p (.tup [.str T,py])) st1) Q Z→∀H2,(∀b o,H' b=some o→H2 b=some o)→∀p,H2 p=none→Q (.ref p) (upd H2 p (.tup [.str T,v])):=by
   intro T py v rv h3 H2 ext p hp;have R2:(bs K cl E0).Rel ρ' G' st1 H2:=R'.grown (LamX.ExtN.of ext) fun q hq=>(R'.tabs q hq).ext ext
   refine(Aft.mono p1 s1 h3).newP R2 hp (.tup (.inl (.inl Ju)) (.cons (.str _) (.cons ?_ .nil)));exact RP.mono (Sub.new (R2.gnone hp)) rv
  unfold tryE at h2;cases el:tb.lookup y.c with
  |none=>rw[el]at h2;exact h2.elim
  |some q =>
   obtain⟨T,f⟩:=q;rw[el]at h2;obtain⟨C',c1,c2,c3,c4,c5⟩:=(ok _ (zGt el)).ex;rw[k1]at c1;obtain⟨rfl,rfl⟩:=bu (Jd c1);cases f with
   |none =>
    dsimp only at h2;split at h2
    case h_2=>exact h2.elim
    rename_i T' eT
    split at eT
    case h_2=>cases eT
    rename_i T2 el2
    split at eT
    case isFalse=>cases eT
    rename_i hT2
    subst hT2;cases eT;rw[el2]at k6;cases k6 with
    |cons r1 r2 =>
     cases r1;cases r2;refine⟨C,dd,_,T,.non,rfl,rfl,c2,c3,k4,zMb (y:=.non) (.inl ⟨rfl,rfl⟩),?_,endT T .non .non .non h2⟩;rcases c5 with⟨z1,z2⟩|⟨z1,z2,z3,_⟩
     ·exact .inl ⟨z1,by rw[z2]⟩
     ·exact .inr ⟨z1,z2,z3,rfl⟩
   |some f =>
    dsimp only at h2;split at h2
    case h_2=>exact h2.elim
    rename_i T' eT
    split at eT
    case h_2=>cases eT
    rename_i py T2 el2
    split at eT
    case isFalse=>cases eT
    rename_i hT2
    subst hT2;cases eT;rw[el2]at k6;obtain⟨nt,hf⟩:=c4 f rfl;cases k6 with
    |@cons _ v _ _ r1 r2 =>
     cases r2 with
     |cons r3 r4 =>
      cases r3;cases r4;refine⟨C,dd,_,T,v,rfl,rfl,c2,c3,k4,zMb (y:=v) (.inr ⟨f,rfl,nt,rfl⟩),?_,endT T py v r1 h2⟩;rcases c5 with⟨z1,z2⟩|⟨z1,z2,z3,z4⟩
      ·refine .inl ⟨z1,?_⟩;rw[z2];exact⟨hf,by simp[nsOf,JE]⟩
      ·cases z4
theorem zKW{X0:Cx}{tb:List (Nat×Str×Option Str)}{x:Str}{g CS CM CN:Addr}{k J i:Nat}{b:EM}{E0:En}{ρ:List Addr}{G:Hp}{σ:Sg}{st:List Cell}{τ0 τ:L2.St}{H:Hp}{Q:VK}{Z:ZX}{pins:List (Addr×Obj)}{s:Shared}{v:V}{u:Value} (D:LamD X.prog X.w X.K X.mg X.base x g CS CM CN)
  (sm:X0.prog=X.prog∧X0.w=X.w∧X0.K=X.K∧X0.mg=X.mg∧X0.base=X.base) (ok:∀q∈tb,TryC X.K cl CS CM CN q.1 q.2.1 q.2.2) (gx:GX X.K X0) (hr:Room (k+2) X.A) (hf:cl.fr[J]?=some (X0.env.qual++("<lambda>" : Str),X0.env.cells)) (hb:zGf X.K cl X0 k i b)
  (I:Inv X pins τ H s) (cf:CFc X0.N X0.env.scope X0.env.cells τ0 s.heap H) (R:(bs X.K cl E0).Rel ρ G st H) (S:RS X.K cl ρ G σ τ0) (u1:RP X.K cl G (.lam J i) v) (rv:RelV v u) (h:Aft (bs X.K cl E0) (bs X.K cl E0).RW ρ G (zDB tb b σ st) Q Z) :
  wpAny (model X.prog X.w) X.A (call (.ref g) [u]) (EP X pins τ Q) X.xe s:=by
 obtain⟨oc,od,osl,pg,bg,sg,dV,kV,doc,pm,cdv,ct,an,Ng,a,lk,hcg,hbd,Sg,hNg,hva,hd,hcd,hG⟩:=D.ex;obtain⟨r,hlm,hL,hbn,hbody⟩:=hb;cases u1 with
 |@lam f c' _ _ r2 q cs pm2 ct2 dV2 q1 q2 q3 q4 q5 =>
 rw[hlm]at q1;cases q1;rw[hf]at q2;cases q2;obtain rfl:u=Value.ref f:=rv;have L:=zKS hL
 have rc:codeAny (model X.prog X.w) X.A (.call (.ref g) ⟨[.ref f],[]⟩) (CR C8.CX0 X.stack X.prog X.w H s Q C8.E0) s:=by
  refine LamX.run_ofS (N:=Ng) (ps:=[a]) (us:=[.ref f]) (vs:=[.ref f]) lk hcg Sg hr I.env0 (hbd s [.ref f] I.kIn rfl) (.cons rfl .nil) rfl fun hr'=>?_
  obtain⟨t',ht',hq'⟩:=hG X rfl rfl rfl rfl rfl (hr.mono ∅) (X0.env.qual++("<lambda>" : Str)) f c' s H Q
   (fun E H' Q'=>H' f=some (exq f (lamO r (X0.env.qual++("<lambda>" : Str)) (cloFrom X0.env.cells r.scope.names []) pm2 (.ref c') ct2 dV2))∧DflAt r dV2 H'∧∀(A:Around) (outer:List Env) (s:Shared) (H0:Hp),Room k (A.deeper (lamEnv X0 r.scope s.heap.objs.size f c'))→Y.T (lamCx X0 A outer s H0 E r.scope f c') r.body τ0 H' Q')
   (fun W pn xe E p1 p2 tk hW=>zP4 (i:=0) (k:=k) (tb:=fun σ H Q=>∀(A:Around) (outer:List Env) (s:Shared) (H0:Hp),Room k (A.deeper (lamEnv X0 r.scope s.heap.objs.size f c'))→Y.T (lamCx X0 A outer s H0 E r.scope f c') r.body σ H Q) sm rfl cf L hbn tk hW hr'
    (fun A outer s H hr2=>⟨fun pins s' σ' H' Q' I h'=>h' A outer s H hr2 pins s' I⟩) hNg hva hd hcd)
   (R.sub _ _ q4)
   ⟨R.sub _ _ q3,q5.elim .inl fun⟨h1,T,h2,h3⟩=>.inr ⟨h1,T,h2,R.sub _ _ h3⟩,fun A outer s2 H0 hr2=>(hbody A outer s2 H0 _ f c' (gx_lam gx hr2) tk_lam hr2).run E0 ρ G σ st τ0 H _ R S (zNp ok h)⟩
  exact⟨t',ht'.nox,hq'⟩
 refine YK (YF rc fun r s2 hq=>?_)
 cases r with
 |error e=>exact(show False from hq).elim
 |ok fl =>
  cases fl with
  |ret u=>exact I.after hq
  |next=>exact False.elim hq
  |brk=>exact False.elim hq
  |cont=>exact False.elim hq
theorem zRD{tb:List (Nat×Str×Option Str)}{x:Str}{g CS CM CN:Addr}{k J:Nat}{ms:List EM}{m:EM}{e:Expr}{p pos:Pos} (D:LamD X.prog X.w X.K X.mg X.base x g CS CM CN) (ok:∀q∈tb,TryC X.K cl CS CM CN q.1 q.2.1 q.2.2) (gx:GX K X) (hr:Room (k+2) X.A)
  (hg:Gl X x) (hm:X.mg x=some (.ref g)) (hf:cl.fr[J]?=some (X.env.qual++("<lambda>" : Str),X.env.cells)) (hb:zHO K cl X k 0 ms) (he:SE K cl X Wx m e)
  (hdb:(x==("__debug__" : Str))=false) (hst:starEach [e] X.env=(false,eval e X.env)::starEach [] X.env:=by rfl):SE K cl X Wx (zMK tb J ms m) (.Call (.Name x p) [e] [] pos):=by
 have hK:=gx.hK;subst hK;refine⟨fun E0 ρ G σ st τ H Q R S h pins s I=>?_⟩
 refine Vd (bA I hg hm ?_ hdb);refine VB (h₀:=X.base) I.ok.mod.kin D.kp ?_ (by rw[hst]) (by rfl)
 rw[hst];show wpAny _ _ (spliced ((false,eval e X.env)::backTo pos (starEach [] X.env))) _ _ _;refine VP ?_
 have hT:=he.run E0 ρ G σ st τ H (fun v H1=>∃w st1 ρ1 G1,ρ <+: ρ1∧Sub G G1∧(bs X.K cl E0).Rel ρ1 G1 st1 H1∧RW X.K cl ρ1 G1 w v∧Aft (bs X.K cl E0) (bs X.K cl E0).RW ρ1 G1 (match w with
   | .p (.lam j i)=>if j=J then(match ms[i]? with|some b=>zDB tb b σ st1|none=>.no)else .no
   |_=>.no) Q (fun c d H'=>Wx c d τ H')) R S (Aft.seq h fun w st1 ρ1 G1 H1 v _ p1 s1 R1 u1 h1=>⟨w,st1,ρ1,G1,p1,s1,R1,u1,h1⟩)
 refine thn (hT pins _ I) fun u s1 hv=>?_
 obtain⟨v,H1,I1,rv,w,st1,ρ1,G1,p1,s1',R1,u1,h1⟩:=hv;refine Yh ⟨I1.kIn,?_⟩;split at h1
 case h_2=>exact h1.elim
 rename_i j i
 split at h1
 case isFalse=>exact h1.elim
 rename_i hj
 subst hj;split at h1
 case h_2=>exact h1.elim
 rename_i b hbi
 have hb1:=hb.get hbi;rw[VQ]at hb1;exact zKW D ⟨rfl,rfl,rfl,rfl,rfl⟩ ok gx hr hf hb1 I1 (Inv.cfc I1) R1 (S.mono p1 s1') u1 rv h1
end
end
section
open LamX (CodeO ExtN TabB lamCx lamEnv GivesTo)
theorem lamV{K:PySem.W.Frag}{cl:Cls}{X:Cx}{Wx:WX}{j i:Nat}{r:LamR}{c Pt:Addr}{pos:Pos} (gx:GX K X) (hr:cl.lm[i]?=some r) (hf:cl.fr[j]?=some (X.env.qual++("<lambda>" : Str),X.env.cells)) (TB:TabB X.base X.mg c Pt) (hcode:X.env.code=.ref c) (hT:cl.tb=[(Pt,X.env.qual++("<lambda>" : Str))])
  (L:zIt X.N X.env.scope r.scope=true) (hdef:DefOk r X.env):SE K cl X Wx (mLam j i) (.Lambda r.params r.body r.scope pos) :=
 se_lam gx hr hf TB hcode (by rw[hT];simp) (fun p hp _=>by rw[hT]at hp;simp at hp;rw[hp]) L hdef
def spL(K:PySem.W.Frag) (T:List (Addr×Str)) (F:FM):Sp:=fun vs H Q E=>∃(a:Addr) (ns:List Int) (st:List Cell),vs=[.ref a]∧SqL K H a (ns.map V.int)∧(∀p∈T,H p.1=some (.tbl #[]))∧F [.p (.scr ns)] []=.ok (.p (.bl true)) st∧∀H',Q (.bl true) H'
theorem zQk{K:PySem.W.Frag}{cl:Cls}{T:List (Addr×Str)}{F:FM}{vs:List V}{H:Hp}{Q:VK}{E:XK} (hT:cl.tb=T) (h:spL K T F vs H Q E):spF K cl F vs H Q E:=by
 obtain⟨a,ns,st,rfl,hS,ht,hp,hQ⟩:=h;refine⟨[],strip H,[],[.p (.scr ns)],⟨rfl,.nil,fun i c a h=>by simp at h,fun i c a h=>by simp at h,fun a o e=>(zEa e).1,fun a u e _=>(zEa e).1,fun i a _ h=>by simp at h,Jq _,fun a o e=>.inl e,fun a u e=>(zEa e).2,fun a u e=>(zEa e).2,fun q hq=>?_⟩,.cons (.scr (zOm hS)) .nil,?_⟩
 ·rw[hT]at hq;exact TabG.nil (ht q hq)
 ·rw[hp];intro ρ' G' H' b p s R u;cases u;exact hQ H'
end
theorem zRo{P:Program}{w:World}{K:PySem.W.Frag}{mg:Str→Option Value}{base:Heap}{N:List Str}{x qual ps:Str}{params:Arguments}{body:List Stmt}{scope:Scope}{p:Str×Option Str}{fd:FuncData}{k:Nat}{m:SMm}{T:List (Addr×Str)} (c0:List (Str×List (Str×Addr))→Cls)
  (F:FunD K x qual params body scope [] [] (He.fAd K p) fd) (S:FnScope N [ps] scope) (hT:∀fr,(c0 fr).tb=T)
  (hb:∀(A:Around) (outer:List Env) (s:Shared) (H:Hp) (E:XK),GX K (cxD P w K mg base N qual scope (He.fAd K p) (.ref (He.codeOf K p)) A outer s H E)→Room k (A.deeper (envOfC qual scope s.heap.objs.size (He.fAd K p) (.ref (He.codeOf K p)))) →
   SSs K (c0 [((cxD P w K mg base N qual scope (He.fAd K p) (.ref (He.codeOf K p)) A outer s H E).env.qual++("<lambda>" : Str),(cxD P w K mg base N qual scope (He.fAd K p) (.ref (He.codeOf K p)) A outer s H E).env.cells)]) (cxD P w K mg base N qual scope (He.fAd K p) (.ref (He.codeOf K p)) A outer s H E) WF m body) :
  FnOk P w K mg base CX0 (k+1) (He.fAd K p) fd [ps] (spL K T (runF 1 N.length m)):=by
 obtain⟨oc,od,dV,kV,doc,pm,an,cdv,ct,osl,rfl,lk,hcd,_,_⟩:=F.ex;obtain⟨c,rfl⟩:=He.codeIn_ref hcd;rw[He.codeOf_eq lk rfl]at hb;refine fn_of lk hcd S (fun vs H Q E h=>?_) fun A outer s H vs Q E hr h=>⟨TSs' (cxD P w K mg base N qual scope (He.fAd K p) (.ref c) A outer s H E) body,PSs.nox TSs'.pss,zPr S (hb A outer s H E (zRE S hr) hr) (zQk (hT _) h)⟩
 obtain⟨a,ns,st,rfl,_⟩:=h;rfl
theorem zMr{r:LamR} (h:r.dfl=false) (q:∀(q:Str) (clos:List (Str×Addr)) (pm cv ct:Value),bindArgs { PySem.W.kla_fn "<lambda>" q r.params r.body r.scope clos pm cv ct with defaults:=.none } ⟨[],[]⟩=pure []):zRr r:=⟨fun _=>q,fun e=>(by rw[h]at e;cases e)⟩
section
open LamX (CodeO ExtN TabB lamCx lamEnv GivesTo)
structure zQX (P:Program) (w:World) (K:PySem.W.Frag) (mg:Str→Option Value) (base:Heap) (x y:Str) (g gy:Addr):Prop where
 ex:∃(oc:Value) (od:Option Addr) (osl:Array (Option Value)) (pg:Arguments) (bg:List Stmt) (sg:Scope) (dV kV doc pm cdv ct:Value) (an:Option Addr) (Ng:List Str) (a:Str) (p1 p2 p3 p4 p5 p6:Pos) (j:Nat),
  K.lookup g=some ⟨oc,od,.func (PySem.W.fnOf x x pg bg sg dV kV doc pm an cdv ct),osl⟩∧PySem.W.codeIn K cdv x=true∧L2.Binds K (PySem.W.fnOf x x pg bg sg dV kV doc pm an cdv ct) [a] []∧FnScope Ng [a] sg∧Ng[0]?=some a∧Vis sg a∧(a==("__debug__" : Str))=false∧(a==("__classdict__" : Str))=false ∧
  bg=[.Return (some (.Subscript (.Call (.Name y p1) [.Name a p2] [] p3) (.Constant (.int 0) j p4) p5)) p6]∧sg.names.lookup y=some .globalImplicit∧mg y=some (.ref gy)∧(y==("__debug__" : Str))=false
 kp:PySem.W.keepIn K (.ref g)=true
def zE7(w:W) (st1:List Cell):Res W:=match w with
 | .p (.tup (x::_))=>.ok (.p x) st1
 |_=>.no
section
variable {K:PySem.W.Frag}{cl:Cls}{X:Cx}{Wx:WX}
theorem zLO{tb:List (Nat×Str×Option Str)}{b:EM}{σ:Sg}{st:List Cell}{B:Bs}{ρ:List Addr}{G:Hp}{Q:VK}{Z Z':ZX} (h:Aft B B.RW ρ G ((zDB tb b σ st).bind zE7) Q Z):Aft B B.RW ρ G ((zDB tb b σ st).bind zE7) Q Z':=by
 have ne:∀x st',(zDB tb b σ st).bind zE7≠.exc x st':=by
  intro x st' e;unfold zDB at e;split at e
  ·unfold Res.bind zE7 at e;dsimp only at e;cases e
  ·cases e
  ·split at e
   ·unfold Res.bind zE7 at e;dsimp only at e;split at e<;>cases e
   ·cases e
  ·cases e
 generalize (zDB tb b σ st).bind zE7=r at h ne;cases r with
 |ok w st1=>exact h
 |exc x st1=>exact absurd rfl (ne x st1)
 |no=>exact h
theorem zNh{X0:Cx}{tb:List (Nat×Str×Option Str)}{x y:Str}{g gy CS CM CN:Addr}{k J i:Nat}{b:EM}{E0:En}{ρ:List Addr}{G:Hp}{σ:Sg}{st:List Cell}{τ0 τ:L2.St}{H:Hp}{Q:VK}{Z:ZX}{pins:List (Addr×Obj)}{s:Shared}{v:V}{u:Value} (D:LamD X.prog X.w X.K X.mg X.base y gy CS CM CN) (D2:zQX X.prog X.w X.K X.mg X.base x y g gy)
  (sm:X0.prog=X.prog∧X0.w=X.w∧X0.K=X.K∧X0.mg=X.mg∧X0.base=X.base) (ok:∀q∈tb,TryC X.K cl CS CM CN q.1 q.2.1 q.2.2) (gx:GX X.K X0) (hr:Room (k+3) X.A) (hf:cl.fr[J]?=some (X0.env.qual++("<lambda>" : Str),X0.env.cells)) (hb:zGf X.K cl X0 k i b)
  (I:Inv X pins τ H s) (cf:CFc X0.N X0.env.scope X0.env.cells τ0 s.heap H) (R:(bs X.K cl E0).Rel ρ G st H) (S:RS X.K cl ρ G σ τ0) (u1:RP X.K cl G (.lam J i) v) (rv:RelV v u) (h:Aft (bs X.K cl E0) (bs X.K cl E0).RW ρ G ((zDB tb b σ st).bind zE7) Q Z) :
  wpAny (model X.prog X.w) X.A (call (.ref g) [u]) (EP X pins τ Q) X.xe s:=by
 obtain⟨oc,od,osl,pg,bg,sg,dV,kV,doc,pm,cdv,ct,an,Ng,a,p1,p2,p3,p4,p5,p6,j,lk,hcg,hbd,Sg,hNg,hva,hd,hcd,rfl,hgy,hmy,hdy⟩:=D2.ex;have hu:∃f,v=.ref f:=by cases u1;exact⟨_,rfl⟩
 obtain⟨f,rfl⟩:=hu;obtain rfl:u=Value.ref f:=rv
 have rc:codeAny (model X.prog X.w) X.A (.call (.ref g) ⟨[.ref f],[]⟩) (CR C8.CX0 X.stack X.prog X.w H s Q C8.E0) s:=by
  refine LamX.run_ofS (N:=Ng) (ps:=[a]) (us:=[.ref f]) (vs:=[.ref f]) lk hcg Sg hr I.env0 (hbd s [.ref f] I.kIn rfl) (.cons rfl .nil) rfl fun hr'=>?_
  have hc:PE (cxOf C8.CX0 X.prog X.w X.K X.mg X.base Ng x sg g cdv X.A X.stack s H C8.E0) (.Call (.Name y p1) [.Name a p2] [] p3)
    (fun σZ HZ Q=>σZ[0]?=some (some (.ref f))∧HZ=H∧Aft (bs X.K cl E0) (bs X.K cl E0).RW ρ G (zDB tb b σ st) Q (fun _ _ _=>False)):=by
   refine⟨fun pinsZ sZ σZ HZ Q IZ hz=>?_⟩
   obtain⟨h1,rfl,h3⟩:=hz;refine Vd (bA IZ hgy hmy ?_ hdy);refine VB (h₀:=X.base) IZ.ok.mod.kin D.kp ?_ (by rfl) (by rfl)
   show wpAny _ _ (spliced ((false,eval (.Name a p2) _)::backTo p3 (starEach [] _))) _ _ _;refine VP (thn ((Y4 (pos:=p2) (i:=0) hNg hva hd hcd).run pinsZ sZ σZ HZ (fun v H1=>v=.ref f∧H1=HZ) IZ ⟨.ref f,h1,rfl,rfl⟩) fun u s1 ⟨v,H1,I1,r1,q1⟩=>?_)
   obtain⟨rfl,rfl⟩:=q1;refine Yh ⟨I1.kIn,?_⟩;have un:Un (frs X.stack) [] H1 H1 s.heap s1.heap:=I1.base;exact zKW (X0:=X0) (X:=cxOf C8.CX0 X.prog X.w X.K X.mg X.base Ng x sg g cdv X.A X.stack s H1 C8.E0) (k:=k) D sm ok gx hr' hf hb I1 (cf.un un fun _ _ _ z=>by cases z) R S u1 r1 h3
  refine⟨_,YH (bF (pe_ix ix_tup hc pe_int (fun _ _=>rfl))),?_⟩
  refine⟨by unfold L2.start;rfl,rfl,?_⟩
  refine Aft.seq (zLO h) fun w st1 ρ1 G1 H1 v _ p1 s1 R1 w1 h1=>?_
  unfold zE7 at h1;split at h1
  case h_2=>exact h1.elim
  rename_i x0 l0
  cases w1 with
  |tup hs hl =>
   cases hl with
   |@cons _ v0 _ vs r0 rs =>
    exact⟨_,_,0,v0,rfl,rfl,R1.sub.sqT hs,(by unfold L2.atI L2.ixN;rw[Jm (!0),Jm (by simp)];rfl),h1.here R1 r0⟩
 refine YK (YF rc fun r s2 hq=>?_)
 cases r with
 |error e=>exact(show False from hq).elim
 |ok fl =>
  cases fl with
  |ret u=>exact I.after hq
  |next=>exact False.elim hq
  |brk=>exact False.elim hq
  |cont=>exact False.elim hq
end
end
section
open PySem.W (ksFn ksEnv)
theorem DefE.funD{K:PySem.W.Frag}{d:DefE} (e:fnE K (d.at_ K)=d.val) (c:d.okB K=true) (h:d.clo=[]):∃fd,FunD K d.name d.qual d.params d.body d.scope [] [] (d.at_ K) fd:=by
 obtain⟨oc,od,osl,clo,dV,kV,doc,pm,cdv,ct,an,k1,k2,k3,k4,k5,k6⟩:=DefE.ex e c;rw[h,List.map_eq_nil_iff]at k2;subst k2;exact⟨_,⟨oc,od,dV,kV,doc,pm,an,cdv,ct,osl,rfl,k1,k4,k5,k6⟩,k3⟩
theorem SaysE.def_{fa:List He.Fa}{fn:List He.DefD}{ts:List He.Tab}{tf:List He.Defn}{ex:PySem.W.Frag→Bool}{es:List DefE}{w:World}{h:Heap}{K:PySem.W.Frag} (c:SaysE fa fn ts tf ex es w h K) (i:Nat){d:DefE} (hd:es[i]?=some d):fnE K (d.at_ K)=d.val∧d.okB K=true:=by
 have z:=congrArg (fun l=>l[i]?) c.e
 simp only[Ji,hd]at z;exact⟨Jd z,Jp.mp c.ok d (Jn hd)⟩
theorem zNV{K:PySem.W.Frag}{C:Addr} (h:oexB K C=true):OexC K C:=by
 unfold oexB at h;simp only[Jj,JR]at h;obtain⟨⟨⟨⟨h1,h2⟩,h3⟩,h4⟩,h5⟩:=h;refine⟨?_,Yn h2,h3,h4,h5⟩;cases q:K.lookup C with
 |none=>rw[q]at h1;cases h1
 |some o =>
  rw[q]at h1;obtain⟨oc,od,dt,osl⟩:=o
  replace h1:oexD C oc dt osl.toList=true:=h1
  unfold oexD at h1;split at h1
  case h_2=>cases h1
  rename_i cd
  split at h1
  case h_2=>cases h1
  rename_i c bm k0 k1 k2 k3 n k5 hm hs
  simp only[Jj,JR,YM]at h1;obtain⟨⟨⟨⟨rfl,rfl⟩,g3⟩,g4⟩,g5⟩:=h1;obtain⟨c1,c2,c3,c4,c5,c6,c7,c8,c9,c10,c11⟩:=cd;dsimp only at hm g3 g4;subst hm g3 g4
  obtain rfl:osl = #[k0,k1,k2,k3,some (.builtin "ValueError.__new__"),k5]:=by
   obtain⟨l⟩:=osl;simp only at hs;rw[hs]
  exact⟨_,_,_,_,_,_,_,_,_,_,_,_,_,_,_,rfl,g5⟩
theorem zOn{K:PySem.W.Frag}{cc C:Addr} (h:zO6 K cc C=true):∃cl0 cd0 csl,K.lookup cc=some ⟨cl0,cd0,.cell (some (.ref C)),csl⟩:=by
 unfold zO6 at h;cases q:K.lookup cc with
 |none=>rw[q]at h;cases h
 |some o =>
  obtain⟨o1,o2,dt,o3⟩:=o;rw[q]at h
  replace h:zQa C dt=true:=h
  unfold zQa at h;split at h
  ·rw[Jv h];exact⟨_,_,_,rfl⟩
  ·cases h
theorem zNt{K:PySem.W.Frag}{a:Addr}{z:Str} (h:zOo K a z=true):∃o1 o2 vs o3 tf,K.lookup a=some ⟨o1,o2,.fields vs,o3⟩∧vs[2]?=some (.str z tf):=by
 unfold zOo at h;cases q:K.lookup a with
 |none=>rw[q]at h;cases h
 |some o =>
  obtain⟨o1,o2,dt,o3⟩:=o;rw[q]at h
  replace h:fileD z dt=true:=h
  cases dt with
  |fields vs =>
   replace h:strIs z vs[2]?=true:=h
   cases e:vs[2]? with
   |none=>rw[e]at h;cases h
   |some v =>
    rw[e]at h;cases v with
    |str y t =>
     have e2:z=y:=eq_of_beq h;subst e2;exact⟨_,_,vs,_,t,rfl,e⟩
    |_=>cases h
  |_=>cases h
section
variable {P:Program}{w:World}{K:PySem.W.Frag}{mg:Str→Option Value}{base:Heap}{cl:Cls}{x z:Str}{g:Option Str}
theorem zKo(pf:FileOf P z) (h:excB K x z g=true){d:DefE} (hat:d.at_=fun K=>He.ma K (He.ga K x) "__init__") (hn:d.name = "__init__") (hclo:d.clo=[("__class__" : Str)]) (e:fnE K (d.at_ K)=d.val) (c:d.okB K=true) (hsup:mg "super" = none)
  (hpar:∃ar,(d.params.posonlyargs++d.params.args).head?=some ar∧ar.arg=("self" : Str)) :
  ∃(cc cda:Addr) (fd:FuncData),SayF P K mg (He.ga K x) (He.ma K (He.ga K x) "__init__") cc cda "__init__" d.qual d.params d.body d.scope fd∧∃kV doc pm an cdv ct,fd=ksFn "__init__" d.qual d.params d.body d.scope .none kV doc pm an cdv ct cc:=by
 unfold excB at h;simp only[Jj,JR]at h;obtain⟨⟨⟨⟨⟨⟨⟨⟨⟨⟨h1,h2⟩,h3⟩,h4⟩,h5⟩,h6⟩,h7⟩,h8⟩,h9⟩,h10⟩,h11⟩:=h;obtain⟨oc,od,osl,clo,dV,kV,doc,pm,cdv,ct,an,k1,k2,k3,k4,k5,k6⟩:=DefE.ex e c;rw[hclo]at k2;rw[hat]at k1 k3
 obtain⟨q,rfl,eq⟩:∃q:Str×Addr,clo=[q]∧q.1=("__class__" : Str):=by
  cases clo with
  |nil=>cases k2
  |cons q l =>
   cases l with
   |nil=>exact⟨q,rfl,by simpa using k2⟩
   |cons _ _=>simp at k2
 obtain⟨cn,cc⟩:=q;dsimp only at eq;subst eq;have k1:K.lookup (He.ma K (He.ga K x) "__init__")=_:=k1;unfold cloOf at h7;rw[k1]at h7;obtain⟨cda,rfl⟩:=He.codeIn_ref k4;have h7:(zO6 K cc (He.ga K x)&&zOo K cda z)=true:=h7;rw[Jj]at h7;obtain⟨h13,h12⟩:=h7
 obtain rfl:dV=.none:=by
  rcases k5 with⟨_,q⟩|⟨q,_⟩
  ·exact q
  ·exact absurd rfl q
 refine⟨cc,cda,_,⟨zNV h1,⟨oc,od,.none,kV,doc,pm,an,ct,osl,rfl,?_⟩,k4,?_,hpar,?_,pf.top,hsup,Yn h8,h9,h10,Yn h11⟩,kV,doc,pm,an,.ref cda,ct,rfl⟩
 ·rw[k1,hn]
 ·exact zOn h13
 ·obtain⟨o1,o2,vs,o3,tf,e1,e2⟩:=zNt h12;exact⟨o1,o2,vs,o3,z,tf,e1,e2,pf.file⟩
end
end
section
open PySem.W (ksFn ksEnv)
section
variable {P:Program}{w:World}{K:PySem.W.Frag}{mg:Str→Option Value}{base:Heap}{cl:Cls}{x z:Str}{g:Option Str}
theorem zFR(h:excB K x z g=true):OexC K (He.ga K x)∧XfC K (He.ga K x)∧PySem.W.findIn K (.ref (He.ga K x)) "tag" = some none∧(∀f,g=some f→(f==("tag" : Str))=false∧PySem.W.findIn K (.ref (He.ga K x)) f=some none) ∧
  PySem.W.findIn K (.ref (He.ga K x)) "__init__" = some (some (.ref (He.ma K (He.ga K x) "__init__")))∧PySem.W.typeIn K (.ref (He.ma K (He.ga K x) "__init__"))=some (.type "function"):=by
 unfold excB at h;simp only[Jj,JR]at h;obtain⟨⟨⟨⟨⟨⟨⟨⟨⟨⟨h1,h2⟩,h3⟩,h4⟩,h5⟩,h6⟩,h7⟩,h8⟩,h9⟩,h10⟩,h11⟩:=h;refine⟨zNV h1,xfB_ok h2,Yn h3,fun f hf=>?_,Yn h5,h6⟩
 subst hf;have h4:(He.eqO (PySem.W.findIn K (.ref (He.ga K x)) f) (some none) && !(f==("tag" : Str)))=true:=h4;rw[Jj,YM]at h4;exact⟨h4.2,Yn h4.1⟩
abbrev zCq(m:Str) (j:Nat) (p0 p1 p2 p3 p4:Pos):Expr:=.Call (.Attribute (.Call (.Name "super" p0) [] [] p1) "__init__" p2) [.Constant (.str m) j p3] [] p4
def zPR(qual:Str) (scope:Scope) (m:Str) (j:Nat) (p0 p1 p2 p3 p4 p5:Pos):Prop:=∀(f cda cc:Addr),∃pl:Sem Bool,∀L,eval (zCq m j p0 p1 p2 p3 p4) (ksEnv qual scope L f (.ref cda) cc)=(do
   let ov ←attributeBase (.Call (.Name "super" p0) [] [] p1) "__init__" (ksEnv qual scope L f (.ref cda) cc) (eval (.Call (.Name "super" p0) [] [] p1) (ksEnv qual scope L f (.ref cda) cc))
   standAt p2.atName
   let (f',first) ←holding [ov] (getMethod ov "__init__" pl)
   callWith p4 f' first (backTo p4 (starEach [.Constant (.str m) j p3] (ksEnv qual scope L f (.ref cda) cc))) []) ∧
  interactive (ksEnv qual scope L f (.ref cda) cc)=false∧swapsWith (zCq m j p0 p1 p2 p3 p4) none p5.line (ksEnv qual scope L f (.ref cda) cc)=pure false
theorem zMy{c j j2:Nat}{T m:Str}{p0 p1 p2 p3 p4 p5 q1 q2 q3 q4:Pos}{qual:Str}{params:Arguments}{scope:Scope} (pf:FileOf P z) (h:excB K x z none=true) (hsup:mg "super" = none) (hC:cl[c]?=some (He.ga K x,[("tag" : Str)]))
  (dd:(⟨fun K=>He.ma K (He.ga K x) "__init__", "__init__",qual,params,[.Expr (zCq m j p0 p1 p2 p3 p4) p5,.Assign [.Attribute (.Name "self" q1) "tag" q2] (.Constant (.str T) j2 q3) q4],scope,[("__class__" : Str)]⟩:DefE).okB K=true)
  (de:fnE K (He.ma K (He.ga K x) "__init__")=(⟨fun K=>He.ma K (He.ga K x) "__init__", "__init__",qual,params,[.Expr (zCq m j p0 p1 p2 p3 p4) p5,.Assign [.Attribute (.Name "self" q1) "tag" q2] (.Constant (.str T) j2 q3) q4],scope,[("__class__" : Str)]⟩:DefE).val)
  (hpar:∃ar,(params.posonlyargs++params.args).head?=some ar∧ar.arg=("self" : Str)) (S:zJ9 ["self"] scope) (up:zPR qual scope m j p0 p1 p2 p3 p4 p5)
  (bd:∀(kV doc pm:Value) (an:Option Addr) (cdv ct:Value) (cc:Addr) (us:List Value),us.length=1→bindArgs (ksFn "__init__" qual params [.Expr (zCq m j p0 p1 p2 p3 p4) p5,.Assign [.Attribute (.Name "self" q1) "tag" q2] (.Constant (.str T) j2 q3) q4] scope .none kV doc pm an cdv ct cc) ⟨us,[]⟩=pure ([("self" : Str)].zip us))
  (hs:∀X:Cx,swapsWith (.Constant (.str T) j2 q3) (some (.Attribute (.Name "self" q1) "tag" q2)) q4.line X.env=pure false) :
  Exc0 P w K mg base cl 1 c (He.ga K x) T:=by
 obtain⟨cc,cda,fd,D,kV,doc,pm,an,cdv,ct,rfl⟩:=zKo (mg:=mg) pf h rfl rfl rfl de dd hsup hpar;obtain⟨e1,e2,e3,e4,e5,e6⟩:=zFR h;obtain⟨pl,hup⟩:=up (He.ma K (He.ga K x) "__init__") cda cc;refine⟨hC,e1,e3,_,_,e5,e6,zPw (k:=0) (pl:=pl) rfl D S (fun L=>(hup L).1) (fun L=>(hup L).2.1) (fun L=>(hup L).2.2) (fun A outer s H=>?_),.all fun us hl=>bd kV doc pm an cdv ct cc us hl⟩
 exact YH (ps_ost (Y4 (i:=0) rfl (.inl (S.par _ Jc)) ⋯ ⋯) bD (hs _))
theorem zQz{c j j2:Nat}{T m f pn:Str}{p0 p1 p2 p3 p4 p5 q1 q2 q3 q4 q5 q6 q7 q8:Pos}{qual:Str}{params:Arguments}{scope:Scope} (pf:FileOf P z) (h:excB K x z (some f)=true) (hsup:mg "super" = none) (hC:cl[c]?=some (He.ga K x,[f,("tag" : Str)]))
  (dd:(⟨fun K=>He.ma K (He.ga K x) "__init__", "__init__",qual,params,[.Expr (zCq m j p0 p1 p2 p3 p4) p5,.Assign [.Attribute (.Name "self" q1) "tag" q2] (.Constant (.str T) j2 q3) q4,.Assign [.Attribute (.Name "self" q5) f q6] (.Name pn q7) q8],scope,[("__class__" : Str)]⟩:DefE).okB K=true)
  (de:fnE K (He.ma K (He.ga K x) "__init__")=(⟨fun K=>He.ma K (He.ga K x) "__init__", "__init__",qual,params,[.Expr (zCq m j p0 p1 p2 p3 p4) p5,.Assign [.Attribute (.Name "self" q1) "tag" q2] (.Constant (.str T) j2 q3) q4,.Assign [.Attribute (.Name "self" q5) f q6] (.Name pn q7) q8],scope,[("__class__" : Str)]⟩:DefE).val)
  (hpar:∃ar,(params.posonlyargs++params.args).head?=some ar∧ar.arg=("self" : Str)) (S:zJ9 ["self",pn] scope) (up:zPR qual scope m j p0 p1 p2 p3 p4 p5) (d1:(pn==("__debug__" : Str))=false) (d2:(pn==("__classdict__" : Str))=false)
  (bd:∀(kV doc pm:Value) (an:Option Addr) (cdv ct:Value) (cc:Addr) (us:List Value),us.length=2→bindArgs (ksFn "__init__" qual params [.Expr (zCq m j p0 p1 p2 p3 p4) p5,.Assign [.Attribute (.Name "self" q1) "tag" q2] (.Constant (.str T) j2 q3) q4,.Assign [.Attribute (.Name "self" q5) f q6] (.Name pn q7) q8] scope .none kV doc pm an cdv ct cc) ⟨us,[]⟩=pure ([("self" : Str),pn].zip us))
  (hs:∀X:Cx,swapsWith (.Constant (.str T) j2 q3) (some (.Attribute (.Name "self" q1) "tag" q2)) q4.line X.env=pure false) (hs2:∀X:Cx,swapsWith (.Name pn q7) (some (.Attribute (.Name "self" q5) f q6)) q8.line X.env=pure false) :
  Exc1 P w K mg base cl 1 c (He.ga K x) T f pn:=by
 obtain⟨cc,cda,fd,D,kV,doc,pm,an,cdv,ct,rfl⟩:=zKo (mg:=mg) pf h rfl rfl rfl de dd hsup hpar;obtain⟨e1,e2,e3,e4,e5,e6⟩:=zFR h;obtain⟨pl,hup⟩:=up (He.ma K (He.ga K x) "__init__") cda cc;refine⟨hC,e1,e3,(e4 f rfl).2,_,_,e5,e6,zPw (k:=0) (pl:=pl) rfl D S (fun L=>(hup L).1) (fun L=>(hup L).2.1) (fun L=>(hup L).2.2) (fun A outer s H=>?_),.all fun us hl=>bd kV doc pm an cdv ct cc us hl⟩
 have v0:∀p,PE (ccx P w K mg base ["self",pn] qual scope (He.ma K (He.ga K x) "__init__") cc (.ref cda) A outer s H) (.Name "self" p) (tVar 0):=fun p=>Y4 (i:=0) rfl (.inl (S.par _ Jc)) ⋯ ⋯
 have v1:∀p,PE (ccx P w K mg base ["self",pn] qual scope (He.ma K (He.ga K x) "__init__") cc (.ref cda) A outer s H) (.Name pn p) (tVar 1):=fun p=>Y4 (i:=1) rfl (.inl (S.par _ (Jg _ Jc))) d1 d2
 exact pss_cons (ps_ost (v0 _) bD (hs _)) (YH (ps_ost (v0 _) (v1 _) (hs2 _)))
theorem zJG{c:Nat}{T:Str}{CS CM CN:Addr} (h:excB K x z g=true) (hC:cl[c]?=some (He.ga K x,nsOf g)) (h1:PySem.W.exmOne K (.ref (He.ga K x)) (.ref CS)=some true) (h2:zFj T=g):TryC K cl CS CM CN c T g:=by
 obtain⟨e1,e2,e3,e4,e5,e6⟩:=zFR h;exact⟨_,hC,e2,e3,e4,.inl ⟨.inl h1,h2⟩⟩
end
section
variable {K:PySem.W.Frag}{cl:Cls}{X:Cx}{Wx:WX}
theorem Xk.zero{P:Program}{w:World}{mg:Str→Option Value}{base:Heap}{N ps:List Str}{x qual:Str}{params:Arguments}{body:List Stmt}{scope:Scope}{f:Addr}{F':FM} (h:∀ws st,F' ws st=.no)
  (F:∃fd,FunD K x qual params body scope [] [] f fd) (bd:∀(kV doc pm:Value) (an:Option Addr) (cdv ct:Value) (us:List Value),us.length=ps.length→bindArgs (PySem.W.fnOf x qual params body scope .none kV doc pm an cdv ct) ⟨us,[]⟩=pure (ps.zip us)):Xk P w K mg base cl 0 f ps F':=by
 obtain⟨fd,F⟩:=F;refine⟨⟨fd,⟨fun vs H Q E q=>?_,fun A outer s H args us vs Q E hr he hb hv q=>?_⟩,F.bindsN bd⟩,F.kp⟩
 ·obtain⟨ρ0,G0,st0,ws,R,r,a⟩:=q;rw[h]at a;exact a.elim
 ·obtain⟨ρ0,G0,st0,ws,R,r,a⟩:=q;rw[h]at a;exact a.elim
structure Pk (P:Program) (w:World) (K:PySem.W.Frag) (mg:Str→Option Value) (base:Heap) (cl:Cls) (k:Nat) (C:Addr) (f:Str) (F:FM):Prop where
 ex:∃p g fd ps,PropOf K C f p g∧FnOk P w K mg base CX0 k g fd ps (spF K cl F)∧Binds K fd ps []
def zPD(c:Nat) (F:FM) (o:EM):EM:=fun σ st=>(o σ st).bind fun w st1=>if clsOf st1 w=some c then(zAP F [w] st1).nox else .no
theorem propK{C:Addr}{ns:List Str}{c k:Nat}{F:FM}{o:EM}{eo:Expr}{f:Str}{pos:Pos} (h:Pk X.prog X.w X.K X.mg X.base cl k C f F) (g:GX K X) (hr:Room (k+1) X.A) (hC:cl[c]?=some (C,ns)) (kc:L2.Cls K C) (ho:SE K cl X Wx o eo) (hb:attributeBase eo f X.env (eval eo X.env)=eval eo X.env) :
  SE K cl X Wx (zPD c F o) (.Attribute eo f pos):=by
 obtain⟨hK,_⟩:=g;subst hK;obtain⟨p,gf,fd,ps,h1,h2,h3⟩:=h.ex;refine⟨fun E0 ρ G σ st τ H Q R S q=>T.of (pe_prop (E:=L2.E0) T.pe kc h1 h2 hr h3 .nil (fun _ _ _ _ _ _ _ z=>z.elim) hb) ?_⟩
 refine ho.run E0 ρ G σ st τ H _ R S (Aft.seq q fun w st1 ρ1 G1 H1 v e1 p1 s1 R1 u1 h1=>?_)
 split at h1
 case isFalse=>exact h1.elim
 rename_i ec
 obtain⟨b,dx,vs,rfl,hH⟩:=zHv R1 u1 ec hC;exact⟨b,dx,_,rfl,hH,zEY R1 (.cons u1 .nil) (ws:=[w]) (vs:=[.ref b]) (Aft.noxZ h1)⟩
end
theorem zPA{K:PySem.W.Frag}{C:Addr}{f:Str} (h:zQK K C f=true):PropOf K C f (zBn K C f).1 (zBn K C f).2:=by
 unfold zQK at h;simp only[Jj,JR]at h;obtain⟨⟨⟨h1,h2⟩,h3⟩,h4⟩:=h;refine⟨Yn h1,Yn h2,h3,?_⟩;cases q:PySem.W.recIn K (zBn K C f).1 "property" with
 |none=>rw[q]at h4;cases h4
 |some l =>
  rw[q]at h4;cases l with
  |nil=>cases h4
  |cons u r =>
   cases u with
   |ref g =>
    have e:g=(zBn K C f).2:=Jv h4;rw[e];exact⟨_,rfl⟩
   |_=>cases h4
theorem Pk.of{P:Program}{w:World}{K:PySem.W.Frag}{mg:Str→Option Value}{base:Heap}{cl:Cls}{k:Nat}{C:Addr}{f:Str}{F:FM}{ps:List Str} (h:PropOf K C f (zBn K C f).1 (zBn K C f).2) (hF:Fk P w K mg base cl k (zBn K C f).2 ps F):Pk P w K mg base cl k C f F:=by
 obtain⟨fd,h1,h2⟩:=hF.ex;exact⟨_,_,fd,ps,h,h1,h2⟩
section
variable {K:PySem.W.Frag}{cl:Cls}{X:Cx}{Wx:WX}
theorem GX.tr(g:GX K X){pn:List (Addr×Obj)}{xe:Value→Shared→Prop}:GX K (X.tr pn xe):=⟨g.hK,g.hc,g.hN,g.hu,g.hh⟩
end
end
def sortI(l:List Int):List Int:=l.mergeSort fun a b=>decide (a≤b)
theorem sortI_perm(l:List Int):(sortI l).Perm l:=V4 _ _
def tupP(q:Int×Int):P:=.tup [.int q.1,.int q.2]
def pairsOf:List P→Option (List (Int×Int))
 |[]=>some []
 | .tup [.int i,.int j]::l=>if 0≤i∧i<1000∧0≤j∧j<1000 then(pairsOf l).map ((i,j) :: ·)else none
 |_=>none
def zPV(q:Int×Int):Prop:=0≤q.1∧q.1<1000∧0≤q.2∧q.2<1000
def cdP(q:Int×Int):Int:=q.1*1000+q.2
def zRx(l:List (Int×Int)):List (Int×Int):=l.mergeSort fun a b=>decide (cdP a≤cdP b)
section
variable {K:PySem.W.Frag}{cl:Cls}{X:Cx}{Wx:WX}{E0:En}{ρ ρ':List Addr}{G G':Hp}{σ:Sg}{τ:L2.St}{st:List Cell}{H:Hp}{D:Ends}
def srtL(l:List P):Option (List P):=match intsOf l with
 |some m=>some ((sortI m).map P.int)
 |none=>match pairsOf l with
  |some m=>if m.length<1000 then some ((zRx m).map tupP)else none
  |none=>none
def zEN(ws:List W) (st:List Cell):Res W:=match ws with
 |[.p (.tup l)]=>(match pairsOf l with
  |some m=>if m.length<1000 then .ok (.p (.lst ((zRx m).map tupP))) st else .no
  |none=>.no)
 |[w]=>(match listOf st w with
  |some l=>(match srtL l with
   |some m=>.ok (.p (.lst m)) st
   |none=>.no)
  |none=>.no)
 |_=>.no
end
section
variable {K:PySem.W.Frag}{cl:Cls}{X:Cx}{Wx:WX}{E0:En}{ρ ρ':List Addr}{G G':Hp}{σ:Sg}{τ:L2.St}{st:List Cell}{H:Hp}{D:Ends}
def zKN(x:W) (ws:List W) (st:List Cell):Res W:=match x,ws with
 | .p (.str a),[.p (.str b)]=>.ok (.p (.int (Txt.count a b))) st
 |_,_=>.no
theorem zMW:VMt K cl zKN (fun x xs H Q=>∃a b,x=.str a∧xs=[.str b]∧Q (.int (Txt.count a b)) H):=by
 intro E0 ρ G st H x v ws vs Q Z R rx rw' h;unfold zKN at h;split at h
 ·obtain⟨u,rfl,r⟩:=rw'.one;cases rx;cases r;exact⟨_,_,rfl,rfl,h.here R (RP.int _)⟩
 ·exact h.elim
def hasK(ks:List Key) (k:Key):Bool:=ks.any fun j=>decide (j=k)
theorem zJ6{α:Type}{k:Key}:∀ {ks:List Key}{vs:List α},ks.length=vs.length→((ks.zip vs).any fun kv=>decide (kv.1=k))=hasK ks k
 |[],[],_=>rfl
 |j::ks,v::vs,h=>by
  unfold hasK;rw[JU,Vp,Vp]
  have:=zJ6 (k:=k) (ks:=ks) (vs:=vs) (by simpa using h)
  unfold hasK at this;rw[this]
theorem zO2{k:Key}{ks:List Key}{vs:List V} (h:ks.length=vs.length):(valV (ks.zip vs) k).isSome=hasK ks k:=by
 rw[←valV_any,zJ6 h]
theorem zLQ(hu:X.A.units+1<cLine):OpR X (compareOp .NotIn) (fun y x H Q=>∃a o,x=.ref a∧DGet H a y o∧Q (.bl (!o.isSome)) H):=by
 intro pins s σ H y x u v Q I ry rx h;obtain⟨a,o,rfl,g,q⟩:=h;obtain rfl:v=Value.ref a:=rx;exact d_notIn hu I g ry fun s3 I3=>⟨.bl (!o.isSome),H,I3,rfl,q⟩
def zJi(st:List Cell):W→Option (List Key)
 | .p (.dk ks _)=>some ks
 | .r i=>(match st[i]? with
  |some (.dk ks _)=>some ks
  |_=>none)
 |_=>none
theorem zOe(R:(bs K cl E0).Rel ρ G st H){w:W}{v:V}{ks:List Key} (r:RW K cl ρ G w v) (e:zJi st w=some ks):∃a vs,v=.ref a∧H a=some (.dK (ks.zip vs))∧ks.length=vs.length:=by
 cases w with
 |p x =>
  cases r with
  |dk h z q=>cases e;exact⟨_,_,rfl,R.sub _ _ h,z⟩
  |_=>cases e
 |r i =>
  obtain⟨a,ha,rfl⟩:=r;have e:(match st[i]? with|some (.dk ks _)=>some ks|_=>none)=some ks:=e
  split at e
  ·rename_i ks l em
   cases e;obtain⟨b,hb,⟨vs,h1,z,h2⟩,_⟩:=R.at em;cases Jd (ha.symm.trans hb);exact⟨_,vs,rfl,h1,z⟩
  ·cases e
def vInK(neg:Bool) (x y:W) (st:List Cell):Res W:=match x with
 | .p z=>(match keyP z,zJi st y with
  |some k,some ks=>.ok (.p (.bl (hasK ks k != neg))) st
  |_,_=>.no)
 |_=>.no
theorem zLT:VOp K cl (vInK true) (fun y x H Q=>∃a o,x=.ref a∧DGet H a y o∧Q (.bl (!o.isSome)) H):=by
 intro E0 ρ G st H x y v u Q Z R rx ry h;unfold vInK at h;split at h
 ·split at h
  ·rename_i k ks ek eks
   obtain rfl:=zNd rx ek;obtain⟨a,vs,rfl,ha,z⟩:=zOe R ry eks;refine⟨a,_,rfl,DGet.k ha,?_⟩;rw[zO2 z];rw[show(hasK ks k != true) = !hasK ks k by simp]at h
   exact h.here R (RP.bl _)
  ·exact h.elim
 ·exact h.elim
theorem zLe{a b:EM}{pa pb:Expr}{pos:Pos} (g:GX K X) (ha:SE K cl X Wx a pa) (hb:SE K cl X Wx b pb) (hm:behindInMarks .NotIn pb=false:=by rfl):ST K cl X Wx (mTst (mBin (vInK true) a b)) (.Compare pa [.NotIn] [pb] pos):=by
 have hu:=g.hu;exact zEh (zLQ ∅) hm zLT ha hb
def dkPut(ks:List Key) (l:List W) (k:Key) (w:W):List Key×List W :=
 if hasK ks k=true then(ks,List.zipWith (fun j x=>if j=k then w else x) ks l)else(ks++[k],l++[w])
theorem RWs.dkGet{l:List W}{vs:List V} (q:RWs K cl ρ G l vs):∀ {ks:List Key}{k:Key}{x:W},Y.dkGet ks l k=some x→∃v,valV (ks.zip vs) k=some v∧RW K cl ρ G x v:=by
 induction q with
 |nil=>intro ks k x e;cases ks<;>(unfold Y.dkGet at e;simp at e)
 |@cons w v l vs r rs ih =>
  intro ks k x e;cases ks with
  |nil=>unfold Y.dkGet at e;simp at e
  |cons j ks =>
   unfold Y.dkGet at e;rw[JU,VR]at e
   by_cases hj:j=k
   ·rw[show decide ((j,w).1=k)=true from JO hj]at e
    simp at e;subst e;exact⟨v,by rw[JU];exact valV_pos hj,r⟩
   ·rw[show decide ((j,w).1=k)=false from JS hj]at e
    obtain⟨v',e1,r1⟩:=ih (ks:=ks) (k:=k) (x:=x) e;exact⟨v',by rw[JU,valV_neg hj];exact e1,r1⟩
end
def zBj(a:Str) (n:Nat):Str:=⟨(List.replicate n a.cps.toList).flatten.toArray⟩
theorem zIS:∀(n:Nat) (a acc:Array Nat),(List.replicate n a).foldl (· ++ ·) acc=acc++(List.replicate n a.toList).flatten.toArray
 |0,a,acc=>by simp
 |n+1,a,acc=>by
  rw[VH,List.foldl_cons,zIS n a,VH,Yi];apply Array.ext';simp
theorem zMZ(a:Str) (n:Nat):(⟨(List.replicate n a.cps).foldl (· ++ ·) #[]⟩:Str)=zBj a n:=by
 unfold zBj;rw[zIS];simp
theorem zBw(a:Str) (n:Nat):(zBj a n).length=n*a.length:=by
 show(List.replicate n a.cps.toList).flatten.toArray.size=n*a.cps.size;simp
theorem zJQ{a:Str}{n:Nat} (h:n=1∨a.length=0):zBj a n=a:=by
 unfold zBj;rcases h with rfl|h
 ·simp
 ·obtain⟨c⟩:=a;have h:c.size=0:=h
  have:c = #[]:=Array.eq_empty_of_size_eq_zero h
  subst this;simp
section
variable {K:PySem.W.Frag}{cl:Cls}{X:Cx}{Wx:WX}{E0:En}{ρ ρ':List Addr}{G G':Hp}{σ:Sg}{τ:L2.St}{st:List Cell}{H:Hp}{D:Ends}
def rMulS:R2:=fun x y H Q=>∃a n,x=.str a∧y=.int n∧0≤n∧n≤1000∧a.length≤1000∧Q (.str (zBj a n.toNat)) H
theorem zRi:OpR X (binaryOp .Mult) rMulS:=by
 intro pins s σ H x y v u Q I rx ry h;obtain⟨a,n,rfl,rfl,n0,n1,al,q⟩:=h;obtain⟨t,rfl⟩:=rx;obtain⟨t2,rfl⟩:=ry;refine P.mul_str ?_ (fun _ _=>?_) (fun _ _=>?_) ?_
 ·rw[JS ∅,JS ∅];rfl
 ·have hm:(a.length:Int)*n≤1000*1000:=Int.mul_le_mul ∅ n1 n0 (!0)
  have:=Int.le_ediv_of_mul_le (a:=(a.length:Int)) (b:=2^63-1) (c:=n) ∅ ∅
  omega
 ·have hm:=bq al (show n.toNat≤1000 by omega)
  unfold Builtin.Str.tooLong;rw[Vm];exact JS ∅
 ·split
  ·obtain rfl:n=0:=by omega
   exact⟨!0,.str (zBj a 0),H,I.tok _,⟨s.toks,by unfold zBj;simp;rfl⟩,q⟩
  ·split
   ·rename_i h1
    rw[VS,beq_iff_eq,beq_iff_eq]at h1;have e:=zJQ (a:=a) (n:=n.toNat) ∅;exact⟨.str (zBj a n.toNat),H,I,⟨t,by rw[e]⟩,q⟩
   ·rw[zMZ];have hm:=bq (show n.toNat≤1000 by omega) al
    exact⟨by rw[zBw,Vm];omega,.str (zBj a n.toNat),H,I.tok _,⟨_,rfl⟩,q⟩
def zCP(x y:W) (st:List Cell):Res W:=match x,y with
 | .p (.str a),.p (.int n)=>if 0≤n∧n≤1000∧a.length≤1000 then .ok (.p (.str (zBj a n.toNat))) st else .no
 |_,_=>.no
theorem zNu:VOp K cl zCP rMulS:=by
 intro E0 ρ G st H x y v u Q Z R rx ry h;unfold zCP at h;split at h
 ·cases rx;cases ry;split at h
  ·rename_i hn
   exact⟨_,_,rfl,rfl,hn.1,hn.2.1,hn.2.2,h.here R (RP.str _)⟩
  ·exact h.elim
 ·exact h.elim
theorem zDd{a b:EM}{pa pb:Expr}{pos:Pos} (ha:SE K cl X Wx a pa) (hb:SE K cl X Wx b pb):SE K cl X Wx (mBin zCP a b) (.BinOp pa .Mult pb pos):=zE5 zRi zNu ha hb
end
section
open LamX (CodeO ExtN TabB lamCx lamEnv GivesTo)
def tryO(tb:List (Nat×Str×Option Str)) (J:Nat) (ms:List EM) (e:EM) (σ0:Sg):EM:=fun σ st=>(e σ st).bind fun w st1=>match w with
 | .p (.lam j i)=>if j=J then(match ms[i]? with|some b=>zDB tb b σ0 st1|none=>.no)else .no
 |_=>.no
section
variable {K:PySem.W.Frag}{cl:Cls}{X:Cx}{Wx:WX}{E0:En}{ρ:List Addr}{G:Hp}{σ:Sg}{st:List Cell}{τ:L2.St}{H:Hp}
theorem RPs.rep{l:List P}{vs:List V} (q:RPs K cl G l vs):∀n:Nat,RPs K cl G (List.replicate n l).flatten (List.replicate n vs).flatten
 |0=>.nil
 |n+1=>by
  rw[VH,VH,Yi,Yi];exact q.append (RPs.rep q n)
def zJa(x y:W) (st:List Cell):Res W:=match x,y with
 | .p (.lst l),.p (.int n)=>if 0≤n∧n≤1000∧l.length≤1000 then .ok (.p (.lst (List.replicate n.toNat l).flatten)) st else .no
 |_,_=>.no
theorem zO4:VOp K cl zJa rRep:=by
 intro E0 ρ G st H x y v u Q Z R rx ry h;unfold zJa at h;split at h
 ·cases rx with
  |lst h1 q1 =>
   cases ry;split at h
   ·rename_i l n _ _ hn
    have hl:=q1.length;have hm:l.length*n.toNat≤1000*1000:=bq hn.2.2 ∅;exact⟨_,n,_,rfl,rfl,R.sub _ _ h1,∅,∅,by rw[←hl,Vm];omega,fun p hp=>h.newP R hp (.lst Ju ((RPs.rep q1 _).mono (Sub.new (R.gnone hp))))⟩
   ·exact h.elim
 ·exact h.elim
theorem zQI{a b:EM}{pa pb:Expr}{pos:Pos} (ha:SE K cl X Wx a pa) (hb:SE K cl X Wx b pb):SE K cl X Wx (mBin zJa a b) (.BinOp pa .Mult pb pos):=zE5 op_rep zO4 ha hb
end
end
section
variable {K:PySem.W.Frag}{cl:Cls}{X:Cx}{Wx:WX}{E0:En}{ρ:List Addr}{G:Hp}{σ:Sg}{st:List Cell}{τ:L2.St}{H:Hp}
def zI3(w:W) (ws:List W) (st:List Cell):Res W:=match(listOf st w).bind intsOf,ws with
 |some l,[.p (.int i)]=>match l.findIdx? (· == i)with
  |some j=>.ok (.p (.int (j:Nat))) st
  |none=>.no
 |_,_=>.no
end
section
variable {X:Cx}{CX:CXT}{k i:Nat}{C f:Addr}{fd:FuncData}{ps:List Str}{sp:Sp}{E:XK}{x:Str}{p pos:Pos}{e:Expr}{es:List Expr}{t:TA}{ds:List Value}{dvs:List V}
theorem zOt(M:Mk X.K C f) (F:FnOk X.prog X.w X.K X.mg X.base CX k f fd ps sp) (hr:Room (k+1) X.A) (hb:L2.Binds X.K fd ps ds) (hdv:Vals dvs ds) (hx:Passes CX X E) (ha:PA X (e::es) t)
  (hN:X.N[i]?=some x) (hv:Vis X.env.scope x) (hd:(x==("__debug__" : Str))=false) (hcd:(x==("__classdict__" : Str))=false)
  (he:starEach (e::es) X.env=(false,eval e X.env)::starEach es X.env:=by rfl) (hpl:(backTo pos (starEach es X.env)).any (·.1)=false:=by rfl) :
  PE X (.Call (.Name x p) (e::es) [] pos) (fun σ H Q=>σ[i]?=some (some (.ref C))∧tMake C sp dvs E t σ H Q):=by
 refine⟨fun pins s σ H Q I ⟨hs,h⟩=>?_⟩
 refine Vd (thn ((Y4 (pos:=p) (i:=i) hN hv hd hcd).run pins s σ H (fun v H1=>v=.ref C∧H1=H) I ⟨.ref C,hs,rfl,rfl⟩) fun u s1 ⟨v,H1,I1,r1,q1⟩=>?_)
 obtain⟨rfl,rfl⟩:=q1;obtain rfl:u=Value.ref C:=r1;refine VB (h₀:=X.base) I1.ok.mod.kin M.kp (thn (ha.run pos pins s1 σ H1 _ I1 h) fun us s2 ⟨vs,H2,I2,r,q⟩=>⟨I2.kIn,?_⟩) he hpl
 exact run_make M F hr hb hdv hx I2 r q
end
structure Dk (P:Program) (w:World) (K:PySem.W.Frag) (mg:Str→Option Value) (base:Heap) (cl:Cls) (k:Nat) (f:Addr) (ps:List Str) (F:FM) (dvs:List V):Prop where
 ex:∃fd ds,FnOk P w K mg base (L2.CX P w) k f fd ps (spF K cl F)∧L2.Binds K fd ps ds∧Vals dvs ds
section
variable {K:PySem.W.Frag}{cl:Cls}{X:Cx}{Wx:WX}{E0:En}{ρ ρ':List Addr}{G G':Hp}{σ:Sg}{τ:L2.St}{st:List Cell}{H:Hp}{D:Ends}
variable {f:Addr}{fd:FuncData}{ps:List Str}{F:FM}{a:AM}{k:Nat}{x m:Str}{p pos apos:Pos}{e:Expr}{es:List Expr}
theorem Xk.dk{P:Program}{w:World}{mg:Str→Option Value}{base:Heap} (h:Xk P w K mg base cl k f ps F):Dk P w K mg base cl k f ps F []:=by
 obtain⟨fd,h1,h2⟩:=h.ex;exact⟨fd,[],h1,h2,.nil⟩
def zN7(i c:Nat) (σ:Sg):Bool:=match σ[i]? with
 |some (some (.p (.cls d)))=>d==c
 |_=>false
def zKc(i c n:Nat) (F:FM) (a:AM):EM:=fun σ st=>if zN7 i c σ=true then(a σ st).bind fun ws st1=>zJq c n F ws st1 else .no
theorem makeLK{C:Addr}{ns:List Str}{c n i:Nat} (h:Xk X.prog X.w X.K X.mg X.base cl k f ps F) (g:GX K X) (tk:Takes X Wx) (wi:WI Wx) (hr:Room (k+1) X.A) (hC:cl[c]?=some (C,ns)) (hn:ns.length=n) (M:Mk K C f)
  (ha:SA K cl X Wx a (e::es)) (hN:X.N[i]?=some x) (hv:Vis X.env.scope x) (hd:(x==("__debug__" : Str))=false) (hcd:(x==("__classdict__" : Str))=false)
  (he:starEach (e::es) X.env=(false,eval e X.env)::starEach es X.env:=by rfl) (hpl:(backTo pos (starEach es X.env)).any (·.1)=false:=by rfl) :
  SE K cl X Wx (zKc i c n F a) (.Call (.Name x p) (e::es) [] pos):=by
 obtain⟨hK,_⟩:=g;subst hK;obtain⟨fd,h1,h2⟩:=h.ex;refine⟨fun E0 ρ G σ st τ H Q R S h=>T.of (zOt (E:=fun c d H'=>Wx c d τ H') M h1 hr h2 .nil (passes_call tk fun c d σ H q=>wi c d τ σ H q) TA'.pa hN hv hd hcd he hpl) ?_⟩
 unfold zKc at h;split at h
 case isFalse=>exact h.elim
 rename_i hi
 unfold zN7 at hi;split at hi
 case h_2=>cases hi
 rename_i d ed
 obtain rfl:d=c:=by simpa using hi
 obtain⟨v,e1,r1⟩:=S.2 i _ ed;have r1:RP X.K cl G (.cls d) v:=r1
 have hv:v=.ref C:=by
  cases r1 with
  |cls hc=>rw[hC]at hc;cases hc;rfl
 subst hv;refine⟨e1,?_⟩;refine ha.run E0 ρ G σ st τ H _ R S (Aft.seq h fun ws st1 ρ1 G1 H1 vs e1 p1 s1 R1 u1 h1=>?_)
 intro y dx hy hdx hne;rw[JK];exact zOi hC hn R1 u1 h1 hy hdx hne
def zFg(c:Nat) (F:FM) (dfl:List P) (a:AM):EM:=fun σ st=>(a σ st).bind fun ws st1=>zAP F (.p (.cls c)::(ws++dfl.map W.p)) st1
theorem zJm{C q:Addr}{ns:List Str}{c:Nat}{dvs:List V}{dfl:List P}{pl:Sem Bool}{p1:Pos} (h:Dk X.prog X.w X.K X.mg X.base cl k f ps F dvs) (hdf:∀G,RPs K cl G dfl dvs) (g:GX K X) (tk:Takes X Wx) (wi:WI Wx) (hr:Room k X.A) (hC:cl[c]?=some (C,ns))
  (r:ClX.CRead K C (.type "type")) (cm:ClX.CMet K C (.type "type") m q f) (hg:Gl X x) (hm:X.mg x=some (.ref C)) (hdb:(x==("__debug__" : Str))=false)
  (ha:SA K cl X Wx a (e::es))
  (hst:starEach (e::es) X.env=(false,eval e X.env)::starEach es X.env:=by rfl) (hpl:(backTo pos (starEach es X.env)).any (·.1)=false:=by rfl)
  (ht:eval (.Call (.Attribute (.Name x p1) m apos) (e::es) [] pos) X.env=(do
   let ov ←eval (.Name x p1) X.env
   standAt apos.atName
   let (f,first) ←holding [ov] (getMethod ov m pl)
   callWith pos f first (backTo pos (starEach (e::es) X.env)) (backToKw pos (keywordEach [] X.env))):=by rfl):SE K cl X Wx (zFg c F dfl a) (.Call (.Attribute (.Name x p1) m apos) (e::es) [] pos):=by
 obtain⟨hK,_⟩:=g;subst hK;obtain⟨fd,ds,h1,h2,h3⟩:=h.ex;refine⟨fun E0 ρ G σ st τ H Q R S h=>T.of (ClX.pe_cmeth (E:=fun c d H'=>Wx c d τ H') (pe_glob (v:=.ref C) hg hm rfl hdb) r cm (h1.raw h2 h3) hr (passes_call tk fun c d σ H q=>wi c d τ σ H q) TA'.pa hst hpl ht) ?_⟩
 refine⟨rfl,?_⟩;refine ha.run E0 ρ G σ st τ H _ R S (Aft.seq h fun ws st1 ρ1 G1 H1 vs e1 p1 s1 R1 u1 h1=>?_)
 exact zEY R1 (.cons (show RW X.K cl ρ1 G1 (.p (.cls c)) (.ref C)from RP.cls hC) (RWs.append u1 (.of_pures (hdf G1)))) h1
end
structure ClsM (K:PySem.W.Frag) (C:Addr) (m:Str):Prop where
 rd:ClX.CRead K C (.type "type")
 cm:ClX.CMet K C (.type "type") m (He.ma K C m) (He5.wf K C "classmethod" m)
theorem cmB_ok{K:PySem.W.Frag}{C:Addr}{m:Str} (h:cmB K C m=true):ClsM K C m:=by
 unfold cmB at h;simp only[Jj]at h;obtain⟨⟨⟨h1,h2⟩,h3⟩,h4⟩:=h;exact⟨⟨h1,Yn h2⟩,He5.cmet_of h3 h4⟩
structure XkW (Wk:FuncData→Prop) (P:Program) (w:World) (K:PySem.W.Frag) (mg:Str→Option Value) (base:Heap) (cl:Cls) (k:Nat) (f:Addr) (ps:List Str) (F:FM):Prop where
 ex:∃fd,FnOk P w K mg base (L2.CX P w) k f fd ps (spF K cl F)∧Wk fd
 kp:PySem.W.keepIn K (.ref f)=true
section
variable {K:PySem.W.Frag}{cl:Cls}{Wk:FuncData→Prop}{P:Program}{w:World}{mg:Str→Option Value}{base:Heap}{k:Nat}{f:Addr}{ps:List Str}{F:FM}{dvs:List V}{kws:List (Str×V)}
theorem XkW.of{N:List Str}{x qual:Str}{params:Arguments}{body:List Stmt}{scope:Scope}{m:SMm}
  (F:∃fd,FunD K x qual params body scope dvs kws f fd) (S:FnScope N ps scope) (hw:∀fd,FunD K x qual params body scope dvs kws f fd→Wk fd)
  (hb:∀(cd:Value) (A:Around) (outer:List Env) (s:Shared) (H:Hp) (E:XK),GX K (cxE P w K mg base N qual scope f cd A outer s H E)→Takes (cxE P w K mg base N qual scope f cd A outer s H E) (WE E)→Room k (A.deeper (envOfC qual scope s.heap.objs.size f cd))→SSs K cl (cxE P w K mg base N qual scope f cd A outer s H E) (WE E) m body) :
  XkW Wk P w K mg base cl (k+1) f ps (runX ps.length N.length m):=by
 obtain⟨fd,F⟩:=F;exact⟨⟨fd,zPq F S fun cd A outer s H E hr=>hb cd A outer s H E (zPc S hr) zPy hr,hw fd F⟩,F.kp⟩
theorem XkW.dk(h:XkW Wk P w K mg base cl k f ps F) (hw:∀fd,Wk fd→∃ds,Vals dvs ds∧L2.Binds K fd ps ds):Dk P w K mg base cl k f ps F dvs:=by
 obtain⟨fd,h1,h2⟩:=h.ex;obtain⟨ds,h3,h4⟩:=hw fd h2;exact⟨fd,ds,h1,h4,h3⟩
end
section
variable {K:PySem.W.Frag}{cl:Cls}{X:Cx}{Wx:WX}{E0:En}{ρ:List Addr}{G:Hp}{σ:Sg}{st:List Cell}{τ:L2.St}{H:Hp}
def zEv(w:W) (ws:List W) (st:List Cell):Res W:=match w,ws with
 | .p (.str a),[.p (.str b)]=>if 0≤Txt.find a b then .ok (.p (.int (Txt.find a b))) st else .no
 |_,_=>.no
theorem zMI(a b:Str) (h:0≤Txt.find a b):∃i rest,Builtin.Str.occurrences a b 0 a.length 1=i::rest∧Txt.find a b=(i:Nat):=by
 unfold Txt.find at h ⊢;cases e:Builtin.Str.occurrences a b 0 a.length 1 with
 |nil=>rw[e]at h;exact absurd h (!0)
 |cons i rest=>exact⟨i,rest,rfl,rfl⟩
theorem zHZ:VMt K cl zEv (fun x xs H Q=>∃a b i rest,x=.str a∧xs=[.str b]∧Builtin.Str.occurrences a b 0 a.length 1=i::rest∧Q (.int (i:Nat)) H):=by
 intro E0 ρ G st H x v ws vs Q Z R rx rw' h;unfold zEv at h;split at h
 ·obtain⟨u,rfl,r⟩:=rw'.one;cases rx;cases r;split at h
  ·rename_i a b hf
   obtain⟨i,rest,e1,e2⟩:=zMI _ _ hf;rw[e2]at h;exact⟨_,_,i,rest,rfl,rfl,e1,h.here R (RP.int _)⟩
  ·exact h.elim
 ·exact h.elim
end
section
variable {K:PySem.W.Frag}{cl:Cls}{X:Cx}{Wx:WX}{E0:En}{ρ ρ':List Addr}{G G':Hp}{σ:Sg}{τ:L2.St}{st:List Cell}{H H':Hp}{D:Ends}
def keyD:Key→P
 | .inl i=>.int i
 | .inr z=>.str z
end
section
variable {K:PySem.W.Frag}{cl:Cls}{X:Cx}{Wx:WX}{E0:En}{ρ:List Addr}{G:Hp}{σ:Sg}{st:List Cell}{τ:L2.St}{H:Hp}
theorem zGi{x:P}{k:NestedKey} (e:nkT x=some k):∃l,x=.tup l∧nkP x=some k∧k.depth≤8:=by
 unfold nkT at e;split at e
 ·split at e
  ·split at e
   ·rename_i e1 hd
    cases e;exact⟨_,rfl,e1,hd⟩
   ·cases e
  ·cases e
 ·cases e
end
section
open GenW
inductive GR where
 |ok (f:Fl) (σ:Sg) (st:List Cell) (ys:List P)|exc (x:Exn) (σ:Sg) (st:List Cell)|no
def GR.then(r:GR) (k:Sg→List Cell→List P→GR):GR:=match r with
 | .ok .nx σ st ys=>k σ st ys
 |r=>r
def SR.gr(r:SR) (ys:List P):GR:=match r with
 | .ok f σ st=>.ok f σ st ys
 | .exc x σ st=>.exc x σ st
 | .no=>.no
def Res.gto{α:Type} (r:Res α) (σ:Sg) (k:α→List Cell→GR):GR:=match r with
 | .ok a st=>k a st
 | .exc x st=>.exc x σ st
 | .no=>.no
def Pjk.pj:Pjk→P→Option P
 | .id,x=>some x
 | .fst,.tup [a,_]=>some a
 | .fst,_=>none
end
def isT:Res W→Bool
 | .ok (.p (.bl true)) []=>true
 |_=>false
section
open PySem.W
def zPI:PyData→Bool
 | .tuple (_::_)=>true
 |_=>false
def zRJ:PyData→Bool
 | .none=>false
 | .tuple _=>false
 |_=>true
def zMn(ds:List PyData):Bool:=ds.all (fun d=>ds.all fun e=>alike d e)&&((ds.all zPI||ds.all zRJ)&&ds.all fun d=>decide (d.depth≤8))
def encD(x:P):PyData:=(toD x).getD .none
def zNP(l:List P):Bool:=match toDs l with
 |some ds=>zMn ds
 |none=>false
def srtD(l:List P):List P:=l.mergeSort (dataLe false encD)
end
section
open PySem.W
def ZK.has(K:PySem.W.Frag) (H:Hp) (xs:List V):ZK→Prop
 | .L a=>SqL K H a xs
 | .T a=>SqT K H a xs
 | .S x=>xs=x.cps.toList.map fun c=>V.str ⟨#[c]⟩
end
end Y
namespace NS
open PySem.W Y
theorem zKi{α β:Type}{f:α→β}{l m:List β} (p:l.Perm m):∀ {L:List α},m=L.map f→∃L1:List α,L1.Perm L∧l=L1.map f:=by
 induction p with
 |nil=>intro L e;exact⟨[],by rw[List.map_eq_nil_iff.mp e.symm],rfl⟩
 |cons x p ih =>
  intro L e;cases L with
  |nil=>cases e
  |cons a L =>
   rw[Jk]at e;injection e with e1 e2
   obtain⟨L1,q,rfl⟩:=ih e2;exact⟨a::L1,q.cons a,by rw[Jk,e1]⟩
 |swap x y l =>
  intro L e
  match L,e with
  |[],e=>cases e
  |[_],e=>cases e
  |a::b::L,e =>
   rw[Jk,Jk]at e;injection e with e1 e2
   injection e2 with e2 e3
   exact⟨b::a::L,List.Perm.swap a b L,by rw[Jk,Jk,e1,e2,e3]⟩
 |trans p q ih1 ih2 =>
  intro L e;obtain⟨L1,p1,e1⟩:=ih2 e;obtain⟨L2,p2,e2⟩:=ih1 e1;exact⟨L2,p2.trans p1,e2⟩
mutual
theorem zMd:∀ {x y:P}{k:NestedKey},nkP x=some k→nkP y=some k→x=y
 | .non,y,k,e,e'=>by
  rw[nkP]at e;cases e;cases y<;>(try rfl)<;>simp[nkP]at e'
 | .int i,y,k,e,e'=>by
  rw[nkP]at e;cases e;cases y<;>simp[nkP]at e';rw[e']
 | .str z,y,k,e,e'=>by
  rw[nkP]at e;cases e;cases y<;>simp[nkP]at e';rw[e']
 | .tup l,y,k,e,e'=>by
  rw[nkP]at e;obtain⟨ks,e1,rfl⟩:=Vy.mp e;cases y with
  |tup m =>
   rw[nkP]at e';obtain⟨ks',e2,e3⟩:=Vy.mp e';injection e3 with e3
   subst e3;rw[zKr e1 e2]
  |_=>simp[nkP]at e'
theorem zKr:∀ {l m:List P}{ks:List NestedKey},nkPs l=some ks→nkPs m=some ks→l=m
 |[],m,ks,e,e'=>by
  rw[nkPs]at e;cases e;cases m with
  |nil=>rfl
  |cons y m =>
   rw[nkPs]at e';split at e'<;>simp at e'
 |x::l,m,ks,e,e'=>by
  rw[nkPs]at e;split at e
  ·rename_i k ks' e1 e2
   cases e;cases m with
   |nil=>rw[nkPs]at e';cases e'
   |cons y m =>
    rw[nkPs]at e';split at e'
    ·rename_i k2 ks2 f1 f2
     injection e' with e'
     injection e' with g1 g2
     subst g1 g2;rw[zMd e1 f1,zKr e2 f2]
    ·cases e'
  ·cases e
end
mutual
theorem zMx:∀ {x:P}{k:NestedKey},nkP x=some k→toD x=some k.data
 | .non,k,e=>by rw[nkP]at e;cases e;rw[toD,NestedKey.data]
 | .int i,k,e=>by rw[nkP]at e;cases e;rw[toD,NestedKey.data]
 | .str z,k,e=>by rw[nkP]at e;cases e;rw[toD,NestedKey.data]
 | .tup l,k,e=>by
  rw[nkP]at e;obtain⟨ks,e1,rfl⟩:=Vy.mp e;rw[toD,zNL e1,NestedKey.data]
theorem zNL:∀ {l:List P}{ks:List NestedKey},nkPs l=some ks→toDs l=some (NestedKey.datas ks)
 |[],ks,e=>by rw[nkPs]at e;cases e;rw[toDs,NestedKey.datas]
 |x::l,ks,e=>by
  rw[nkPs]at e;split at e
  ·rename_i k ks' e1 e2
   cases e;rw[toDs,zMx e1,zNL e2,NestedKey.datas]
  ·cases e
end
def nkOf(x:P):NestedKey:=(nkT x).getD .none
def ddK:List P→List P
 |[]=>[]
 |x::l=>if(ddK l).any (fun y=>decide (nkOf y=nkOf x))=true then ddK l else x::ddK l
theorem zJZ:∀(l:List P) (x:P),x∈ddK l→x∈l
 |[],x,h=>by cases h
 |y::l,x,h=>by
  rw[ddK]at h;split at h
  ·exact Jg _ (zJZ l x h)
  ·rcases Jr.mp h with e|h
   ·rw[e];exact Jc
   ·exact Jg _ (zJZ l x h)
theorem zI7:∀(l:List P) (x:P),x∈l→nkOf x∈(ddK l).map nkOf
 |[],x,h=>by cases h
 |y::l,x,h=>by
  rw[ddK];split
  ·rename_i hy
   rcases Jr.mp h with e|h
   ·obtain⟨z,hz,ez⟩:=Y7.mp hy;rw[e];exact Jx.mpr ⟨z,hz,Jv ez⟩
   ·exact zI7 l x h
  ·rw[Jk];rcases Jr.mp h with e|h
   ·rw[e];exact Jc
   ·exact Jg _ (zI7 l x h)
theorem zLj:∀l:List P,((ddK l).map nkOf).Nodup
 |[]=>YI
 |y::l=>by
  rw[ddK];split
  ·exact zLj l
  ·rename_i hy
   rw[Jk];refine Vb.mpr ⟨fun h=>hy ?_,zLj l⟩
   obtain⟨z,hz,ez⟩:=Jx.mp h;exact Y7.mpr ⟨z,hz,JO ez⟩
def setOk(l:List P):Bool:=l.all (fun x=>(nkT x).isSome)&&decide (l.length<64)
end NS
namespace Y
open PySem.W NS
def zHi(w:W) (st:List Cell):Res W:=match listOf st w with
 |some l=>if setOk l=true∧zNP l=true then .ok (.p (.lst (srtD (ddK l)))) st else .no
 |none=>.no
def zLz(a:EM):EM:=fun σ st=>(a σ st).bind zHi
section
variable {K:PySem.W.Frag}{cl:Cls}{X:Cx}{Wx:WX}
theorem zOj:PGet X (rIxL X.K):=by
 intro pins s σ H o i ov iv Q I ro ri h;obtain⟨p,xs,n,z,rfl,rfl,hq,he,q⟩:=h;cases ro;obtain⟨t,rfl⟩:=ri;obtain⟨its,r,pl,hz⟩:=I.list hq;obtain⟨j,h1,h2,h3,h4,h5⟩:=atI_get he;obtain⟨w,ew,rw'⟩:=r.get h2;have hl:=r.length;have hn:=line63;have fin:EP X pins σ Q w s:=⟨z,H,I,rw',q⟩
 by_cases h0:0≤n
 ·have hj:n.toNat=j:=by
   rw[seqIndex_of h0 h5]at h1;exact Jd h1
  exact wpAny_getItem_list pl.isList h0 ∅ (by rw[hj];simpa using ew) fin
 ·have hj:(n+(its.toArray.size:Int)).toNat=j:=by
   rw[seqIndex_neg ∅ h4]at h1;rw[J9,←hl];exact Jd h1
  exact wpAny_getItem_list_neg pl.isList ∅ (by rw[J9]<;>omega) ∅ (by rw[hj];simpa using ew) fin
def zFn(σ:Sg) (i:Nat) (n:Int) (z:W) (st:List Cell):SR:=match st[i]? with
 |some (.lst l)=>match L2.ixN l.length n with
  |some j=>.ok .nx σ (st.set i (.lst (l.set j z)))
  |none=>.no
 |_=>.no
def zGl(i:Nat) (n:Int) (st:List Cell):Option W:=match st[i]? with
 |some (.lst l)=>L2.atI l n
 |_=>none
def zIp(f:W→W→List Cell→Res W) (o ix m:EM):SMm:=fun σ st=>(o σ st).to σ fun w st1=>(ix σ st1).to σ fun k st2=>match w,k with
 | .r i,.p (.int n)=>match zGl i n st2 with
  |some x=>(m σ st2).to σ fun y st4=>match f x y st4 with
   | .ok z st5=>zFn σ i n z st5
   |_=>.no
  |none=>.no
 |_,_=>.no
theorem zOG{o ix m:EM}{eo ei e:Expr}{op:Operator}{r:R2}{f:W→W→List Cell→Res W}{pos tpos:Pos} (g:GX K X) (ho:SE K cl X Wx o eo) (hi:SE K cl X Wx ix ei) (h:SE K cl X Wx m e) (hop:OpR X (inplaceOp op) r) (hf:VOp K cl f r)
  (ha:∀ov iv new,augStore ei ov iv new=(do holding [new,ov,iv] (setItem ov iv new);release [new,ov,iv] [];pure .next):=by intros;rfl):SS K cl X Wx (zIp f o ix m) (.AugAssign (.Subscript eo ei tpos) op e pos):=by
 obtain⟨hK,_⟩:=g;subst hK;refine⟨fun E0 ρ G σ st τ H D R S q=>TS'.of (ps_augS T.pe T.pe zOj T.pe (tip:=r) hop set_list ha) ?_⟩
 refine ho.run E0 ρ G σ st τ H _ R S (AftS.seq S q fun w st1 ρ1 G1 H1 ov e1 p1 s1 R1 u1 h1=>?_)
 have S1:=RS.mono p1 s1 S;refine hi.run E0 ρ1 G1 σ st1 τ H1 _ R1 S1 (AftS.seq S1 h1 fun k st2 ρ2 G2 H2 iv e2 p2 s2 R2 u2 h2=>?_)
 have S2:=RS.mono p2 s2 S1;split at h2
 ·rename_i i n
  split at h2
  ·rename_i x ex
   obtain⟨l0,el0,ex0⟩:∃l,st2[i]?=some (.lst l)∧L2.atI l n=some x:=by
    unfold zGl at ex;split at ex
    ·exact⟨_,by assumption,ex⟩
    ·cases ex
   obtain⟨a0,us0,rfl,ha0,k1,k2⟩:=zFO R2 (RW.mono p2 s2 u1) el0;obtain⟨xv,exv,u3⟩:=RWs.atI k2 ex0;cases u2;refine⟨a0,us0,n,xv,rfl,rfl,.inl (.inl k1),exv,?_⟩;refine h.run E0 ρ2 G2 σ st2 τ H2 _ R2 S2 (AftS.seq S2 h2 fun y st4 ρ4 G4 H4 yv e4 p4 s4 R4 u4 h4=>?_)
   have S4:=RS.mono p4 s4 S2;refine hf E0 ρ4 G4 st4 H4 x y xv yv _ (fun _ _ _=>False) R4 (RW.mono p4 s4 u3) u4 ?_
   generalize f x y st4=res2 at h4 ⊢;cases res2 with
   |no=>exact h4.elim
   |exc x st=>exact h4.elim
   |ok z st5 =>
    intro ρ5 G5 H5 zv p5 s5 R5 u5;have h5:AftS (bs X.K cl E0) ρ5 G5 (zFn σ i n z st5) D Wx:=AftS.mono p5 s5 h4;unfold zFn at h5;split at h5
    ·rename_i l el
     split at h5
     ·rename_i j ej
      obtain⟨a,us,ea,ha',g1,g2⟩:=zFO R5 (RW.mono (p2.trans (p4.trans p5)) (s2.trans (s4.trans s5)) u1) el;cases ea;refine⟨a0,us,n,j,rfl,rfl,g1,by rw[←g2.length];exact ej,?_⟩
      exact AftS.nx h5 (Rel.write (o:=.lst (us.set j zv)) R5 el (fun z=>by cases z) (fun z=>by cases z) ha' ⟨_,Ju,RWs.set u5 j g2⟩) (RS.mono p5 s5 S4)
     ·exact h5.elim
    ·exact h5.elim
  ·exact h2.elim
 ·exact h2.elim
end
section
variable {K:PySem.W.Frag}{cl:Cls}{X:Cx}{Wx:WX}
def ixD(ds:List PyData) (d:PyData):Option Nat:=if(SeqAt.shaped (.list ds)&&SeqAt.shaped d)=true then ds.findIdx? fun z=>PyData.eqv z d else none
def zGT(w:W) (ws:List W) (st:List Cell):Res W:=match listOf st w,ws with
 |some l,[.p y]=>match toDs l,toD y with
  |some ds,some d=>match ixD ds d with
   |some j=>.ok (.p (.int (j:Nat))) st
   |none=>.no
  |_,_=>.no
 |_,_=>.no
end
section
open NS
def insI(x:Int):List Int→List Int
 |[]=>[x]
 |y::l=>if x<y then x::y::l else if x=y then y::l else y::insI x l
def dsI(l:List Int):List Int:=l.foldr insI []
end
section
open GenW
def LR.then(r:LR) (k:Sg→List Cell→List P→LR):LR:=match r with
 | .ok .nx σ st ys=>k σ st ys
 |r=>r
def SR.lr(r:SR) (ys:List P):LR:=match r with
 | .ok f σ st=>.ok f σ st ys
 |_=>.no ys
end
section
open GenW GT
def LR.src(r:LR):List P×Bool:=match r with
 | .ok .nx _ _ ys=>(ys,true)
 | .ok (.rt (.p .non)) _ _ ys=>(ys,true)
 | .no ys=>(ys,false)
 |_=>([],false)
end
section
open GenW GT
def forC(r:LR) (pt:Nat→W→Sg→Option Sg) (b:SMm):Nat→Nat→Sg→List Cell→SR
 |0,_,_,_=>.no
 |k+1,i,σ,st=>match r.src.1[i]? with
  |some (.lst l)=>(match pt i (.r st.length) σ with
   |some σ1=>(match b σ1 (st++[.lst (l.map W.p)])with
    | .ok .nx σ2 st2=>forC r pt b k (i+1) σ2 st2
    | .ok .ct σ2 st2=>forC r pt b k (i+1) σ2 st2
    | .ok .bk σ2 st2=>.ok .nx σ2 st2
    |r=>r)
   |none=>.no)
  |some _=>.no
  |none=>if r.src.2=true then .ok .nx σ st else .no
end
section
variable {K:PySem.W.Frag}{cl:Cls}{X:Cx}{Wx:WX}{E0:En}{ρ:List Addr}{G:Hp}{σ:Sg}{st:List Cell}{τ:L2.St}{H:Hp}
def vLstK(ws:List W) (st:List Cell):Res W:=match ws with
 |[.r j]=>(match st[j]? with
  |some (.dk ks _)=>.ok (.p (.lst (ks.map keyD))) st
  |_=>.no)
 |_=>.no
end
structure Up (c d:Cls):Prop where
 l:d.l=c.l
 lm:d.lm=c.lm
 wd:d.wd=c.wd
 tb:d.tb=c.tb
 fr:∀(j:Nat) x,c.fr[j]?=some x→d.fr[j]?=some x
theorem Up.at{c d:Cls} (u:Up c d) (i:Nat):d[i]?=c[i]?:=by
 show d.l[i]?=c.l[i]?;rw[u.l]
section
variable {K:PySem.W.Frag}{c d:Cls}{G:Hp}
mutual
theorem RP.up(u:Up c d):∀ {x:P}{v:V},RP K c G x v→RP K d G x v
 |_,_,.non=>.non
 |_,_,.bl b=>.bl b
 |_,_,.int i=>.int i
 |_,_,.str z=>.str z
 |_,_,.tup h r=>.tup h (RPs.up u r)
 |_,_,.lst h r=>.lst h (RPs.up u r)
 |_,_,.scr h=>.scr h
 |_,_,.dk h e r=>.dk h e (RPs.up u r)
 |_,_,.obj k h e r=>.obj ((u.at _).trans k) h e (RPs.up u r)
 |_,_,.exn k x h q e r=>.exn ((u.at _).trans k) x h q e (RPs.up u r)
 |_,_,.lam a b k q e=>.lam (by rw[u.lm];exact a) (u.fr _ _ b) k q e
 |_,_,.cls h=>.cls ((u.at _).trans h)
 |_,_,.fd h e r=>.fd h e (RPs.up u r)
 |_,_,.fn n h q e z r t=>.fn n h (by rw[u.wd];exact q) e z (RPs.up u r) (RPs.up u t)
theorem RPs.up(u:Up c d):∀ {l:List P}{vs:List V},RPs K c G l vs→RPs K d G l vs
 |_,_,.nil=>.nil
 |_,_,.cons h r=>.cons (RP.up u h) (RPs.up u r)
end
mutual
def nlP:P→Bool
 | .tup l=>nlPs l
 | .lst l=>nlPs l
 | .dk _ l=>nlPs l
 | .obj _ l=>nlPs l
 | .exn _ l=>nlPs l
 | .fd _ l=>nlPs l
 | .fn ks l=>nlPs ks&&nlPs l
 | .lam _ _=>false
 |_=>true
def nlPs:List P→Bool
 |[]=>true
 |x::l=>nlP x&&nlPs l
end
theorem zKC{x:P}{l:List P} (h:nlPs (x::l)=true):nlP x=true∧nlPs l=true:=by
 rw[nlPs]at h;exact Ys.mp h
theorem nl_fn{ks l:List P} (h:nlP (.fn ks l)=true):nlPs ks=true∧nlPs l=true:=by
 rw[nlP]at h;exact Ys.mp h
mutual
theorem RP.down(u:Up c d):∀ {x:P}{v:V},nlP x=true→RP K d G x v→RP K c G x v
 |_,_,_,.non=>.non
 |_,_,_,.bl b=>.bl b
 |_,_,_,.int i=>.int i
 |_,_,_,.str z=>.str z
 |_,_,n,.tup h r=>.tup h (RPs.down u (by rw[nlP]at n;exact n) r)
 |_,_,n,.lst h r=>.lst h (RPs.down u (by rw[nlP]at n;exact n) r)
 |_,_,_,.scr h=>.scr h
 |_,_,n,.dk h e r=>.dk h e (RPs.down u (by rw[nlP]at n;exact n) r)
 |_,_,n,.obj k h e r=>.obj ((u.at _).symm.trans k) h e (RPs.down u (by rw[nlP]at n;exact n) r)
 |_,_,n,.exn k x h q e r=>.exn ((u.at _).symm.trans k) x h q e (RPs.down u (by rw[nlP]at n;exact n) r)
 |_,_,n,.lam a b k q e=>by rw[nlP]at n;cases n
 |_,_,_,.cls h=>.cls ((u.at _).symm.trans h)
 |_,_,n,.fd h e r=>.fd h e (RPs.down u (by rw[nlP]at n;exact n) r)
 |_,_,n,.fn m h q e z r t=>.fn m h (by rw[u.wd]at q;exact q) e z (RPs.down u (nl_fn n).1 r) (RPs.down u (nl_fn n).2 t)
theorem RPs.down(u:Up c d):∀ {l:List P}{vs:List V},nlPs l=true→RPs K d G l vs→RPs K c G l vs
 |_,_,_,.nil=>.nil
 |_,_,n,.cons h r=>.cons (RP.down u (zKC n).1 h) (RPs.down u (zKC n).2 r)
end
def nlW:W→Bool
 | .p x=>nlP x
 | .r _=>true
variable {ρ:List Addr}
theorem RW.up(u:Up c d):∀ {w:W}{v:V},RW K c ρ G w v→RW K d ρ G w v
 | .p _,_,h=>RP.up u h
 | .r _,_,h=>h
theorem RW.down(u:Up c d):∀ {w:W}{v:V},nlW w=true→RW K d ρ G w v→RW K c ρ G w v
 | .p _,_,n,h=>RP.down u n h
 | .r _,_,_,h=>h
theorem RWs.up(u:Up c d):∀ {l:List W}{vs:List V},RWs K c ρ G l vs→RWs K d ρ G l vs
 |_,_,.nil=>.nil
 |_,_,.cons h r=>.cons (RW.up u h) (RWs.up u r)
theorem RWs.down(u:Up c d):∀ {l:List W}{vs:List V},l.all nlW=true→RWs K d ρ G l vs→RWs K c ρ G l vs
 |_,_,_,.nil=>.nil
 |_,_,n,.cons h r=>by
  rw[VW,Jj]at n;exact .cons (RW.down u n.1 h) (RWs.down u n.2 r)
def nlC:Cell→Bool
 | .lst l=>l.all nlW
 | .dk _ l=>l.all nlW
 | .ins _ l=>l.all nlW
 | .dead=>true
 | .dn ks l=>nlPs ks&&l.all nlW
 | .tp _=>true
theorem CA.up(u:Up c d){H:Hp}{a:Addr}:∀ {x:Cell},CA K c ρ G H a x→CA K d ρ G H a x
 | .lst _,⟨vs,h,r⟩=>⟨vs,h,r.up u⟩
 | .dk _ _,⟨vs,h,z,r⟩=>⟨vs,h,z,r.up u⟩
 | .ins _ _,⟨C,dx,ns,vs,k,h,z,r⟩=>⟨C,dx,ns,vs,(u.at _).trans k,h,z,r.up u⟩
 | .dead,h=>h
 | .dn _ _,⟨nks,as,vs,n,h,z,q,r⟩=>⟨nks,as,vs,n,by rw[u.wd];exact h,z,RPs.up u q,r.up u⟩
 | .tp _,h=>h
theorem CA.down(u:Up c d){H:Hp}{a:Addr}:∀ {x:Cell},nlC x=true→CA K d ρ G H a x→CA K c ρ G H a x
 | .lst _,n,⟨vs,h,r⟩=>⟨vs,h,r.down u n⟩
 | .dk _ _,n,⟨vs,h,z,r⟩=>⟨vs,h,z,r.down u n⟩
 | .ins _ _,n,⟨C,dx,ns,vs,k,h,z,r⟩=>⟨C,dx,ns,vs,(u.at _).symm.trans k,h,z,r.down u n⟩
 | .dead,_,h=>h
 | .tp _,_,h=>h
 | .dn _ _,n,⟨nks,as,vs,m,h,z,q,r⟩=>by
  obtain⟨n1,n2⟩:=Ys.mp (show(nlPs _&&_)=true from n)
  exact⟨nks,as,vs,m,by rw[u.wd]at h;exact h,z,RPs.down u n1 q,r.down u n2⟩
variable {E0:En}{st:List Cell}{H:Hp}
theorem Rel.up(u:Up c d) (R:Rel K c E0 ρ G st H):Rel K d E0 ρ G st H :=
 ⟨R.len,R.nd,fun i x a h1 h2=>(R.cell i x a h1 h2).up u,R.sep,R.sub,R.old,R.new,R.n0,R.grow,R.ent,R.gnt,fun p hp=>R.tabs p (by rw[u.tb]at hp;exact hp)⟩
theorem Rel.down(u:Up c d) (n:st.all nlC=true) (R:Rel K d E0 ρ G st H):Rel K c E0 ρ G st H :=
 ⟨R.len,R.nd,fun i x a h1 h2=>(R.cell i x a h1 h2).down u (Jp.mp n x (Jn h1)),R.sep,R.sub,R.old,R.new,R.n0,R.grow,R.ent,R.gnt,fun p hp=>R.tabs p (by rw[u.tb];exact hp)⟩
end
theorem up_of{c0:List (Str×List (Str×Addr))→Cls}{fr:List (Str×List (Str×Addr))} (hl:∀a b,(c0 a).l=(c0 b).l) (hm:∀a b,(c0 a).lm=(c0 b).lm) (hw:∀a b,(c0 a).wd=(c0 b).wd) (ht:∀a b,(c0 a).tb=(c0 b).tb) (hf:∀a,(c0 a).fr=a) (q:Str×List (Str×Addr)):Up (c0 fr) (c0 (fr++[q])) :=
 ⟨hl _ _,hm _ _,hw _ _,ht _ _,fun j x e=>by
  rw[hf]at e ⊢
  rw[Jh (Ja.mp e).1];exact e⟩
section
variable {K:PySem.W.Frag}{cl:Cls}{X:Cx}{Wx:WX}{ρ:List Addr}{G:Hp}
theorem zNf:∀ {l m:List W}{vs us:List V},RWs K cl ρ G l vs→RWs K cl ρ G m us→RWs K cl ρ G (l++m) (vs++us)
 |_,_,_,_,.nil,h=>h
 |_,_,_,_,.cons h r,h2=>.cons h (zNf r h2)
end
def scal:P→Bool
 | .non | .bl _ | .int _ | .str _=>true
 |_=>false
noncomputable def zIM (ρ:List Addr) (x:Option Addr) (G G':Hp):Hp:=fun b=>match G b with
 |some o=>some o
 |none=>open Classical in if b∈ρ∨x=some b then none else G' b
theorem zG9{ρ:List Addr}{x:Option Addr}{G G':Hp}:Sub G (zIM ρ x G G'):=fun a o h=>by
 unfold zIM;rw[h]
theorem zOv{ρ:List Addr}{x:Option Addr}{G G':Hp}{a:Addr} (g:G a=none) (m:a∈ρ∨x=some a):zIM ρ x G G' a=none:=by
 unfold zIM;rw[g];dsimp only;rw[Jm m]
theorem zH8{ρ:List Addr}{x:Option Addr}{G G':Hp}{a:Addr}{o:HO} (h:zIM ρ x G G' a=some o):G a=some o∨(G a=none∧a∉ρ∧x≠some a∧G' a=some o):=by
 unfold zIM at h;split at h
 ·rename_i u e
  exact .inl (e.trans h)
 ·rename_i e
  split at h
  ·cases h
  ·rename_i m
   exact .inr ⟨e,fun z=>m (.inl z),fun z=>m (.inr z),h⟩
theorem zQr{c:Addr}{q:Str} (vs:List V):LamX.CodeO c q≠.lst vs:=by
 unfold LamX.CodeO;intro z;cases z
section
variable {K:PySem.W.Frag}{cl:Cls}{X:Cx}{Wx:WX}{E0:En}{ρ ρ':List Addr}{G G' G1:Hp}{σ:Sg}{τ:L2.St}{st st':List Cell}{H H':Hp}
theorem Rel.back(R:Rel K cl E0 ρ G st H) (hg:∀b o,G1 b=some o→G b=some o∨(b∈ρ∧∃vs,o=.lst vs)) (R':Rel K cl ⟨strip H,([]:List Addr).length,G1⟩ ρ' G' st' H') (x:Option Addr) (hx:∀b,x=some b→∀c q,G' b≠some (LamX.CodeO c q)) :
  Rel K cl E0 ρ (zIM ρ x G G') st H':=by
 have keep:∀a u,H a=some u→NT u→H' a=some u:=fun a u h n=>R'.old a u (strip_of h n) fun i hi=>absurd hi (Ya _)
 refine⟨R.len,R.nd,fun i c a e1 e2=>?_,fun i c a e1 e2=>?_,fun b u e=>?_,fun a u e q=>keep a u (R.old a u e q) (R.ent a u e),R.new,R.n0,fun a o e=>?_,R.ent,fun a u e=>?_,fun q hq=>?_⟩
 ·by_cases hcd:c=.dead
  ·subst hcd;obtain⟨o,z⟩:=R.cell i _ a e1 e2;exact⟨o,zG9 _ _ z⟩
  ·obtain⟨u,q,po⟩:=(R.cell i c a e1 e2).po hcd;exact(R.cell i c a e1 e2).mono (Je _) zG9 ((keep a u q po.1).trans q.symm)
 ·rcases R.sep i c a e1 e2 with z|z
  ·exact .inl z
  ·exact .inr (zOv z (.inl (Jn e2)))
 ·rcases zH8 e with z|⟨_,_,_,z⟩
  ·exact keep b u (R.sub b u z) (R.gnt b u z)
  ·exact R'.sub b u z
 ·rcases zH8 e with z|⟨g,m,_,z⟩
  ·exact R.grow a o z
  ·rcases R'.grow a o z with y|y|⟨i,hi,_⟩
   ·rcases hg a o y with y|⟨y,_⟩
    ·rw[g]at y;cases y
    ·exact absurd y m
   ·exact .inr (.inl (R.offF y).2)
   ·exact absurd hi (Ya _)
 ·rcases zH8 e with z|⟨_,_,_,z⟩
  ·exact R.gnt a u z
  ·exact R'.gnt a u z
 ·obtain⟨ps,h1,h2,h3⟩:=R'.tabs q hq;refine⟨ps,h1,h2,fun pos cv e=>?_⟩
  obtain⟨c,e1,e2⟩:=h3 pos cv e;refine⟨c,e1,?_⟩;cases g:G c with
  |some o =>
   have y:=keep c o (R.sub c o g) (R.gnt c o g);rw[R'.sub _ _ e2]at y;rw[Jd y];exact zG9 _ _ g
  |none =>
   unfold zIM;rw[g];dsimp only;rw[Js]
   ·exact e2
   ·rintro(m|m)
    ·obtain⟨i,hi⟩:=Ve m;rcases R'.grow c _ e2 with y|y|⟨i,hi,_⟩
     ·rcases hg c _ y with y|⟨_,vs,y⟩
      ·rw[g]at y;cases y
      ·exact zQr vs y
     ·exact(R.offF y).1 i hi
     ·exact absurd hi (Ya _)
    ·exact hx _ m _ _ e2
end
def rEqD(C D:Addr) (sp:Sp):R2:=fun x y H Q=>∃a dx fs b dy gs,x=.ref a∧y=.ref b∧H a=some (.ins C dx fs)∧H b=some (.ins D dy gs)∧sp [x,y] H (fun v H'=>∃k,v=.bl k∧Q (.bl (k != false)) H') L2.E0
section
variable {X:Cx}{C D f:Addr}{fd:FuncData}{ps:List Str}{sp:Sp}{k:Nat}
theorem op_eqD(hmt:Meth X.K C "__eq__" f) (hs:PySem.W.subIn X.K (.ref D) (.ref C)=some false) (Fk:FnOk X.prog X.w X.K X.mg X.base CX0 k f fd ps sp) (hr:Room k X.A) (hb:Binds X.K fd ps []) (hu:X.A.units<cLine):OpR X (compareOp .Eq) (rEqD C D sp):=by
 intro pins s σ H x y v u Q I rx ry h;obtain⟨a,dx,fs,b,dy,gs,rfl,rfl,eH,eB,h⟩:=h;obtain rfl:v=.ref a:=rx;obtain rfl:u=.ref b:=ry;obtain⟨mA,O,_⟩:=ins_get I.hok eH;obtain⟨od,J,_⟩:=O.look;obtain⟨mB,O2,_⟩:=ins_get I.hok eB;obtain⟨od2,J2,_⟩:=O2.look;obtain⟨m,hF⟩:=I.fr;refine PySem.W.cmp_K (op:=.Eq) (tb:=.ref D) hu hF I.ok.mod.kin J J2.type (by simp[PySem.W.notFirst,hs]) hmt.at_ hmt.fn ?_
 refine V5 (run_fn (E:=L2.E0) (us:=[.ref a,.ref b]) (vs:=[.ref a,.ref b]) Fk hr hb .nil pass0 I (.cons rfl (.cons rfl .nil)) h) (fun w s' z=>?_) fun _ _ z=>z
 obtain⟨v,H',I',rv,b,eb,q⟩:=z;subst eb;cases rv;exact⟨.bl b,H',I',rfl,by simpa using q⟩
end
section
variable {K:PySem.W.Frag}{cl:Cls}{X:Cx}{Wx:WX}{x:Str}{pos:Pos}
theorem v0(i:Nat) (hN:X.N[i]?=some x:=by exact rfl) (hv:vis X.env.scope x=true:=by exact rfl) (hd:((x==("__debug__" : Str))||(x==("__classdict__" : Str)))=false:=by exact rfl):SE K cl X Wx (mVar i) (.Name x pos):=v hN hv hd
theorem sgn(g:GX K X) (i:Nat) (hi:X.N[i]?=some x:=by exact rfl) (hx:loc X.env.scope x=true:=by exact rfl) (hf:X.fn x=true∨X.env.scope.names.lookup x=some .local:=by first|exact .inl rfl|exact .inr rfl):SG K cl X (.nm i) (.Name x pos):=zQJ g hi (zAY hx) hf
end
section
variable {K:PySem.W.Frag}{cl:Cls}{X:Cx}{Wx:WX}{E0:En}{ρ ρ':List Addr}{G G':Hp}{σ:Sg}{τ:L2.St}{st:List Cell}{H:Hp}{D:Ends}
theorem RPs.strs:∀(l:List Str),RPs K cl G (l.map P.str) (l.map V.str)
 |[]=>.nil
 |s::l=>.cons (.str s) (RPs.strs l)
def zGQ(w:W) (ws:List W) (st:List Cell):Res W:=match w,ws with
 | .p (.str a),[.p (.str b)]=>if(b.length==0)=false∧a.length+2≤LIM then .ok (.p (.lst ((Txt.split a b).map P.str))) st else .no
 |_,_=>.no
theorem zIG:VMt K cl zGQ (fun x xs H Q=>∃a b,x=.str a∧xs=[.str b]∧(b.length==0)=false∧a.length+2≤sizeLine∧rNewStrs (Txt.split a b) H Q):=by
 intro E0 ρ G st H w v ws vs Q Z R r rs h;unfold zGQ at h;split at h
 ·rename_i a b
  obtain⟨u,rfl,ru⟩:=rs.one;cases r;cases ru;split at h
  ·rename_i hl
   refine⟨a,b,rfl,rfl,hl.1,zCo hl.2,fun p hp=>?_⟩
   exact h.newP R hp (.lst Ju (RPs.strs _))
  ·exact h.elim
 ·exact h.elim
def zGy(w:W) (ws:List W) (st:List Cell):Res W:=match w,ws with
 | .p (.str a),[.p (.str b)]=>.ok (.p (.bl (Txt.startswith a b))) st
 |_,_=>.no
theorem zLV:VMt K cl zGy (fun x xs H Q=>∃a b,x=.str a∧xs=[.str b]∧Q (.bl (Txt.startswith a b)) H):=by
 intro E0 ρ G st H w v ws vs Q Z R r rs h;unfold zGy at h;split at h
 ·obtain⟨u,rfl,ru⟩:=rs.one;cases r;cases ru;exact⟨_,_,rfl,rfl,h.here R (RP.bl _)⟩
 ·exact h.elim
def zKT(w:W) (ws:List W) (st:List Cell):Res W:=match w,ws with
 | .p (.str a),[.p (.str b)]=>if a.length≤LIM then .ok (.p (.str (Txt.removeprefix a b))) st else .no
 |_,_=>.no
theorem zMo:VMt K cl zKT (fun x xs H Q=>∃a b,x=.str a∧xs=[.str b]∧a.length≤sizeLine∧Q (.str (Txt.removeprefix a b)) H):=by
 intro E0 ρ G st H w v ws vs Q Z R r rs h;unfold zKT at h;split at h
 ·obtain⟨u,rfl,ru⟩:=rs.one;cases r;cases ru;split at h
  ·rename_i hl
   exact⟨_,_,rfl,rfl,zCo hl,h.here R (RP.str _)⟩
  ·exact h.elim
 ·exact h.elim
def TT1(X:Cx) (e:Expr):TE:=fun σ H Q=>∀(pins:List (Addr×Obj)) (s:Shared),1≤s.toks→Inv X pins σ H s→wpAny (model X.prog X.w) X.A (eval e X.env) (EP X pins σ Q) X.xe s
theorem TT1.pet{e:Expr}:PET X e (TT1 X e):=fun pins s σ H Q h0 I h=>h pins s h0 I
theorem TT1.of{e:Expr}{t:TE}{σ:L2.St}{H:Hp}{Q:VK} (h:PET X e t) (q:t σ H Q):TT1 X e σ H Q:=fun pins s h0 I=>h pins s σ H Q h0 I q
structure SEt (K:PySem.W.Frag) (cl:Cls) (X:Cx) (Wx:WX) (m:EM) (e:Expr):Prop where
 run:∀E0 ρ G σ st τ H Q,(bs K cl E0).Rel ρ G st H→RS K cl ρ G σ τ→Aft (bs K cl E0) (bs K cl E0).RW ρ G (m σ st) Q (fun c d H'=>Wx c d τ H')→TT1 X e τ H Q
theorem SEt.of{m:EM}{e:Expr} (h:SE K cl X Wx m e):SEt K cl X Wx m e:=⟨fun E0 ρ G σ st τ H Q R S q=>TT1.of (CwR.PET.of T.pe) (h.run E0 ρ G σ st τ H Q R S q)⟩
def zHB(y z:Str) (o:EM):EM:=fun σ st=>(o σ st).bind fun w st1=>match w with
 | .p (.str x)=>if x.length+(x.length+1)*z.length≤LIM then .ok (.p (.str (Txt.replace x y z))) st1 else .no
 |_=>.no
theorem zGC{y z:Str}{o:EM}{eo:Expr}{j k:Nat}{c0 c1 apos pos:Pos} (ho:SEt K cl X Wx o eo) (hyz:(y==z)=false)
  (hst:starEach [.Constant (.str y) j c0,.Constant (.str z) k c1] X.env=[(false,eval (.Constant (.str y) j c0) X.env),(false,eval (.Constant (.str z) k c1) X.env)]:=by rfl)
  (hbase:attributeBase eo "replace" X.env (eval eo X.env)=eval eo X.env:=by rfl) (hline:(apos.endLine==pos.line)=true:=by rfl) :
  SEt K cl X Wx (zHB y z o) (.Call (.Attribute eo "replace" apos) [.Constant (.str y) j c0,.Constant (.str z) k c1] [] pos):=by
 refine⟨fun E0 ρ G σ st τ H Q R S h=>TT1.of (CwR.pet_replT TT1.pet hyz hst hbase hline) ?_⟩
 refine ho.run E0 ρ G σ st τ H _ R S (Aft.seq h fun w st1 ρ1 G1 H1 v e1 p1 s1 R1 u1 h1=>?_)
 split at h1
 ·rename_i x
  cases u1;split at h1
  ·rename_i hl
   exact⟨x,rfl,by unfold LIM at hl;omega,h1.here R1 (RP.str _)⟩
  ·exact h1.elim
 ·exact h1.elim
theorem pet_m1{id:String}{name:Str}{o e:Expr}{to te:TE}{apos pos:Pos}{r:V→List V→Hp→VK→Prop} (slot:Slot "str" name id) (ty:typeOf (.builtin id)=pure (.type "method_descriptor")) (rule:MtR X id r) (ho:PET X o to) (he:PE X e te)
  (hs:starEach [e] X.env=[(false,eval e X.env)]) (hbase:attributeBase o name X.env (eval o X.env)=eval o X.env) (hline:(apos.endLine==pos.line)=true) :
  PET X (.Call (.Attribute o name apos) [e] [] pos) (tM1 r to te):=by
 intro pins s σ H Q h0 I h;refine PySem.Call_method1 hbase hs hline (thn (ho pins s σ H _ h0 I h) fun v s1 ⟨x,H1,I1,r1,q1⟩=>?_)
 obtain⟨⟨a,rfl⟩,q1⟩:=q1;obtain⟨t,rfl⟩:=_root_.id r1;refine⟨"str",_,Vn,slot,ty,typeIs_str _ _ _,(fun _ e=>nomatch e),Calls.callWith_builtin rfl (Calls.evalArgs_plain (VP ?_))⟩
 exact thn (he.run pins s1 σ H1 _ I1 q1) fun u s2 ⟨y,H2,I2,r2,q2⟩=>Yh (rule pins s2 σ H2 _ [y] _ [u] Q I2 r1 (.cons r2 .nil) q2)
theorem zMO{w:W} (e:tyW st w=some "str"):∃z,w=.p (.str z):=by
 cases w with
 |p x=>cases x<;>first|exact⟨_,rfl⟩|simp[tyW]at e
 |r i =>
  exfalso;unfold tyW at e;dsimp only at e;split at e<;>simp at e
theorem zPg{id:String}{name:Str}{f:W→List W→List Cell→Res W}{o a:EM}{eo e:Expr}{apos pos:Pos}{r:V→List V→Hp→VK→Prop} (slot:Slot "str" name id) (ty:typeOf (.builtin id)=pure (.type "method_descriptor")) (rule:MtR X id r) (hf:VMt K cl f r) (ho:SEt K cl X Wx o eo) (ha:SE K cl X Wx a e)
  (hs:starEach [e] X.env=[(false,eval e X.env)]:=by rfl) (hbase:attributeBase eo name X.env (eval eo X.env)=eval eo X.env:=by rfl) (hline:(apos.endLine==pos.line)=true:=by rfl) :
  SEt K cl X Wx (mBm "str" f o %[a|0]) (.Call (.Attribute eo name apos) [e] [] pos):=by
 refine⟨fun E0 ρ G σ st τ H Q R S h=>TT1.of (pet_m1 slot ty rule TT1.pet T.pe hs hbase hline) ?_⟩
 refine ho.run E0 ρ G σ st τ H _ R S (Aft.seq h fun w st1 ρ1 G1 H1 v e1 p1 s1 R1 u1 h1=>?_)
 split at h1
 case isFalse=>exact h1.elim
 rename_i et
 obtain⟨z,rfl⟩:=zMO et;have u1':=u1;cases u1';refine⟨⟨z,rfl⟩,?_⟩
 have h1':Aft (bs K cl E0) (bs K cl E0).RW ρ1 G1 ((a σ st1).bind fun y st2=>f (.p (.str z)) [y] st2) Q (fun c d H'=>Wx c d τ H'):=by
  have e2:(%[a|0] σ st1).bind (fun ws st2=>f (.p (.str z)) ws st2)=(a σ st1).bind fun y st2=>f (.p (.str z)) [y] st2:=by
   unfold zAB mNil;cases a σ st1<;>rfl
  rw[←e2];exact h1
 refine ha.run E0 ρ1 G1 σ st1 τ H1 _ R1 (S.mono p1 s1) (Aft.seq h1' fun y st2 ρ2 G2 H2 u e2 p2 s2 R2 u2 h2=>?_)
 exact hf E0 ρ2 G2 st2 H2 _ _ [y] [u] Q _ R2 (RW.mono p2 s2 u1) (.cons u2 .nil) h2
def TS1(X:Cx) (e:Stmt):TS:=fun D σ H=>∀(pins:List (Addr×Obj)) (s:Shared),1≤s.toks→Inv X pins σ H s→wpAny (model X.prog X.w) X.A (exec e X.env) (SP X pins D) X.xe s
def TSs1(X:Cx) (e:List Stmt):TS:=fun D σ H=>∀(pins:List (Addr×Obj)) (s:Shared),1≤s.toks→Inv X pins σ H s→wpAny (model X.prog X.w) X.A (execs e X.env) (SP X pins D) X.xe s
theorem TS1.pst{e:Stmt}:PST X e (TS1 X e):=fun pins s σ H D h0 I h=>h pins s h0 I
theorem TSs1.psst{e:List Stmt}:PSsT X e (TSs1 X e):=fun pins s σ H D h0 I h=>h pins s h0 I
theorem TS1.of{e:Stmt}{t:TS}{σ:L2.St}{H:Hp}{D:Ends} (h:PST X e t) (q:t D σ H):TS1 X e D σ H:=fun pins s h0 I=>h pins s σ H D h0 I q
theorem TSs1.of{e:List Stmt}{t:TS}{σ:L2.St}{H:Hp}{D:Ends} (h:PSsT X e t) (q:t D σ H):TSs1 X e D σ H:=fun pins s h0 I=>h pins s σ H D h0 I q
structure SSt (K:PySem.W.Frag) (cl:Cls) (X:Cx) (Wx:WX) (m:SMm) (e:Stmt):Prop where
 run:∀E0 ρ G σ st τ H D,(bs K cl E0).Rel ρ G st H→RS K cl ρ G σ τ→AftS (bs K cl E0) ρ G (m σ st) D Wx→TS1 X e D τ H
structure SSst (K:PySem.W.Frag) (cl:Cls) (X:Cx) (Wx:WX) (m:SMm) (e:List Stmt):Prop where
 run:∀E0 ρ G σ st τ H D,(bs K cl E0).Rel ρ G st H→RS K cl ρ G σ τ→AftS (bs K cl E0) ρ G (m σ st) D Wx→TSs1 X e D τ H
theorem SSt.of{m:SMm}{e:Stmt} (h:SS K cl X Wx m e):SSt K cl X Wx m e:=⟨fun E0 ρ G σ st τ H D R S q=>TS1.of (PST.of TS'.ps) (h.run E0 ρ G σ st τ H D R S q)⟩
theorem SSst.of{m:SMm}{e:List Stmt} (h:SSs K cl X Wx m e):SSst K cl X Wx m e:=⟨fun E0 ρ G σ st τ H D R S q=>TSs1.of (PSsT.of TSs'.pss) (h.run E0 ρ G σ st τ H D R S q)⟩
theorem zBb{a b:SMm}{s:Stmt}{ss:List Stmt} (h1:SSt K cl X Wx a s) (h2:SSst K cl X Wx b ss):SSst K cl X Wx (sSeq a b) (s::ss):=by
 refine⟨fun E0 ρ G σ st τ H D R S h=>TSs1.of (psst_cons TS1.pst TSs1.psst) ?_⟩
 refine h1.run E0 ρ G σ st τ H _ R S (AftS.thn (D' := { D with nx:=TSs1 X ss D }) h (fun σ1 st1 ρ1 G1 H1 τ1 e p s R1 S1 h1=>?_) rfl rfl rfl)
 exact h2.run E0 ρ1 G1 σ1 st1 τ1 H1 D R1 S1 h1
theorem zQ5{o value:Expr}{f:Str}{pos pos':Pos}{ta tv:TE} (ha:PE X o ta) (hv:PET X value tv) (hs:swapsWith value (some (.Attribute o f pos')) pos.line X.env=pure false):PST X (.Assign [.Attribute o f pos'] value pos) (sFld X.K ta tv f):=by
 intro pins s σ H D h0 I h;refine plainObj_wpAny_Assign_Attribute (thn (hv pins s σ H _ h0 I h) fun u s1 ⟨y,H1,I1,ry,q⟩=>thn (ha.run pins s1 σ H1 _ I1 q) fun ov s2 ⟨x,H2,I2,rx,a,C,dx,fs,ex,ea,c,n,l,q2⟩=>?_) hs
 subst ex;obtain rfl:ov=Value.ref a:=rx;exact setattr_ok I2 ea c n l ry fun s3 I3=>⟨σ,_,I3,q2⟩
theorem zOp{cs:List (Nat×Nat)}{o m:EM}{eo e:Expr}{fn:Str}{pos pos':Pos} (g:GX K X) (hf:∀q∈cs,zGW K cl fn q.1 q.2) (hsm:∀(c:Nat) (C:Addr) (ns:List Str),cl[c]?=some (C,ns)→ns.length<1000) (ho:SE K cl X Wx o eo) (h:SEt K cl X Wx m e) (hs:swapsWith e (some (.Attribute eo fn pos')) pos.line X.env=pure false) :
  SSt K cl X Wx (zIv cs o m) (.Assign [.Attribute eo fn pos'] e pos):=by
 obtain⟨hK,_⟩:=g;subst hK;refine⟨fun E0 ρ G σ st τ H D R S q=>TS1.of (zQ5 T.pe TT1.pet hs) ?_⟩
 refine h.run E0 ρ G σ st τ H _ R S (AftS.seq S q fun x st1 ρ1 G1 H1 v e1 p1 s1 R1 u1 h1=>?_)
 have S1:=RS.mono p1 s1 S;refine ho.run E0 ρ1 G1 σ st1 τ H1 _ R1 S1 (AftS.seq S1 h1 fun w st2 ρ2 G2 H2 ov e2 p2 s2 R2 u2 h2=>?_)
 split at h2
 ·rename_i j
  obtain⟨b,hb,rfl⟩:=u2;split at h2
  ·rename_i c l el
   split at h2
   ·rename_i i ei
    split at h2
    ·rename_i hi
     obtain⟨C,ns,k1,k2,k3,k4,k5⟩:=(hf (c,i) (lookup_mem ei)).ex;obtain⟨b2,hb2,⟨C',dx,ns',vs,g1,g2,z,q2⟩,_⟩:=R2.at el;cases Jd (hb.symm.trans hb2);rw[k1]at g1;cases g1;have il:i<ns.length:=(Ja.mp k3).1;have hsz:=hsm c C ns k1;refine⟨b,C,dx,_,rfl,g2,k4,k5,by rw[V7];omega,?_⟩
     rw[zGG k2 k3 (by rw[←q2.length];exact hi) z]
     have ll:=q2.length;refine AftS.nx h2 (Rel.write (o:=.ins C dx (ns.zip (if i<vs.length then vs.set i v else vs++[v]))) R2 el (fun z=>by cases z) (fun z=>by cases z) hb ⟨C,dx,ns,_,k1,Ju,?_,?_⟩) (RS.mono p2 s2 S1)
     ·split
      ·rw[JQ];exact z
      ·rw[Jl,List.length_singleton];omega
     ·rw[←ll];split
      ·exact RWs.set (RW.mono p2 s2 u1) i q2
      ·exact q2.append (.cons (RW.mono p2 s2 u1) .nil)
    ·exact h2.elim
   ·exact h2.elim
  ·exact h2.elim
 ·exact h2.elim
theorem PSsT.nox{st:List Stmt}{t:TS} (h:PSsT X.nox st t):PSsT X st t:=fun pins s σ H D h0 I hw =>
 V5 (h pins s σ H D h0 (I.wish _) hw) (fun _ _ q=>q.unwish) fun _ _ z=>False.elim z
theorem zQ0{P:Program}{w:World}{mg:Str→Option Value}{base:Heap}{N ps:List Str}{qual:Str}{body:List Stmt}{scope:Scope}{f:Addr}{cd:Value}{A:Around}{outer:List Env}{s:Shared}{H:Hp}{E E':XK}{m:SMm}{vs:List V}{Q:VK} (S:FnScope N ps scope)
  (hb:SSst K cl (cxD P w K mg base N qual scope f cd A outer s H E) WF m body) (h:spF K cl (runF ps.length N.length m) vs H Q E'):TSs1 (cxD P w K mg base N qual scope f cd A outer s H E) body { nx:=fun _ H'=>Q .non H',rt:=Q } (L2.start N vs) H:=by
 obtain⟨ρ0,G0,st0,ws,R,r,a⟩:=h;unfold runF at a;split at a
 case isFalse=>exact a.elim
 rename_i hl
 have lv:vs.length=ps.length:=by rw[←r.length];exact hl
 refine hb.run ⟨strip H,ρ0.length,G0⟩ ρ0 G0 (ws.map some++List.replicate (N.length-ps.length) none) st0 (L2.start N vs) H _ R ?_ ?_
 ·unfold L2.start;rw[lv];refine⟨by rw[Jl,Jl,Jb,Jb,hl,lv,Vk,Vk],fun i w' e=>?_⟩
  rcases zDY e with⟨h1,h2⟩|⟨h1,h2⟩
  ·rw[Jb]at h1;rw[Ji]at h2;cases q:ws[i]? with
   |none=>rw[q]at h2;cases h2
   |some u =>
    rw[q]at h2;have h2:some (some u)=some (some w'):=h2;cases h2;obtain⟨v,ev,rv⟩:=r.get q;refine⟨v,?_,rv⟩;rw[Jh (by rw[Jb,lv,←hl];exact h1),Ji,ev];rfl
  ·rw[Vo]at h2;split at h2<;>cases h2
 ·generalize m (ws.map some++List.replicate (N.length-ps.length) none) st0=res at a ⊢;cases res with
  |no=>exact a.elim
  |exc x σ st=>exact a.elim
  |ok fl σ st =>
   cases fl with
   |nx=>exact fun ρ' G' H' τ' p s R' S'=>a ρ' G' H' .non p s R' RP.non
   |rt u=>exact fun ρ' G' H' τ' p s R' S' v rv=>a ρ' G' H' v p s R' rv
   |bk=>exact a.elim
   |ct=>exact a.elim
theorem Fk.ofT{P:Program}{w:World}{mg:Str→Option Value}{base:Heap}{N ps:List Str}{x qual:Str}{params:Arguments}{body:List Stmt}{scope:Scope}{f:Addr}{k:Nat}{m:SMm}
  (F:∃fd,FunD K x qual params body scope [] [] f fd) (S:FnScope N ps scope) (hnc:∀y∈scope.names,y.2≠.cell) (hps:1≤ps.length) (bd:∀(kV doc pm:Value) (an:Option Addr) (cdv ct:Value) (us:List Value),us.length=ps.length→bindArgs (PySem.W.fnOf x qual params body scope .none kV doc pm an cdv ct) ⟨us,[]⟩=pure (ps.zip us))
  (hb:∀(cd:Value) (A:Around) (outer:List Env) (s:Shared) (H:Hp) (E:XK),GX K (cxD P w K mg base N qual scope f cd A outer s H E)→Room k (A.deeper (envOfC qual scope s.heap.objs.size f cd))→SSst K cl (cxD P w K mg base N qual scope f cd A outer s H E) WF m body) :
  Fk P w K mg base cl (k+1) f ps (runF ps.length N.length m):=by
 obtain⟨fd,F⟩:=F;refine⟨⟨fd,?_,F.bindsN bd⟩,F.kp⟩;obtain⟨oc,od,dV,kV,doc,pm,an,cdv,ct,osl,rfl,lk,hcd,_,_⟩:=F.ex;refine fn_ofT lk hcd S hnc hps (fun vs H Q E h=>?_) fun A outer s H vs Q E hr h=>⟨TSs1 (cxD P w K mg base N qual scope f cdv A outer s H E) body,PSsT.nox TSs1.psst,zQ0 S (hb cdv A outer s H E (zRE S hr) hr) h⟩
 obtain⟨ρ0,G0,st0,ws,R,r,a⟩:=h;unfold runF at a;split at a
 ·rename_i hl;rw[←r.length];exact hl
 ·exact a.elim
def zFA(f:W→W→List Cell→Res W) (cs:List (Nat×Nat)) (o m:EM):SMm:=fun σ st=>(o σ st).to σ fun w st1=>match w with
 | .r j=>match st1[j]? with
  |some (.ins c l)=>match cs.lookup c with
   |some i=>match l[i]? with
    |some x=>(m σ st1).to σ fun y st2=>match f x y st2 with
     | .ok z st3=>match st3[j]? with
      |some (.ins c' l')=>if c'=c∧i<l'.length then .ok .nx σ (st3.set j (.ins c (l'.set i z)))else .no
      |_=>.no
     |_=>.no
    |none=>.no
   |none=>.no
  |_=>.no
 |_=>.no
theorem zDk{op:Operator}{rd:R2}{f:W→W→List Cell→Res W}{cs:List (Nat×Nat)}{o m:EM}{eo e:Expr}{fn:Str}{pos pos':Pos} (g:GX K X) (hf:∀q∈cs,zGW K cl fn q.1 q.2) (hsm:∀(c:Nat) (C:Addr) (ns:List Str),cl[c]?=some (C,ns)→ns.length<1000) (ho:SE K cl X Wx o eo) (h:SE K cl X Wx m e) (hop:OpR X (inplaceOp op) rd) (hv:VOp K cl f rd) :
  SS K cl X Wx (zFA f cs o m) (.AugAssign (.Attribute eo fn pos') op e pos):=by
 obtain⟨hK,_⟩:=g;subst hK;refine⟨fun E0 ρ G σ st τ H D R S q=>TS'.of (ps_fldaug (rd:=rd) T.pe T.pe (fun pins s σ H x y u v Q I rx ry h=>hop pins s σ H x y u v Q I rx ry h)) ?_⟩
 refine ho.run E0 ρ G σ st τ H _ R S (AftS.seq S q fun w st1 ρ1 G1 H1 ov e1 p1 s1 R1 u1 h1=>?_)
 have S1:=RS.mono p1 s1 S;split at h1
 ·rename_i j
  obtain⟨b,hb,rfl⟩:=u1;split at h1
  ·rename_i c l el
   split at h1
   ·rename_i i ei
    split at h1
    ·rename_i x ex
     obtain⟨C,ns,k1,k2,k3,k4,k5⟩:=(hf (c,i) (lookup_mem ei)).ex;obtain⟨b2,hb2,⟨C',dx,ns',vs,g1,g2,z,q2⟩,_⟩:=R1.at el;cases Jd (hb.symm.trans hb2);rw[k1]at g1;cases g1;obtain⟨v,ev,rv⟩:=q2.get ex;refine⟨b,C,dx,_,v,rfl,g2,k4,k5,zC2 k2 k3 ev,?_⟩;refine h.run E0 ρ1 G1 σ st1 τ H1 _ R1 S1 (AftS.seq S1 h1 fun y st2 ρ2 G2 H2 u e2 p2 s2 R2 u2 h2=>?_)
     have S2:=RS.mono p2 s2 S1;refine hv E0 ρ2 G2 st2 H2 x y v u _ (fun _ _ _=>False) R2 (RW.mono p2 s2 rv) u2 ?_
     generalize f x y st2=res at h2 ⊢;cases res with
     |no=>exact h2.elim
     |exc x st=>exact h2.elim
     |ok zz st3 =>
      intro ρ3 G3 H3 zv p3 s3 R3 u3;dsimp only at h2;split at h2
      ·rename_i c' l' el3
       split at h2
       ·rename_i hh
        obtain⟨rfl,hi⟩:=hh
        have hb3:ρ3[j]?=some b:=by
         obtain⟨t3,rfl⟩:=p3;obtain⟨t2,rfl⟩:=p2;have hj:j<ρ1.length:=(Ja.mp hb).1;rw[Jh (by rw[Jl];omega),Jh hj];exact hb
        obtain⟨b4,hb4,⟨C4,dx4,ns4,vs4,g41,g42,z4,q4⟩,_⟩:=R3.at el3;cases Jd (hb3.symm.trans hb4);rw[k1]at g41;cases g41;have hsz:=hsm _ C ns k1;have ll:=q4.length;refine⟨dx4,_,g42,by rw[V7];omega,?_⟩
        rw[zGG k2 k3 (by rw[←ll];omega) z4,Jm (by rw[←ll];exact hi)]
        refine AftS.nx (AftS.mono p3 s3 h2) (Rel.write (o:=.ins C dx4 (ns.zip (vs4.set i zv))) R3 el3 (fun z=>by cases z) (fun z=>by cases z) hb3 ⟨C,dx4,ns,_,k1,Ju,by rw[JQ];exact z4,RWs.set u3 i q4⟩) (RS.mono p3 s3 S2)
       ·exact h2.elim
      ·exact h2.elim
    ·exact h1.elim
   ·exact h1.elim
  ·exact h1.elim
 ·exact h1.elim
def zJM(c n:Nat) (F:FM) (ws:List W) (st:List Cell):Res W :=
 if(zAU ws).Nodup then match getCells st (zAU ws)with
  |some cs=>match F (.r 0::zC9 1 ws) (.ins c []::cs)with
   | .ok (.p .non) st'=>if((st'.drop 1).take (zAU ws).length).all zBS=true∧1+(zAU ws).length≤st'.length then match(st'[0]?:Option Cell)with
     |some (Cell.ins c' l)=>if zBS (.ins c' l)=true∧c'=c∧l.length=n then .ok (.r st.length) (putCells (zAU ws) (st'.drop 1) st++[.ins c' l])else .no
     |_=>.no
    else .no
   |_=>.no
  |none=>.no
 else .no
def zL9(c n:Nat) (F:FM) (a:AM):EM:=fun σ st=>(a σ st).bind fun ws st1=>zJM c n F ws st1
theorem zNk{c n:Nat}{F:FM}{C:Addr}{ns:List Str}{ws:List W}{vs:List V}{Q:VK}{Z:ZX}{E:XK} (hC:cl[c]?=some (C,ns)) (R:(bs K cl E0).Rel ρ G st H) (r:RWs K cl ρ G ws vs) (h:Aft (bs K cl E0) (bs K cl E0).RW ρ G (zJM c n F ws st) Q Z)
  {x dx:Addr} (hx:H x=none) (hdx:H dx=none) (hne:dx≠x):spF K cl F (.ref x::vs) (upd (upd H dx (.own x)) x (.ins C dx [])) (fun v H2=>v=.non∧Q (.ref x) H2) E:=by
 unfold zJM at h;split at h
 case isFalse=>exact h.elim
 rename_i nd
 split at h
 case h_2=>exact h.elim
 rename_i cs hc
 generalize hHm:upd (upd H dx (.own x)) x (.ins C dx [])=Hm
 have up:Sub H Hm:=fun a o e=>by
  rw[←hHm,JF (VF e hx),JF (VF e hdx)];exact e
 have nx:∀y∈[x],H y=none:=fun y m=>by
  have:y=x:=by simpa using m
  subst this;exact hx
 have lr:(rhos ρ (zAU ws)).length=(zAU ws).length:=Jb ..;refine⟨[x]++rhos ρ (zAU ws),G,[.ins c []]++cs,.r 0::zC9 1 ws,Rel.enter R nd hc up nx (by simp) rfl (fun i d y e1 e2=>?_),.cons ⟨x,rfl,rfl⟩ (zD9 1 r fun j i e=>?_),?_⟩
 ·have hi:i=0:=by
   have:=(Ja.mp e1).1
   simpa using this
  subst hi;cases e1;cases e2;exact⟨C,dx,ns,[],hC,by rw[←hHm,Ju];simp,JI _,.nil⟩
 ·obtain⟨a,h1,h2⟩:=zFJ R hc e;refine⟨a,h1,?_⟩;rw[JA (by simp)]
  show(rhos ρ (zAU ws))[1+j-1]?=some a;rw[show 1+j-1=j by omega];exact h2
 ·have e0:([.ins c []]++cs:List Cell)=.ins c []::cs:=rfl;rw[e0];generalize F (.r 0::zC9 1 ws) (.ins c []::cs)=res at h ⊢;split at h
  case h_2=>exact h.elim
  rename_i st'
  intro ρ' G' H' v p s R' u;cases u
  by_cases hp:((st'.drop 1).take (zAU ws).length).all zBS=true∧1+(zAU ws).length≤st'.length
  case neg=>rw[Js hp]at h;exact h.elim
  rw[Jm hp]at h;split at h
  case h_2=>exact h.elim
  rename_i c' l e1
  split at h
  case isFalse=>exact h.elim
  rename_i hh
  obtain⟨hpl,rfl,hm⟩:=hh;have R2:=Rel.ret R nd hc up nx p s R' hp.1 (by simpa using hp.2)
  have px:ρ'[0]?=some x:=by
   obtain⟨tl,rfl⟩:=p;rfl
  have k:=R'.cell 0 _ x e1 px;have gx:G' x=none:=(R'.sep 0 _ x e1 px).resolve_left (fun z=>by cases z)
  have R3:=Rel.adoptC (c:=.ins c' l) R2 (fun z=>by cases z) gx (fun i e=>by
   obtain⟨o,q⟩:=R.there e
   rw[hx]at q;cases q) (R.fresh0 hx) (CA.plain hpl k)
  refine⟨rfl,h (ρ++[x]) G' H' (.ref x) (JY _ _) s R3 ⟨x,?_,rfl⟩⟩;rw[←R.len];simp
theorem makeCK{f C:Addr}{ns:List Str}{c n:Nat}{ps:List Str}{F:FM}{a:AM}{k:Nat}{x:Str}{p pos:Pos}{e:Expr}{es:List Expr} (h:Fk X.prog X.w X.K X.mg X.base cl k f ps F) (g:GX K X) (hr:Room (k+1) X.A) (hC:cl[c]?=some (C,ns)) (hn:ns.length=n) (M:Mk K C f) (hg:Gl X x) (hm:X.mg x=some (.ref C))
  (ha:SA K cl X Wx a (e::es)) (hdb:(x==("__debug__" : Str))=false) (he:starEach (e::es) X.env=(false,eval e X.env)::starEach es X.env:=by rfl) (hpl:(backTo pos (starEach es X.env)).any (·.1)=false:=by rfl) :
  SE K cl X Wx (zL9 c n F a) (.Call (.Name x p) (e::es) [] pos):=by
 obtain⟨hK,_⟩:=g;subst hK;obtain⟨fd,h1,h2⟩:=h.ex;refine⟨fun E0 ρ G σ st τ H Q R S h=>T.of (pe_make (E:=L2.E0) M h1 hr hg hm h2 .nil pass0 TA'.pa hdb he hpl) ?_⟩
 refine ha.run E0 ρ G σ st τ H _ R S (Aft.seq h fun ws st1 ρ1 G1 H1 vs e1 p1 s1 R1 u1 h1=>?_)
 intro y dx hy hdx hne;rw[JK];exact zNk hC R1 u1 h1 hy hdx hne
end
structure zI2 (K:PySem.W.Frag) (w:World) (d:Addr) (kvs:List (Str×Str)):Prop where
 ex:∃(es:Array DictEntry) (n:Nat) (us:List (Key×Value)),K.lookup d=some ⟨.type "dict",none,.dict es n,#[]⟩∧(d==sysModules)=false∧KV (kvs.map fun q=>((Sum.inr q.1:Key),V.str q.2)) us∧(us.map (·.1)).Nodup ∧
  (∀P:Program,KeysOf (mixKind P w) es)∧∀P:Program,Pairs (mixKind P w) es.toList us
theorem find_key:∀ {l:List DictEntry}{x:Str}{t:Tok}{e:DictEntry}{P:Params},(l.map He.keyOf).Nodup→PySem.W.KeysLit P l→e∈l→e.key=.str x t→l.find? (·.key.isStr x)=some e
 |[],_,_,_,_,_,_,h,_=>by cases h
 |e0::r,x,t,e,P,nd,kl,h,hk=>by
  obtain⟨⟨x0,t0,k0,h0⟩,kr⟩:=kl;obtain⟨n0,nr⟩:=Vb.mp nd;rw[VR]
  by_cases c:x0=x
  ·subst c;have hs:e0.key.isStr x0=true:=by rw[k0];simp[Value.isStr]
   rw[hs];rcases Jr.mp h with q|q
   ·rw[q]
   ·exfalso;apply n0;obtain⟨x1,t1,k1,h1⟩:=PySem.W.KeysLit.all kr e q;have e1:x1=x0:=by rw[hk]at k1;cases k1;rfl
    subst e1
    have:He.keyOf e0=He.keyOf e:=by unfold He.keyOf;rw[k0,hk,h0,h1]
    rw[this];exact List.mem_map_of_mem q
  ·have hs:e0.key.isStr x=false:=by rw[k0];simp[Value.isStr,c]
   rw[hs];rcases Jr.mp h with q|q
   ·subst q;rw[k0]at hk;cases hk;exact absurd rfl c
   ·exact find_key nr kr q hk
theorem zHP{w:World}:∀ {l:List DictEntry}{kvs:List (Str×Str)},l.map He.keyOf=He.keysIn w.params (kvs.map (·.1))→(∀e∈l,∀q∈kvs,∀t,e.key=.str q.1 t→∃u,e.val=.str q.2 u) →
  ∃us:List (Key×Value),KV (kvs.map fun q=>((Sum.inr q.1:Key),V.str q.2)) us∧us.map (·.1)=kvs.map (fun q=>(Sum.inr q.1:Key))∧(∀P:Program,∀e∈l,∃k,(mixKind P w).is k e.key=true∧e.hash=(mixKind P w).hash k)∧∀P:Program,Pairs (mixKind P w) l us
 |[],[],_,_=>⟨[],.nil,rfl,fun _ _ h=>(by cases h),fun _=>.nil⟩
 |[],_::_,h,_=>by cases h
 |_::_,[],h,_=>by cases h
 |e::l,(x,y)::kvs,h,hv=>by
  have h':He.keyOf e::l.map He.keyOf=some (x,PyData.keyHash w.params x)::He.keysIn w.params (kvs.map (·.1)):=h
  injection h' with h1 h2
  obtain⟨us,a,b,c,d⟩:=zHP h2 fun e' he q hq t hk=>hv e' (Jg _ he) q (Jg _ hq) t hk
  unfold He.keyOf at h1;split at h1
  ·rename_i x' t hk
   have h3:=Jd h1;obtain⟨h4,h5⟩:=bu h3;subst h4;obtain⟨u,hu⟩:=hv e Jc (x',y) Jc t hk;have hi:keyIs (Sum.inr x') e.key=true:=by rw[hk];simp[keyIs,Value.isStrOf]
   refine⟨(Sum.inr x',e.val)::us,.cons ⟨rfl,by rw[hu];exact⟨u,rfl⟩⟩ a,by simp[b],fun P e' he=>?_,fun P=>.cons hi rfl (d P)⟩
   rcases Jr.mp he with q|q
   ·subst q;exact⟨Sum.inr x',hi,h5⟩
   ·exact c P e' q
  ·cases h1
theorem zON{K:PySem.W.Frag}{w:World}{a:Addr}{kvs:List (Str×Str)} (h:He.dicW K a=some (He.keysIn w.params (kvs.map (·.1)))) (hv:He.valsB K a (kvs.map fun q=>(q.1,He.Dv.str q.2))=true) (nd:(kvs.map (·.1)).Nodup):zI2 K w a kvs:=by
 have hn:=He.dicW_ok h;obtain⟨es,n,kd⟩:=hn
 have e1:es.toList.map He.keyOf=He.keysIn w.params (kvs.map (·.1)):=by
  have h2:=h;unfold He.dicW at h2;rw[kd.at_]at h2;have e3:(match decide ("dict" = "dict")&&((#[]:Array (Option Value)).isEmpty && !(a==sysModules))with|true=>some (es.toList.map He.keyOf)|false=>none)=some (He.keysIn w.params (kvs.map (·.1))):=h2
  rw[kd.low]at e3;exact Jd e3
 have ndk:(es.toList.map He.keyOf).Nodup:=by
  rw[e1];unfold He.keysIn;exact List.Pairwise.map _ (fun x y q z=>q (by injection z with z;exact(bu z).1)) nd
 have kl:=He.keysLit_of e1
 obtain⟨us,p1,p2,p3,p4⟩:=zHP e1 fun e he q hq t hk=>by
  have hf:=find_key ndk kl he hk;obtain⟨u,h1,h2⟩:=He.valsB_ok hv (q:=(q.1,He.Dv.str q.2)) (Jx.mpr ⟨q,hq,rfl⟩);obtain⟨t',rfl⟩:=h2;unfold PySem.W.nsIn at h1;rw[kd.at_]at h1;have h1':(match es.toList.find? (·.key.isStr q.1)with|some e=>some (some e.val)|none=>if es.toList.any (·.refKey)then none else some none)=some (some (Value.str q.2 t')):=h1
  rw[hf]at h1';have h3:=Jd (Jd h1');exact⟨t',h3⟩
 refine⟨es,n,us,kd.at_,kd.low,p1,?_,fun P e he=>p3 P e (by simpa using he),p4⟩
 rw[p2]
 have:kvs.map (fun q=>(Sum.inr q.1:Key))=(kvs.map (·.1)).map Sum.inr:=by rw[Jy];rfl
 rw[this];exact List.Pairwise.map _ (fun x y q z=>q (by injection z)) nd
def ItT(kvs:List (Key×V)):It :=
 ⟨fun i H=>i<kvs.length,fun i H x H'=>∃T k v,kvs[i]?=some (k,v)∧x=.ref T∧H T=none∧H'=upd H T (.tup [kV k,v]),fun i H=>kvs.length≤i⟩
theorem zI2.at_{K:PySem.W.Frag}{w:World}{d:Addr}{es:Array DictEntry}{n:Nat}{us:List (Key×Value)}{h:Heap}{P:Program} (hl:K.lookup d=some ⟨.type "dict",none,.dict es n,#[]⟩) (X:K.In h) (nd:(us.map (·.1)).Nodup) (ko:KeysOf (mixKind P w) es) (pr:Pairs (mixKind P w) es.toList us):h.DictAt (mixKind P w) d us n :=
 ⟨_,es,X d _ hl,⟨rfl,rfl,rfl⟩,rfl,ko,pr,nd⟩
section
variable {P:Program}{w:World}{K:PySem.W.Frag}{tg:Expr}{d:Addr}{es:Array DictEntry}{ep:Nat}{us:List (Key×Value)}
theorem zI6{kvs:List (Key×V)}{elts:List Expr}{kk:Nat}{tpos:Pos} (it:Addr) (hl:K.lookup d=some ⟨.type "dict",none,.dict es ep,#[]⟩) (kv:KV kvs us) (nd:(us.map (·.1)).Nodup) (ko:KeysOf (mixKind P w) es) (pr:Pairs (mixKind P w) es.toList us) :
  Turn P w K (.Tuple elts kk tpos) (ItT kvs) [it] it (fun i h=>∃ok ov,IsItemIter h it d i kvs.length ep ok ov) where
 mem:=by simp
 obj:=fun i h st b hb=>by
  have e:b=it:=by simpa using hb
  subst e;obtain⟨ok,ov,e⟩:=st;exact⟨_,e,fun v z=>nomatch z⟩
 keep:=fun i h h' st k=>let ⟨ok,ov,e⟩:=st;⟨ok,ov,k it (by simp) _ e⟩
 item:=by
  intro X hP hw hK hc i pins s σ H E I hf st hi;subst hP hw hK;have hi:i<kvs.length:=hi;have hm:=zI2.at_ hl I.kIn nd ko pr;obtain⟨⟨k,v⟩,hkv⟩:∃p,kvs[i]?=some p:=⟨kvs[i],Jf hi⟩;obtain⟨u,hu,ru⟩:=kv_get kv hkv;have hl:kvs.length=us.length:=Y0 kv;obtain⟨ok,ov,he⟩:=st;rw[hl]at he;have hlt:it<s.heap.objs.size:=JB he;refine wpAny_pyNext_items_item he hm hu fun key h' hkey ho hT hz hk=>?_
  refine⟨_,rfl,wpAny_letOwnedTupleGo_items (s := { s with heap:=h' }) ho fun h'' he' sb=>?_⟩
  have hT2:h''.get? s.heap.objs.size=some { cls:=.type "tuple",data:=.seq #[key,u] }:=(sb.2 _ (Nat.ne_of_gt hlt)).trans hT
  have new:ObjOk X.prog X.w (upd H s.heap.objs.size (.tup [kV k,v])) h'' s.heap.objs.size (.tup [kV k,v]) :=
   ⟨by show 2≤sizeLine;decide,[key,u],.cons (relV_key (show keyIs k key=true from hkey)) (.cons ru .nil),⟨_,hT2,rfl,_,rfl⟩⟩
  have I1:Inv X pins σ (upd H s.heap.objs.size (.tup [kV k,v])) { s with heap:=h'' } :=
   I.turnedNew (t':=s.toks) (ch:=[it]) (fun b ob hb e=>(sb.2 b (by simpa using hb)).trans (hk b ob (by simpa using hb) e)) hf (Jq _) new
  refine⟨.ref s.heap.objs.size,_,I1,rfl,⟨_,k,v,hkv,rfl,I.hok.fresh (Jq _),rfl⟩,⟨key,u,?_⟩,fun b hb=>?_⟩
  ·rw[hl];exact he'
  ·have e:b=it:=by simpa using hb
   rw[e,JF (VA hlt)];exact(hf it (by simp)).1
 done:=by
  intro X hP hw hK hc i pins s σ H E I hf st hi;subst hP hw hK;have hi:kvs.length≤i:=hi;obtain⟨f0,f1,f2,f3,f4,f5⟩:=hf it (by simp)
  have hm:=zI2.at_ hl I.kIn nd ko pr;have hl:kvs.length=us.length:=Y0 kv;obtain⟨ok,ov,he⟩:=st;rw[hl]at he;exact wpAny_pyNext_items_end (I.ok.hd hc) he hm (Jw ∅) fun h' eb=>⟨rfl,I.turned (t':=s.toks) (fun b ob hb e=>eb b ob hb e) f0 f1 f3 f4 f5⟩
 self:=fun A i s Q E st h=>let ⟨_,_,e⟩:=st;PySem.W.kcp_self e h
end
section
variable {K:PySem.W.Frag}{cl:Cls}{X:Cx}{Wx:WX}{E0:En}{ρ ρ':List Addr}{G G':Hp}{σ:Sg}{τ:L2.St}{st:List Cell}{H:Hp}{D:Ends}
theorem zNa{e:Expr}{d:Addr}{elts:List Expr}{kk:Nat}{tpos apos cpos:Pos}{kvs:List (Str×Str)} (tb:zI2 X.K X.w d kvs) (he:PE X e (tC (.ref d))) (hbase:attributeBase e "items" X.env (eval e X.env)=eval e X.env) (hline:(apos.endLine==cpos.line)=true) :
  PI X (.Tuple elts kk tpos) (.Call (.Attribute e "items" apos) [] [] cpos) (fun σ H R=>R (ItT (kvs.map fun q=>((Sum.inr q.1:Key),V.str q.2))) H):=by
 obtain⟨es,ep,us,lk,hs,kv,nd,ko,pr⟩:=tb.ex;refine⟨fun pins s σ H R I h=>?_⟩
 refine wpAny_Call_method (T := "dict") (id := "dict.items") hbase rfl hline F.plainAttrs_dict F.slot_dict_items F.type_dict_items (thn (he.run pins s σ H (fun x H1=>x=.ref d∧H1=H) I ⟨rfl,rfl⟩) fun u s1 ⟨x,H1,I1,rx,ex,eH⟩=>?_)
 subst ex eH;obtain rfl:u=Value.ref d:=rx;have hm:=zI2.at_ (P:=X.prog) lk I1.kIn nd (ko _) (pr _);have hl:(kvs.map fun q=>((Sum.inr q.1:Key),V.str q.2)).length=us.length:=Y0 kv
 refine⟨hm.dictOf.typeIs,hm.dictOf.mapOf.noDict,?_⟩;have I2:Inv X pins σ H1 { s1 with heap:=s1.heap.push { cls:=.type "dict_items",data:=.fields #[.ref d] } }:=I1.kept (t':=s1.toks) fun b ob q=>Jo _ q
 have fin:wpAny (model X.prog X.w) X.A (pyIter (.ref s1.heap.objs.size)) (PIE X pins σ (.Tuple elts kk tpos) R) X.xe { s1 with heap:=s1.heap.push { cls:=.type "dict_items",data:=.fields #[.ref d] } }:=by
  refine wpAny_pyIter_items (d:=d) (knd:=mixKind X.prog X.w) ⟨_,JH _ rfl,rfl,rfl⟩ (hm.push _) (pi_one (tk:=s1.toks) I2 _ (zI6 _ lk kv nd (ko _) (pr _)) ⟨.none,.none,?_⟩ h);rw[hl];exact JH _ rfl
 show wpAny _ _ (callWith cpos (.builtin "dict.items") [.ref d] [] []) _ X.xe s1;exact method_meetsIn F.slot_dict_items F.entry_dict_items rfl (PySem.evalArgs_none ⟨rfl,hm.dictOf.typeIs,F.args_dict_items_1 _,_,meets_dict_items (mixKind X.prog X.w) d hs,⟨us,hm.dictOf⟩,fin⟩)
def zJV(kvs:List (Str×Str)):List W:=kvs.map fun q=>W.p (.tup [.str q.1,.str q.2])
def mItT(kvs:List (Str×Str)):IM:=fun _ st=>.ok (srcL (zJV kvs)) st
theorem zLY{kvs:List (Str×Str)}:WOk K cl ρ G (ItT (kvs.map fun q=>((Sum.inr q.1:Key),V.str q.2))) (srcL (zJV kvs)):=by
 intro E0 ρ' G' st H i p s R;show match some (zJV kvs)[i]? with|none=>True|some none=>_|some (some w)=>_
 unfold zJV;rw[Ji];cases e:kvs[i]? with
 |none=>exact(by rw[Jb];exact J5.mp e:(kvs.map fun q=>((Sum.inr q.1:Key),V.str q.2)).length≤i)
 |some q =>
  refine⟨(by rw[Jb];exact(Ja.mp e).1:i<(kvs.map fun q=>((Sum.inr q.1:Key),V.str q.2)).length),fun y H' yl=>?_⟩
  obtain⟨T,k',v',e',rfl,hT,rfl⟩:=yl;rw[Ji,e]at e';cases e';have sn:=Sub.new (o:=.tup [V.str q.1,V.str q.2]) (R.gnone hT);exact⟨_,sn,R.froze hT,RP.tup (.inl (.inl Ju)) (RPs.strs [_,_])⟩
theorem zL5{x:Str}{d:Addr}{kvs:List (Str×Str)}{p apos cpos tpos:Pos}{elts:List Expr}{kk:Nat} (g:GX K X) (tb:zI2 K X.w d kvs) (hg:Gl X x) (hm:X.mg x=some (.ref d)) (hd:(x==("__debug__" : Str))=false)
  (hbase:attributeBase (.Name x p) "items" X.env (eval (.Name x p) X.env)=eval (.Name x p) X.env:=by rfl) (hline:(apos.endLine==cpos.line)=true:=by rfl) :
  SI K cl X Wx (.Tuple elts kk tpos) (mItT kvs) (.Call (.Attribute (.Name x p) "items" apos) [] [] cpos):=by
 obtain⟨hK,_⟩:=g;subst hK;refine⟨fun E0 ρ G σ st τ H R Rl S q=>TIc.of (zNa tb (zJX hg hm hd) hbase hline) ?_⟩
 exact q ρ G H _ (Je _) (Sub.refl _) Rl zLY
end
def zOT(a:EM) (r:AM):AM:=fun σ st=>(a σ st).bind fun w st1=>match w with
 | .r i=>match st1[i]? with
  |some (.lst l)=>(r σ st1).bind fun ws st2=>.ok (l++ws) st2
  |_=>.no
 |_=>.no
section
variable {K:PySem.W.Frag}{cl:Cls}{X:Cx}{Wx:WX}{ρ:List Addr}{G:Hp}
theorem zQe{a:EM}{r:AM}{e:Expr}{es:List Expr}{p:Pos} (g:GX K X) (ha:SE K cl X Wx a e) (hr:SA K cl X Wx r es) (hs:starEach (.Starred e p::es) X.env=(true,eval e X.env)::starEach es X.env:=by rfl):SA K cl X Wx (zOT a r) (.Starred e p::es):=by
 obtain⟨hK,_⟩:=g;subst hK;refine⟨fun E0 ρ G σ st τ H Q R S h=>TA'.of (StX.pa_star T.pe TA'.pa hs) ?_⟩
 refine ha.run E0 ρ G σ st τ H _ R S (Aft.seq h fun w st1 ρ1 G1 H1 v e1 p1 s1 R1 u1 h1=>?_)
 split at h1
 ·rename_i i
  split at h1
  ·rename_i l el
   obtain⟨b,vs,rfl,hb,hl,q⟩:=zFO R1 u1 el;refine⟨b,vs,rfl,.inr (.inl (.inl hl)),?_⟩;refine hr.run E0 ρ1 G1 σ st1 τ H1 _ R1 (S.mono p1 s1) (Aft.seq h1 fun ws st2 ρ2 G2 H2 us e2 p2 s2 R2 u2 h2=>?_)
   exact Aft.here (b:=vs++us) h2 R2 (zNf (q.mono p2 s2) u2)
  ·exact h1.elim
 ·exact h1.elim
end
section
variable {X:Cx}{tg iter:Expr}{body:List Stmt}{wi:TI}{g:TG}{tb:TS}{pos:Pos}
theorem thnT{α:Type}{M:Model}{A:Around}{t:Sem α}{Q R:α→Shared→Prop}{E:Value→Shared→Prop}{s:Shared} (h0:1≤s.toks) (h:wpAny M A t Q E s) (f:∀a s',1≤s'.toks→Q a s'→R a s'):wpAny M A t R E s :=
 V5 (PySem.wpAny_toks_of h0 h) (fun a s' q=>f a s' q.1 q.2) fun _ _ q=>q.2
theorem zN8(hp:PassesOwn (model X.prog X.w) X.A X.env X.xe) (hc:X.calm=true) (hi:PI X tg iter wi) (hg:PG X tg g) (hb:PSsT X body tb)
  (hs:∀x,foldedSetIterable iter X.env x=pure x:=by intro _;rfl):PST X (.For tg iter body [] pos) (tFor wi g tb):=by
 intro pins s σ H D h0 I h;refine wpAny_For (thnT h0 (hi.run pins s σ H _ I h) fun v s1 k1 h1=>thnT k1 h1 fun itv s2 k2 h2=>?_) hs
 obtain⟨it,fp,tn,J,H2,e,I2,T,st2,f2,W,⟨m0,w0⟩,turn⟩:=h2;subst e;have stat:∀ {H':Hp},(∀b∈fp,H' b=none)→∀b∈fp,FpOk X pins H' b:=fun hn b hb=>⟨hn b hb,(f2 b hb).2⟩
 refine codeAny_forLoop_any (fun n s'=>∃i σ' H',1≤s'.toks∧Inv X pins σ' H' s'∧tn i s'.heap∧(∀b∈fp,H' b=none)∧W i n σ' H') ?_ m0 ⟨0,σ,H2,k2,I2,st2,fun b hb=>(f2 b hb).1,w0⟩
 rintro n s3 ⟨i,σ3,H3,k3,I3,st3,fr3,w3⟩;rcases turn i n σ3 H3 w3 with⟨stop,qn⟩|⟨go,N,hN,step⟩
 ·refine Yb hp (thn (T.done X rfl rfl rfl hc i pins s3 σ3 H3 X.xe I3 (stat fr3) st3 stop) fun r s4 ⟨hr,I4⟩=>?_)
  subst hr;exact wpAny_execs_nil ⟨σ3,H3,I4,qn⟩
 ·refine Yb hp (thnT k3 (T.item X rfl rfl rfl hc i pins s3 σ3 H3 X.xe I3 (stat fr3) st3 go) fun r s4 k4 ⟨u,hr,h4⟩=>?_)
  subst hr;refine Yb hp (thnT k4 h4 fun _ s5 k5 ⟨x,H5,I5,r5,y5,st5,fr5⟩=>?_)
  have I5':=I5.pinned (stat fr5) (T.obj _ _ st5);refine Yb hp (thnT k5 (hg.run _ s5 σ3 H5 x u _ I5' r5 (step x H5 y5)) fun _ s6 k6 ⟨σ6,H6,I6,q6⟩=>?_)
  refine Yb hp (thnT k6 (hb _ s6 σ6 H6 _ k6 I6 q6) fun f s7 k7 q7=>?_)
  have again:∀ {σ7:L2.St}{H7:Hp},Inv X (pins++pinsAt fp s5.heap) σ7 H7 s7→N σ7 H7→∃m,m<n∧∃i σ' H',1≤s7.toks∧Inv X pins σ' H' s7∧tn i s7.heap∧(∀b∈fp,H' b=none)∧W i m σ' H':=fun{σ7 H7} I7 n7=>by
   obtain⟨m',hm,w7⟩:=hN σ7 H7 n7;refine⟨m',hm,i+1,σ7,H7,k7,I7.unpinned,T.keep _ _ _ st5 fun b hb o e=>(I7.pin (b,o) (VT _ (VT _ (mem_pinsAt hb e)))).1,fun b hb=>?_,w7⟩
   obtain⟨o,e,d⟩:=T.obj _ _ st5 b hb;exact(I7.pin (b,o) (VT _ (VT _ (mem_pinsAt hb e)))).2.1
  cases f with
  |next=>obtain⟨σ7,H7,I7,n7⟩:=q7;exact again I7 n7
  |cont=>obtain⟨σ7,H7,I7,n7⟩:=q7;exact again I7 n7
  |brk=>obtain⟨σ7,H7,I7,q7⟩:=q7;exact⟨σ7,H7,I7.unpinned,q7⟩
  |ret v=>obtain⟨x7,σ7,H7,I7,r7,q7⟩:=q7;exact⟨x7,σ7,H7,I7.unpinned,r7,q7⟩
end
section
variable {K:PySem.W.Frag}{cl:Cls}{X:Cx}{Wx:WX}
theorem zQM{m:IM}{t:Tg}{b:SMm}{tg iter:Expr}{body:List Stmt}{pos:Pos} (hp:PassesOwn (model X.prog X.w) X.A X.env X.xe) (g:GX K X) (hi:SI K cl X Wx tg m iter) (ht:SG K cl X t tg) (hb:SSst K cl X Wx b body)
  (hs:∀x,foldedSetIterable iter X.env x=pure x:=by intro _;rfl):SSt K cl X Wx (sFor m t b) (.For tg iter body [] pos):=by
 refine⟨fun E0 ρ G σ st τ H D R S q=>TS1.of (zN8 hp g.hc TIc.pi TGc.pg TSs1.psst hs) ?_⟩
 refine hi.run E0 ρ G σ st τ H _ R S (AftS.seq S q fun src st1 ρ1 G1 H1 J e1 p1 s1 R1 wok h1=>?_)
 refine⟨fun i k τ' H'=>∃ρ' G' σ' st',ρ1 <+: ρ'∧Sub G1 G'∧(bs K cl E0).Rel ρ' G' st' H'∧RS K cl ρ' G' σ' τ'∧AftS (bs K cl E0) ρ' G' (forF src t b k i σ' st') D Wx,⟨src.n+1,ρ1,G1,σ,st1,Je _,Sub.refl _,R1,S.mono p1 s1,h1⟩,?_⟩
 rintro i k τ2 H2 ⟨ρ2,G2,σ2,st2,p2,s2,R2,S2,q2⟩;cases k with
 |zero=>exact q2.elim
 |succ k =>
  have w2:=wok E0 ρ2 G2 st2 H2 i p2 s2 R2;unfold forF at q2;cases eg:src.get st2 i with
  |none=>rw[eg]at q2;exact q2.elim
  |some ow =>
   rw[eg]at q2 w2;cases ow with
   |none=>exact .inl ⟨w2,AftS.nx q2 R2 S2⟩
   |some w =>
    dsimp only at q2 w2;refine .inr ⟨w2.1,fun τ' H'=>∃ρ' G' σ' st',ρ1 <+: ρ'∧Sub G1 G'∧(bs K cl E0).Rel ρ' G' st' H'∧RS K cl ρ' G' σ' τ'∧AftS (bs K cl E0) ρ' G' (forF src t b k (i+1) σ' st') D Wx,fun τ' H' z=>⟨k,Vf k,z⟩,fun x H3 y=>?_⟩
    obtain⟨G3,s3,R3,r3⟩:=w2.2 x H3 y;cases ep:t.put w σ2 with
    |none=>rw[ep]at q2;exact q2.elim
    |some σ3 =>
     rw[ep]at q2;dsimp only at q2;refine ht.run ρ2 G3 H3 w x σ2 σ3 τ2 _ R3.sub (S2.mono (Je _) s3) r3 ep fun τ3 S3 _=>?_
     refine hb.run E0 ρ2 G3 σ3 st2 τ3 H3 _ R3 S3 ?_
     cases er:b σ3 st2 with
     |no=>rw[er]at q2;exact q2.elim
     |exc x σ4 st4=>rw[er]at q2;exact AftS.mono (Je _) s3 q2
     |ok f σ4 st4 =>
      rw[er]at q2;cases f with
      |nx=>exact fun ρ4 G4 H4 τ4 p4 s4 R4 S4=>⟨ρ4,G4,σ4,st4,p2.trans p4,s2.trans (s3.trans s4),R4,S4,AftS.mono p4 (s3.trans s4) q2⟩
      |ct=>exact fun ρ4 G4 H4 τ4 p4 s4 R4 S4=>⟨ρ4,G4,σ4,st4,p2.trans p4,s2.trans (s3.trans s4),R4,S4,AftS.mono p4 (s3.trans s4) q2⟩
      |bk=>exact fun ρ4 G4 H4 τ4 p4 s4 R4 S4=>q2 ρ4 G4 H4 τ4 p4 (s3.trans s4) R4 S4
      |rt w=>exact AftS.mono (Je _) s3 q2
end
section
variable {X:Cx}{rest:List Stmt}{u:TS}{es:List Expr}{ta:TA}{pos lp:Pos}
theorem zOa{i j:Nat}{x c:Str}{cp pos':Pos} (hN:X.N.Nodup) (hi:X.N[i]?=some x) (hx:Loc X.env.scope x) (ha:PA X es ta) (h2:PSsT X rest u)
  (he:starEach (.Constant (.str c) j cp::es) X.env=(false,eval (.Constant (.str c) j cp) X.env)::starEach es X.env) (hs:swapsWith (.List (.Constant (.str c) j cp::es) lp) (some (.Name x pos')) pos.line X.env=pure false)
  (hf:X.fn x=true∨X.env.scope.names.lookup x=some .local) :
  PSs X (.Assign [.Name x pos'] (.List (.Constant (.str c) j cp::es) lp) pos::rest) (tSeq (tAsg (tLst (tCons (tC (.str c)) ta)) (gName i)) u):=by
 refine⟨fun pins s σ H D I h=>?_⟩
 refine wpAny_execs_cons (wpAny_Assign_Name (wpAny_List_spliced ?_) hs);rw[he];show wpAny _ _ (spliced ((false,eval (.Constant (.str c) j cp) X.env)::backTo lp (starEach es X.env))) _ _ s;refine VP (Calls.Constant_str ?_);have I1:Inv X pins σ H { s with toks:=s.toks+1 }:=I.tok _
 refine thnT (s := { s with toks:=s.toks+1 }) (by show 1≤s.toks+1;omega) (ha.run lp pins _ σ H _ I1 h) fun us s1 k1 ⟨vs,H1,I2,r,z,q⟩=>⟨by rw[JJ,←r.length];exact z,?_⟩
 have hn:H1 s1.heap.objs.size=none:=I2.hok.fresh (Jq _)
 have I3:Inv X pins σ (upd H1 s1.heap.objs.size (.lst (V.str c::vs))) { s1 with heap:=s1.heap.push { cls:=.type "list",data:=.seq (Value.str c s.toks::us).toArray } }:=by
  refine I2.laid (t':=s1.toks) (fun b o e=>Jo _ e) (Jq _) ⟨z,_,0,.cons ⟨_,rfl⟩ r,JH _ rfl⟩
 refine thnT k1 (store_ok (v:=V.ref s1.heap.objs.size) (u:=Value.ref s1.heap.objs.size) (Q:=fun _ s2=>Inv X pins (σ.set i (some (V.ref s1.heap.objs.size))) (upd H1 s1.heap.objs.size (.lst (V.str c::vs))) s2) I3 hN hi hx rfl (fun _ I4=>I4) hf) fun _ s2 k2 I4=>?_
 exact h2 pins s2 _ _ D k2 I4 (q _ hn)
end
section
variable {K:PySem.W.Frag}{cl:Cls}{X:Cx}{Wx:WX}
theorem zOZ{i j:Nat}{x c:Str}{a:AM}{b:SMm}{es:List Expr}{rest:List Stmt}{cp lp pos pos':Pos} (g:GX K X) (hi:X.N[i]?=some x) (hx:Loc X.env.scope x) (ha:SA K cl X Wx a es) (h2:SSst K cl X Wx b rest)
  (he:starEach (.Constant (.str c) j cp::es) X.env=(false,eval (.Constant (.str c) j cp) X.env)::starEach es X.env) (hs:swapsWith (.List (.Constant (.str c) j cp::es) lp) (some (.Name x pos')) pos.line X.env=pure false)
  (hf:X.fn x=true∨X.env.scope.names.lookup x=some .local):SSs K cl X Wx (sSeq (sSet i (zCs (zAB (mC (.str c)) a))) b) (.Assign [.Name x pos'] (.List (.Constant (.str c) j cp::es) lp) pos::rest):=by
 refine⟨fun E0 ρ G σ st τ H D R S q=>TSs'.of (zOa g.hN hi hx TA'.pa TSs1.psst he hs hf) ?_⟩
 have q1:AftS (bs K cl E0) ρ G (sSet i (zCs (zAB (mC (.str c)) a)) σ st) { D with nx:=TSs1 X rest D } Wx:=AftS.thn (D' := { D with nx:=TSs1 X rest D }) q (fun σ1 st1 ρ1 G1 H1 τ1 e p s R1 S1 h1=>h2.run E0 ρ1 G1 σ1 st1 τ1 H1 D R1 S1 h1) rfl rfl rfl
 have q2:Aft (bs K cl E0) (bs K cl E0).RW ρ G (zCs (zAB (mC (.str c)) a) σ st) (fun v H1=>TSs1 X rest D (τ.set i (some v)) H1) _:=AftS.seq S q1 fun w st1 ρ1 G1 H1 v e1 p1 s1 R1 u1 h1=>AftS.nx h1 R1 ((RS.mono p1 s1 S).set u1 i)
 have e:zCs (zAB (mC (.str c)) a) σ st=(a σ st).bind fun ws st2=>if(W.p (.str c)::ws).length≤LIM then .ok (.r st2.length) (st2++[.lst (W.p (.str c)::ws)])else .no:=by
  show((a σ st).bind fun ws st2=>Res.ok (W.p (.str c)::ws) st2).bind (fun ws st1=>if ws.length≤LIM then Res.ok (W.r st1.length) (st1++[Cell.lst ws])else Res.no)=_
  cases a σ st<;>rfl
 rw[e]at q2;refine ha.run E0 ρ G σ st τ H _ R S (Aft.seq q2 fun ws st2 ρ2 G2 H2 vs e2 p2 s2 R2 u2 h3=>?_)
 have r2:RWs K cl ρ2 G2 (W.p (.str c)::ws) (V.str c::vs):=.cons (RP.str c) u2;split at h3
 ·rename_i hl
  refine⟨by rw[←r2.length];exact zCo hl,fun p hp=>?_⟩
  exact h3.newC R2 hp (fun z=>by cases z) ⟨_,Ju,RWs.mono (JY _ _) (Sub.refl _) r2⟩
 ·exact h3.elim
end
section
variable {X:Cx}{CX:CXT}{k:Nat}{f:Addr}{fd:FuncData}{ps:List Str}{sp:Sp}{x:Str}{p pos:Pos}{e tg:Expr}{es:List Expr}{t:TA}{te:TE}{g:TG}{E:XK}{ds:List Value}{dvs:List V}
theorem zOL(F:FnOk X.prog X.w X.K X.mg X.base CX k f fd ps sp) (hr:Room k X.A) (hg:Gl X x) (hm:X.mg x=some (.ref f)) (hk:PySem.W.keepIn X.K (.ref f)=true) (hb:Binds X.K fd ps ds) (hd:Vals dvs ds) (hx:Passes CX X E)
  (ha:PAT X (e::es) t) (hdb:(x==("__debug__" : Str))=false) (he:starEach (e::es) X.env=(false,eval e X.env)::starEach es X.env) (hpl:(backTo pos (starEach es X.env)).any (·.1)=false) :
  PET X (.Call (.Name x p) (e::es) [] pos) (tCall sp dvs E t):=by
 intro pins s σ H Q h0 I h;refine Vd (bA I hg hm ?_ hdb);refine VB (h₀:=X.base) I.ok.mod.kin hk (thn (ha pos pins s σ H _ h0 I h) fun us s1 ⟨vs,H1,I1,r,q⟩=>⟨I1.kIn,?_⟩) he hpl
 exact run_fn F hr hb hd hx I1 r q
theorem zRN(he:PET X e te) (hg:PG X tg g) (hs:swapsWithSole [tg] e pos.line X.env=pure false) (hw:swappedStores [tg] e X.env=pure none)
  (h1:(assignEach [tg] X.env).map (·.2)=[assign tg X.env]):PST X (.Assign [tg] e pos) (tAsg te g):=by
 intro pins s σ H D h0 I h;refine wpAny_Assign_stores (thn (he pins s σ H _ h0 I h) fun v s1 ⟨x,H1,I1,r1,q1⟩=>?_) hs hw
 rw[h1];exact thn (hg.run pins s1 σ H1 x v _ I1 r1 q1) fun _ s2 q=>q
end
def TA1(X:Cx) (es:List Expr):TA:=fun σ H Q=>∀(pos:Pos) (pins:List (Addr×Obj)) (s:Shared),1≤s.toks→Inv X pins σ H s→wpAny (model X.prog X.w) X.A (spliced (backTo pos (starEach es X.env))) (AP X pins σ Q) X.xe s
theorem TA1.pat{X:Cx}{es:List Expr}:PAT X es (TA1 X es):=fun pos pins s σ H Q h0 I h=>h pos pins s h0 I
theorem TA1.of{X:Cx}{es:List Expr}{t:TA}{σ:L2.St}{H:Hp}{Q:List V→Hp→Prop} (h:PAT X es t) (q:t σ H Q):TA1 X es σ H Q:=fun pos pins s h0 I=>h pos pins s σ H Q h0 I q
structure SAt (K:PySem.W.Frag) (cl:Cls) (X:Cx) (Wx:WX) (m:AM) (es:List Expr):Prop where
 run:∀E0 ρ G σ st τ H Q,(bs K cl E0).Rel ρ G st H→RS K cl ρ G σ τ→Aft (bs K cl E0) (bs K cl E0).RWs ρ G (m σ st) Q (fun c d H'=>Wx c d τ H')→TA1 X es τ H Q
section
variable {K:PySem.W.Frag}{cl:Cls}{X:Cx}{Wx:WX}
theorem SAt.of{m:AM}{es:List Expr} (h:SA K cl X Wx m es):SAt K cl X Wx m es:=⟨fun E0 ρ G σ st τ H Q R S q=>TA1.of (PAT.of TA'.pa) (h.run E0 ρ G σ st τ H Q R S q)⟩
theorem zNw{a:EM}{r:AM}{e:Expr}{es:List Expr} (ha:SEt K cl X Wx a e) (hr:SAt K cl X Wx r es) (hs:starEach (e::es) X.env=(false,eval e X.env)::starEach es X.env):SAt K cl X Wx (zAB a r) (e::es):=by
 refine⟨fun E0 ρ G σ st τ H Q R S h=>TA1.of (pat_cons TT1.pet TA1.pat hs) ?_⟩
 refine ha.run E0 ρ G σ st τ H _ R S (Aft.seq h fun w st1 ρ1 G1 H1 v e1 p1 s1 R1 u1 h1=>?_)
 refine hr.run E0 ρ1 G1 σ st1 τ H1 _ R1 (S.mono p1 s1) (Aft.seq h1 fun ws st2 ρ2 G2 H2 vs e2 p2 s2 R2 u2 h2=>?_)
 exact Aft.here (b:=v::vs) h2 R2 (.cons (RW.mono p2 s2 u1) u2)
theorem callKt{f:Addr}{ps:List Str}{F:FM}{a:AM}{k:Nat}{x:Str}{p pos:Pos}{e:Expr}{es:List Expr} (h:Fk X.prog X.w X.K X.mg X.base cl k f ps F) (g:GX K X) (hr:Room k X.A) (hg:Gl X x) (hm:X.mg x=some (.ref f))
  (ha:SAt K cl X Wx a (e::es)) (hdb:(x==("__debug__" : Str))=false) (he:starEach (e::es) X.env=(false,eval e X.env)::starEach es X.env:=by rfl) (hpl:(backTo pos (starEach es X.env)).any (·.1)=false:=by rfl) :
  SEt K cl X Wx (zAH F a) (.Call (.Name x p) (e::es) [] pos):=by
 obtain⟨hK,_⟩:=g;subst hK;obtain⟨fd,h1,h2⟩:=h.ex;refine⟨fun E0 ρ G σ st τ H Q R S h'=>TT1.of (zOL (E:=L2.E0) h1 hr hg hm h.kp h2 .nil pass0 TA1.pat hdb he hpl) ?_⟩
 refine ha.run E0 ρ G σ st τ H _ R S (Aft.seq h' fun ws st1 ρ1 G1 H1 vs e1 p1 s1 R1 u1 h3=>?_)
 rw[JK];exact zEY R1 u1 h3.noxZ
theorem zP6{t:Tg}{m:EM}{tg e:Expr}{pos:Pos} (ht:SG K cl X t tg) (h:SEt K cl X Wx m e) (hs:swapsWithSole [tg] e pos.line X.env=pure false) (hw:swappedStores [tg] e X.env=pure none)
  (h1:(assignEach [tg] X.env).map (·.2)=[PySem.assign tg X.env]):SSt K cl X Wx (sPut t m) (.Assign [tg] e pos):=by
 refine⟨fun E0 ρ G σ st τ H D R S q=>TS1.of (zRN TT1.pet TGc.pg hs hw h1) ?_⟩
 refine h.run E0 ρ G σ st τ H _ R S (AftS.seq S q fun w st1 ρ1 G1 H1 v e1 p1 s1 R1 u1 h1=>?_)
 split at h1
 ·rename_i σ' e
  exact ht.run ρ1 G1 H1 w v σ σ' τ _ R1.sub (S.mono p1 s1) u1 e fun τ' S' _=>AftS.nx h1 R1 S'
 ·exact h1.elim
end
section
variable {K:PySem.W.Frag}{cl:Cls}{X:Cx}{Wx:WX}
def zCy(x y:W) (st:List Cell):Res W:=match unC st x,unC st y with
 |some (.lst l),some (.lst m)=>if l.length+m.length≤LIM then .ok (.r st.length) (st++[.lst ((l++m).map .p)])else .no
 |_,_=>.no
theorem zOr:VOp K cl zCy rCat:=by
 intro E0 ρ G st H x y v u Q Z R rx ry h;unfold zCy at h;split at h
 ·rename_i l m el em
  obtain⟨a,vs,rfl,h1,q1⟩:=zFV R rx el;obtain⟨b,us,rfl,h2,q2⟩:=zFV R ry em;split at h
  ·rename_i hl
   exact⟨_,_,_,_,rfl,rfl,h1,h2,by rw[←q1.length,←q2.length];exact zCo hl,fun p hp=>h.newC R hp (fun z=>by cases z) ⟨_,Ju,.of_pures (q1.append q2)⟩⟩
  ·exact h.elim
 ·exact h.elim
theorem zDi{a b:EM}{pa pb:Expr}{pos:Pos} (ha:SE K cl X Wx a pa) (hb:SE K cl X Wx b pb):SE K cl X Wx (mBin zCy a b) (.BinOp pa .Add pb pos):=zE5 op_cat zOr ha hb
end
section
open LamX (CodeO ExtN TabB lamCx lamEnv GivesTo)
def zFT(tb:List (Nat×Str×Option Str)) (J:Nat) (f:Nat→Option EM) (m:EM):EM:=fun σ st=>(m σ st).bind fun w st1=>match w with
 | .p (.lam j i)=>if j=J then(match f i with|some b=>(zDB tb b σ st1).bind zE7|none=>.no)else .no
 |_=>.no
def nlM(m:EM):EM:=fun σ st=>match m σ st with
 | .ok w st1=>if nlW w=true∧st1.all nlC=true then .ok w st1 else .no
 |_=>.no
section
variable {K:PySem.W.Frag}{cl:Cls}{X:Cx}{Wx:WX}
theorem RS.up{c d:Cls} (u:Up c d){ρ:List Addr}{G:Hp}{σ:Sg}{τ:L2.St} (S:RS K c ρ G σ τ):RS K d ρ G σ τ :=
 ⟨S.1,fun i w e=>by
  obtain⟨v,h1,h2⟩:=S.2 i w e
  exact⟨v,h1,h2.up u⟩⟩
theorem se_nl{c d:Cls} (u:Up c d){m:EM}{e:Expr} (h:SE K d X Wx m e):SE K c X Wx (nlM m) e:=by
 refine⟨fun E0 ρ G σ st τ H Q R S q=>h.run E0 ρ G σ st τ H Q (R.up u) (S.up u) ?_⟩
 unfold nlM at q;cases e:m σ st with
 |ok w st1 =>
  rw[e]at q;dsimp only at q;split at q
  ·rename_i n
   intro ρ' G' H' b p s R' rb;exact q ρ' G' H' b p s (R'.down u n.2) (RW.down u n.1 rb)
  ·exact q.elim
 |exc x st1=>rw[e]at q;exact q.elim
 |no=>rw[e]at q;exact q.elim
theorem se_nlb{c0:List (Str×List (Str×Addr))→Cls}{fr:List (Str×List (Str×Addr))}{m:EM}{e:Expr} (hl:∀a b,(c0 a).l=(c0 b).l) (hm:∀a b,(c0 a).lm=(c0 b).lm) (hw:∀a b,(c0 a).wd=(c0 b).wd) (ht:∀a b,(c0 a).tb=(c0 b).tb) (hf:∀a,(c0 a).fr=a)
  (h:SE K (c0 (fr++[(X.env.qual++("<lambda>" : Str),X.env.cells)])) X Wx m e):SE K (c0 fr) X Wx (nlM m) e:=se_nl (up_of hl hm hw ht hf _) h
theorem zNJ{tb:List (Nat×Str×Option Str)}{x y:Str}{g gy CS CM CN:Addr}{k J:Nat}{f:Nat→Option EM}{m:EM}{e:Expr}{p pos:Pos} (D:LamD X.prog X.w X.K X.mg X.base y gy CS CM CN) (D2:zQX X.prog X.w X.K X.mg X.base x y g gy) (ok:∀q∈tb,TryC X.K cl CS CM CN q.1 q.2.1 q.2.2) (gx:GX K X) (hr:Room (k+3) X.A)
  (hg:Gl X x) (hm:X.mg x=some (.ref g)) (hf:cl.fr[J]?=some (X.env.qual++("<lambda>" : Str),X.env.cells)) (hb:∀i b,f i=some b→zGf K cl X k i b) (he:SE K cl X Wx m e)
  (hdb:(x==("__debug__" : Str))=false) (hst:starEach [e] X.env=(false,eval e X.env)::starEach [] X.env:=by rfl):SE K cl X Wx (zFT tb J f m) (.Call (.Name x p) [e] [] pos):=by
 have hK:=gx.hK;subst hK;refine⟨fun E0 ρ G σ st τ H Q R S h pins s I=>?_⟩
 refine Vd (bA I hg hm ?_ hdb);refine VB (h₀:=X.base) I.ok.mod.kin D2.kp ?_ (by rw[hst]) (by rfl)
 rw[hst];show wpAny _ _ (spliced ((false,eval e X.env)::backTo pos (starEach [] X.env))) _ _ _;refine VP ?_
 have hT:=he.run E0 ρ G σ st τ H (fun v H1=>∃w st1 ρ1 G1,ρ <+: ρ1∧Sub G G1∧(bs X.K cl E0).Rel ρ1 G1 st1 H1∧RW X.K cl ρ1 G1 w v∧Aft (bs X.K cl E0) (bs X.K cl E0).RW ρ1 G1 (match w with
   | .p (.lam j i)=>if j=J then(match f i with|some b=>(zDB tb b σ st1).bind zE7|none=>.no)else .no
   |_=>.no) Q (fun c d H'=>Wx c d τ H')) R S (Aft.seq h fun w st1 ρ1 G1 H1 v _ p1 s1 R1 u1 h1=>⟨w,st1,ρ1,G1,p1,s1,R1,u1,h1⟩)
 refine thn (hT pins _ I) fun u s1 hv=>?_
 obtain⟨v,H1,I1,rv,w,st1,ρ1,G1,p1,s1',R1,u1,h1⟩:=hv;refine Yh ⟨I1.kIn,?_⟩;split at h1
 case h_2=>exact h1.elim
 rename_i j i
 split at h1
 case isFalse=>exact h1.elim
 rename_i hj
 subst hj;split at h1
 case h_2=>exact h1.elim
 rename_i b hbi
 have hb1:=hb _ _ hbi;exact zNh D D2 ⟨rfl,rfl,rfl,rfl,rfl⟩ ok gx hr hf hb1 I1 (Inv.cfc I1) R1 (S.mono p1 s1') u1 rv h1
def oneF(i:Nat) (b:EM):Nat→Option EM:=fun j=>if j=i then some b else none
theorem zQl{k i:Nat}{b:EM} (h:zGf K cl X k i b):∀j c,oneF i b j=some c→zGf K cl X k j c:=fun j c e=>by
 unfold oneF at e;split at e
 ·rename_i z
  cases e;rw[z];exact h
 ·cases e
end
theorem zPH(tb:List (Nat×Str×Option Str)) (J i:Nat) (b:EM) (σ:Sg) (st:List Cell):nlM (zFT tb J (oneF i b) (mLam J i)) σ st=match(zDB tb b σ st).bind zE7 with
  | .ok w st1=>if nlW w=true∧st1.all nlC=true then .ok w st1 else .no
  |_=>.no:=by
 unfold nlM zFT mLam oneF;simp[Res.bind]
end
end Y
namespace YZ
open Y
section
variable {α β:Type}{st st1:List Cell}{σ:Sg}
@[simp]theorem Res.bind_ok(a:α) (st:List Cell) (k:α→List Cell→Res β):(Res.ok a st).bind k=k a st:=rfl
@[simp]theorem Res.bind_no(k:α→List Cell→Res β):(Res.no:Res α).bind k=.no:=rfl
@[simp]theorem Res.bind_exc(x:Exn) (st:List Cell) (k:α→List Cell→Res β):(Res.exc x st:Res α).bind k=.exc x st:=rfl
@[simp]theorem Res.nox_ok(a:α) (st:List Cell):(Res.ok a st).nox=.ok a st:=rfl
@[simp]theorem Res.nox_no:(Res.no:Res α).nox=.no:=rfl
@[simp]theorem Res.to_no(k:α→List Cell→SR):(Res.no:Res α).to σ k=.no:=rfl
@[simp]theorem SR.then_no(k:Sg→List Cell→SR):SR.no.then k=.no:=rfl
@[simp]theorem Res.to_ok(a:α) (st:List Cell) (k:α→List Cell→SR):(Res.ok a st).to σ k=k a st:=rfl
@[simp]theorem SR.then_nx(k:Sg→List Cell→SR):(SR.ok .nx σ st).then k=k σ st:=rfl
@[simp]theorem SR.then_rt(w:W) (k:Sg→List Cell→SR):(SR.ok (.rt w) σ st).then k=.ok (.rt w) σ st:=rfl
@[simp]theorem SR.then_bk(k:Sg→List Cell→SR):(SR.ok .bk σ st).then k=.ok .bk σ st:=rfl
@[simp]theorem SR.then_ct(k:Sg→List Cell→SR):(SR.ok .ct σ st).then k=.ok .ct σ st:=rfl
@[simp]theorem Res.bind_ite{c:Prop} [Decidable c] (a b:Res α) (k:α→List Cell→Res β):(if c then a else b).bind k=if c then a.bind k else b.bind k:=by split<;>rfl
@[simp]theorem Res.nox_ite{c:Prop} [Decidable c] (a b:Res α):(if c then a else b).nox=if c then a.nox else b.nox:=by split<;>rfl
@[simp]theorem Res.to_ite{c:Prop} [Decidable c] (a b:Res α) (k:α→List Cell→SR):(if c then a else b).to σ k=if c then a.to σ k else b.to σ k:=by split<;>rfl
@[simp]theorem SR.then_ite{c:Prop} [Decidable c] (a b:SR) (k:Sg→List Cell→SR):(if c then a else b).then k=if c then a.then k else b.then k:=by split<;>rfl
theorem zL6{a b:String}:Str.ofString a=Str.ofString b↔a=b:=by
 constructor
 ·intro h;rw[VN,VN]at h;have h2:a.toList.map Char.toNat=b.toList.map Char.toNat:=by simpa using h
  have h3:∀(l m:List Char),l.map Char.toNat=m.map Char.toNat→l=m:=by
   intro l
   induction l with
   |nil=>intro m e;cases m with
    |nil=>rfl
    |cons c m=>cases e
   |cons c l ih=>intro m e;cases m with
    |nil=>cases e
    |cons d m =>
     rw[Jk,Jk]at e;obtain⟨e1,e2⟩:=Y2 e;rw[ih m e2]
     congr 1
     exact Char.ext (UInt32.toNat_inj.mp e1)
  exact String.toList_inj.mp (h3 _ _ h2)
 ·intro h;rw[h]
@[simp]theorem ofS_eq{a b:String}:(Str.ofString a=Str.ofString b)=(a=b):=propext zL6
@[simp]theorem ofS_beq{a b:String}:(Str.ofString a==Str.ofString b)=decide (a=b):=by
 by_cases h:a=b
 ·subst h;simp
 ·rw[JS h,J8];exact fun e=>h (zL6.mp e)
@[simp]theorem ofS_len{a:String}:(Str.ofString a).length=a.length:=by
 rw[VN];simp[Str.length,String.length_toList]
@[simp]theorem LIM_e:LIM=1000000:=rfl
def varF(o:Option (Option W)) (st:List Cell):Res W:=match o with
 |some (some w)=>.ok w st
 |_=>.no
@[simp]theorem varF_e(w:W):varF (some (some w)) st=.ok w st:=rfl
@[simp]theorem mVar_e(i:Nat):mVar i σ st=varF σ[i]? st:=rfl
@[simp]theorem mC_e(x:P):mC x σ st=.ok (.p x) st:=rfl
def binK(f:W→W→List Cell→Res W) (b:EM) (σ:Sg) (x:W) (st1:List Cell):Res W:=(b σ st1).bind (f x)
@[simp]theorem binK_e(f:W→W→List Cell→Res W) (b:EM) (x:W):binK f b σ x st=(b σ st).bind (f x):=rfl
@[simp]theorem mBin_e(f:W→W→List Cell→Res W) (a b:EM):mBin f a b σ st=(a σ st).bind (binK f b σ):=rfl
def truR(o:Option Bool) (st:List Cell):Res Bool:=match o with
 |some k=>.ok k st
 |none=>.no
@[simp]theorem truR_e(k:Bool):truR (some k) st=.ok k st:=rfl
def truK(w:W) (st1:List Cell):Res Bool:=truR (vTru st1 w) st1
@[simp]theorem truK_e(w:W):truK w st=truR (vTru st w) st:=rfl
@[simp]theorem mTru_e(m:EM):mTru m σ st=(m σ st).bind truK:=rfl
@[simp]theorem vTru_bl(b:Bool):vTru st (.p (.bl b))=some b:=rfl
@[simp]theorem vTru_int(b:Int):vTru st (.p (.int b))=some (b != 0):=rfl
@[simp]theorem vTru_lst(l:List P):vTru st (.p (.lst l))=some (!l.isEmpty):=rfl
@[simp]theorem vTru_tup(l:List P):vTru st (.p (.tup l))=some (!l.isEmpty):=rfl
def tstR(w:W) (st:List Cell):Res Bool:=match w with
 | .p (.bl k)=>.ok k st
 |_=>.no
@[simp]theorem tstR_e(k:Bool):tstR (.p (.bl k)) st=.ok k st:=rfl
@[simp]theorem mTst_e(m:EM):mTst m σ st=(m σ st).bind tstR:=rfl
def andK(b:TM) (σ:Sg) (c:Bool) (st1:List Cell):Res Bool:=if c=true then b σ st1 else .ok false st1
@[simp]theorem andK_e(b:TM) (c:Bool):andK b σ c st=if c=true then b σ st else .ok false st:=rfl
@[simp]theorem mAndT_e(a b:TM):zDV a b σ st=(a σ st).bind (andK b σ):=rfl
def orK(b:TM) (σ:Sg) (c:Bool) (st1:List Cell):Res Bool:=if c=true then .ok true st1 else b σ st1
@[simp]theorem orK_e(b:TM) (c:Bool):orK b σ c st=if c=true then .ok true st else b σ st:=rfl
@[simp]theorem mOrT_e(a b:TM):mOrT a b σ st=(a σ st).bind (orK b σ):=rfl
def notK(c:Bool) (st1:List Cell):Res Bool:=.ok (!c) st1
@[simp]theorem notK_e(c:Bool):notK c st=.ok (!c) st:=rfl
@[simp]theorem mNotT_e(a:TM):zDK a σ st=(a σ st).bind notK:=rfl
def zNS(b:EM) (σ:Sg) (c:Bool) (st1:List Cell):Res W:=if c=true then b σ st1 else .ok (.p (.bl false)) st1
@[simp]theorem andVK2_e(b:EM) (c:Bool):zNS b σ c st=if c=true then b σ st else .ok (.p (.bl false)) st:=rfl
def andVK(b:EM) (σ:Sg) (w:W) (st1:List Cell):Res W:=(tstR w st1).bind (zNS b σ)
@[simp]theorem andVK_e(b:EM) (w:W):andVK b σ w st=(tstR w st).bind (zNS b σ):=rfl
@[simp]theorem mAndV_e(a b:EM):zCS a b σ st=(a σ st).bind (andVK b σ):=by
 unfold zCS
 congr 1;funext w st1
 cases w with
 |p x=>cases x<;>rfl
 |r i=>rfl
def zLt(c:Bool) (st1:List Cell):Res W:=.ok (.p (.bl (!c))) st1
@[simp]theorem notVK2_e(c:Bool):zLt c st=.ok (.p (.bl (!c))) st:=rfl
def notVK(w:W) (st1:List Cell):Res W:=(tstR w st1).bind zLt
@[simp]theorem notVK_e(w:W):notVK w st=(tstR w st).bind zLt:=rfl
@[simp]theorem mNotV_e(a:EM):zNZ a σ st=(a σ st).bind notVK:=by
 unfold zNZ
 congr 1;funext w st1
 cases w with
 |p x=>cases x<;>rfl
 |r i=>rfl
def ifK{α:Type} (a b:Sg→List Cell→α) (σ:Sg) (k:Bool) (st1:List Cell):α:=if k=true then a σ st1 else b σ st1
@[simp]theorem ifK_e{α:Type} (a b:Sg→List Cell→α) (k:Bool):ifK a b σ k st=if k=true then a σ st else b σ st:=rfl
@[simp]theorem zL2(c:TM) (a b:EM):mIfE c a b σ st=(c σ st).bind (ifK a b σ):=rfl
@[simp]theorem mNil_e:mNil σ st=.ok [] st:=rfl
def zIi(w:W) (ws:List W) (st2:List Cell):Res (List W):=.ok (w::ws) st2
@[simp]theorem zOF(w:W) (ws:List W):zIi w ws st=.ok (w::ws) st:=rfl
def zQg(r:AM) (σ:Sg) (w:W) (st1:List Cell):Res (List W):=(r σ st1).bind (zIi w)
@[simp]theorem consK_e(r:AM) (w:W):zQg r σ w st=(r σ st).bind (zIi w):=rfl
@[simp]theorem mCons_e(a:EM) (r:AM):zAB a r σ st=(a σ st).bind (zQg r σ):=rfl
@[simp]theorem pures_nil:pures []=some []:=rfl
@[simp]theorem zR4(x:P) (l:List W):pures (.p x::l)=(pures l).map (x :: ·):=rfl
@[simp]theorem pures_ref(i:Nat) (l:List W):pures (.r i::l)=none:=rfl
@[simp]theorem zLX(l:List P):pures (l.map W.p)=some l:=zBI l
def pR(f:List P→W) (o:Option (List P)) (st:List Cell):Res W:=match o with
 |some l=>.ok (f l) st
 |none=>.no
def pRL(f:List P→W) (o:Option (List P)) (st:List Cell):Res W:=match o with
 |some l=>if l.length≤1000000 then .ok (f l) st else .no
 |none=>.no
@[simp]theorem pRL_e(f:List P→W) (l:List P):pRL f (some l) st=if l.length≤1000000 then .ok (f l) st else .no:=rfl
@[simp]theorem pR_e(f:List P→W) (l:List P):pR f (some l) st=.ok (f l) st:=rfl
def tupK(ws:List W) (st1:List Cell):Res W:=pRL (fun l=>.p (.tup l)) (pures ws) st1
@[simp]theorem tupK_e(ws:List W):tupK ws st=pRL (fun l=>.p (.tup l)) (pures ws) st:=rfl
@[simp]theorem mTup_e(a:AM):mTup a σ st=(a σ st).bind tupK:=by
 unfold mTup;rfl
def lstK(ws:List W) (st1:List Cell):Res W:=pRL (fun l=>.p (.lst l)) (pures ws) st1
@[simp]theorem lstK_e(ws:List W):lstK ws st=pRL (fun l=>.p (.lst l)) (pures ws) st:=rfl
@[simp]theorem mLst_e(a:AM):mLst a σ st=(a σ st).bind lstK:=by
 unfold mLst;rfl
def lstCK(ws:List W) (st1:List Cell):Res W:=if ws.length≤1000000 then .ok (.r st1.length) (st1++[.lst ws])else .no
@[simp]theorem lstCK_e(ws:List W):lstCK ws st=if ws.length≤1000000 then .ok (.r st.length) (st++[.lst ws])else .no:=rfl
@[simp]theorem mLstC_e(a:AM):zCs a σ st=(a σ st).bind lstCK:=rfl
@[simp]theorem mCallV_e(f:List W→List Cell→Res W) (a:AM):zAJ f a σ st=(a σ st).bind f:=rfl
def chK4(f2:W→W→List Cell→Res W) (c:EM) (σ:Sg) (y:W) (k:Bool) (st1:List Cell):Res W:=if k=true then(c σ st1).bind (f2 y)else .ok (.p (.bl false)) st1
@[simp]theorem chK4_e(f2:W→W→List Cell→Res W) (c:EM) (y:W) (k:Bool):chK4 f2 c σ y k st=if k=true then(c σ st).bind (f2 y)else .ok (.p (.bl false)) st:=rfl
def chK3(f2:W→W→List Cell→Res W) (c:EM) (σ:Sg) (y t:W) (st1:List Cell):Res W:=(tstR t st1).bind (chK4 f2 c σ y)
@[simp]theorem chK3_e(f2:W→W→List Cell→Res W) (c:EM) (y t:W):chK3 f2 c σ y t st=(tstR t st).bind (chK4 f2 c σ y):=rfl
def chK2(f f2:W→W→List Cell→Res W) (c:EM) (σ:Sg) (x y:W) (st1:List Cell):Res W:=(f x y st1).bind (chK3 f2 c σ y)
@[simp]theorem chK2_e(f f2:W→W→List Cell→Res W) (c:EM) (x y:W):chK2 f f2 c σ x y st=(f x y st).bind (chK3 f2 c σ y):=rfl
def chK(f f2:W→W→List Cell→Res W) (b c:EM) (σ:Sg) (x:W) (st1:List Cell):Res W:=(b σ st1).bind (chK2 f f2 c σ x)
@[simp]theorem chK_e(f f2:W→W→List Cell→Res W) (b c:EM) (x:W):chK f f2 b c σ x st=(b σ st).bind (chK2 f f2 c σ x):=rfl
@[simp]theorem mChain_e(f f2:W→W→List Cell→Res W) (a b c:EM):zFX f f2 a b c σ st=(a σ st).bind (chK f f2 b c σ):=by
 unfold zFX
 congr 1;funext x st1
 unfold chK
 congr 1;funext y st2
 unfold chK2
 congr 1;funext t st3
 cases t with
 |p x=>cases x<;>rfl
 |r i=>rfl
def negR(w:W) (st:List Cell):Res W:=match w with
 | .p (.int i)=>.ok (.p (.int (-i))) st
 |_=>.no
@[simp]theorem negR_e(i:Int):negR (.p (.int i)) st=.ok (.p (.int (-i))) st:=rfl
@[simp]theorem mNeg_e(a:EM):mNeg a σ st=(a σ st).bind negR:=rfl
def osR(w:W) (st:List Cell):Res (Option Int):=match w with
 | .p (.int i)=>.ok (some i) st
 |_=>.no
@[simp]theorem osR_e(i:Int):osR (.p (.int i)) st=.ok (some i) st:=rfl
@[simp]theorem oNone_e:zCi σ st=.ok none st:=rfl
@[simp]theorem oSome_e(a:EM):zA0 a σ st=(a σ st).bind osR:=rfl
def slK2(x:W) (l u:Option Int) (st3:List Cell):Res W:=vSl x l u st3
@[simp]theorem slK2_e(x:W) (l u:Option Int):slK2 x l u st=vSl x l u st:=rfl
def slK1(hi:OM) (σ:Sg) (x:W) (l:Option Int) (st2:List Cell):Res W:=(hi σ st2).bind (slK2 x l)
@[simp]theorem slK1_e(hi:OM) (x:W) (l:Option Int):slK1 hi σ x l st=(hi σ st).bind (slK2 x l):=rfl
def slK(lo hi:OM) (σ:Sg) (x:W) (st1:List Cell):Res W:=(lo σ st1).bind (slK1 hi σ x)
@[simp]theorem slK_e(lo hi:OM) (x:W):slK lo hi σ x st=(lo σ st).bind (slK1 hi σ x):=rfl
@[simp]theorem mSl_e(a:EM) (lo hi:OM):mSl a lo hi σ st=(a σ st).bind (slK lo hi σ):=rfl
def zAc(F:FM) (ws:List W) (st1:List Cell):Res W:=(zAP F ws st1).nox
@[simp]theorem callK_e(F:FM) (ws:List W):zAc F ws st=(zAP F ws st).nox:=rfl
@[simp]theorem mCallF_e(F:FM) (a:AM):zAH F a σ st=(a σ st).bind (zAc F):=rfl
@[simp]theorem clsOf_obj(c:Nat) (l:List P):clsOf st (.p (.obj c l))=some c:=rfl
def clsR(F:FM) (w:W) (ok:Bool) (r:Res (List W)):Res W:=if ok=true then r.bind fun ws st2=>(zAP F (w::ws) st2).nox else .no
def callO(F:FM) (w:W) (ws:List W) (st1:List Cell):Res W:=(zAP F (w::ws) st1).nox
@[simp]theorem callO_e(F:FM) (w:W) (ws:List W):callO F w ws st=(zAP F (w::ws) st).nox:=rfl
@[simp]theorem clsR_e(F:FM) (w:W) (r:Res (List W)):clsR F w true r=r.bind (callO F w):=rfl
def zJI(c:Nat) (F:FM) (a:AM) (σ:Sg) (w:W) (st1:List Cell):Res W:=clsR F w (decide (clsOf st1 w=some c)) (a σ st1)
@[simp]theorem methK_e(c:Nat) (F:FM) (a:AM) (w:W):zJI c F a σ w st=clsR F w (decide (clsOf st w=some c)) (a σ st):=rfl
@[simp]theorem mMeth_e(c:Nat) (F:FM) (o:EM) (a:AM):zB1 c F o a σ st=(o σ st).bind (zJI c F a σ):=by
 unfold zB1
 congr 1;funext w st1
 unfold zJI clsR
 by_cases h:clsOf st1 w=some c
 ·simp only[h,VG,decide_true]
 ·simp only[h,YX,decide_false];rfl
def fldR(cs:List (Nat×Nat)) (w:W) (st1:List Cell):Res W:=match w with
 | .p (.obj c l)=>match cs.lookup c with
  |some i=>match l[i]? with
   |some x=>.ok (.p x) st1
   |none=>.no
  |none=>.no
 | .r j=>match st1[j]? with
  |some (.ins c l)=>match cs.lookup c with
   |some i=>match l[i]? with
    |some x=>.ok x st1
    |none=>.no
   |none=>.no
  |_=>.no
 |_=>.no
@[simp]theorem mFld_e(cs:List (Nat×Nat)) (o:EM):mFld cs o σ st=(o σ st).bind (fldR cs):=rfl
def runR:SR→Res W
 | .ok .nx _ st1=>.ok (.p .non) st1
 | .ok (.rt w) _ st1=>.ok w st1
 |_=>.no
@[simp]theorem runR_nx:runR (.ok .nx σ st)=.ok (.p .non) st:=rfl
@[simp]theorem runR_rt(w:W):runR (.ok (.rt w) σ st)=.ok w st:=rfl
@[simp]theorem runR_no:runR .no=.no:=rfl
@[simp]theorem runR_ite{c:Prop} [Decidable c] (a b:SR):runR (if c then a else b)=if c then runR a else runR b:=by split<;>rfl
theorem zAG(np N:Nat) (m:SMm) (ws:List W):runF np N m ws st=if ws.length=np then runR (m (ws.map some++List.replicate (N-np) none) st)else .no:=by
 unfold runF;split
 ·generalize m (List.map some ws++List.replicate (N-np) none) st=r;cases r with
  |ok f _ _=>cases f<;>rfl
  |exc _ _ _=>rfl
  |no=>rfl
 ·rfl
@[simp]theorem sNx_e:sNx σ st=.ok .nx σ st:=rfl
@[simp]theorem zCt(a b:SMm):sSeq a b σ st=(a σ st).then b:=rfl
@[simp]theorem sBrk_e:sBrk σ st=.ok .bk σ st:=rfl
@[simp]theorem sCnt_e:sCnt σ st=.ok .ct σ st:=rfl
def retK(σ:Sg) (w:W) (st1:List Cell):SR:=.ok (.rt w) σ st1
@[simp]theorem retK_e(w:W):retK σ w st=.ok (.rt w) σ st:=rfl
@[simp]theorem sRet_e(m:EM):sRet m σ st=(m σ st).to σ (retK σ):=rfl
def expK(σ:Sg) (w:W) (st1:List Cell):SR:=.ok .nx σ st1
@[simp]theorem expK_e(w:W):expK σ w st=.ok .nx σ st:=rfl
@[simp]theorem sExpr_e(m:EM):zEG m σ st=(m σ st).to σ (expK σ):=rfl
def setK(i:Nat) (σ:Sg) (w:W) (st1:List Cell):SR:=.ok .nx (σ.set i (some w)) st1
@[simp]theorem setK_e(i:Nat) (w:W):setK i σ w st=.ok .nx (σ.set i (some w)) st:=rfl
@[simp]theorem zKP(i:Nat) (m:EM):sSet i m σ st=(m σ st).to σ (setK i σ):=rfl
@[simp]theorem sIf_e(c:TM) (a b:SMm):sIf c a b σ st=(c σ st).to σ (ifK a b σ):=rfl
@[simp]theorem zBq(i:Nat) (w:W):Tg.put (.nm i) w σ=some (σ.set i (some w)):=by rw[Tg.put]
@[simp]theorem put_tp(ts:List Tg) (l:List P):Tg.put (.tp ts) (.p (.tup l)) σ=Tg.puts ts l σ:=by rw[Tg.put]
@[simp]theorem puts_nil:Tg.puts [] [] σ=some σ:=by rw[Tg.puts]
@[simp]theorem puts_cons(t:Tg) (ts:List Tg) (x:P) (l:List P):Tg.puts (t::ts) (x::l) σ=(Tg.put t (.p x) σ).bind fun σ'=>Tg.puts ts l σ':=by
 rw[Tg.puts];cases Tg.put t (.p x) σ<;>rfl
def putR(o:Option Sg) (st:List Cell):SR:=match o with
 |some σ'=>.ok .nx σ' st
 |none=>.no
@[simp]theorem putR_e:putR (some σ) st=.ok .nx σ st:=rfl
def putK(t:Tg) (σ:Sg) (w:W) (st1:List Cell):SR:=putR (t.put w σ) st1
@[simp]theorem putK_e(t:Tg) (w:W):putK t σ w st=putR (t.put w σ) st:=rfl
@[simp]theorem sPut_e(t:Tg) (m:EM):sPut t m σ st=(m σ st).to σ (putK t σ):=rfl
def parR(i j:Nat) (σ:Sg) (ws:List W) (st1:List Cell):SR:=match ws with
 |[v,w]=>.ok .nx ((σ.set i (some v)).set j (some w)) st1
 |_=>.no
@[simp]theorem parR_e(i j:Nat) (v w:W):parR i j σ [v,w] st=.ok .nx ((σ.set i (some v)).set j (some w)) st:=rfl
@[simp]theorem sPar_e(i j:Nat) (a:AM):sPar i j a σ st=(a σ st).to σ (parR i j σ):=rfl
def starR(i j:Nat) (σ:Sg) (w:W) (st1:List Cell):SR:=match w with
 | .p (.tup (x::l))=>if l.length<16384 then .ok .nx ((σ.set i (some (.p x))).set j (some (.p (.lst l)))) st1 else .no
 |_=>.no
@[simp]theorem starR_e(i j:Nat) (x:P) (l:List P):starR i j σ (.p (.tup (x::l))) st=if l.length<16384 then .ok .nx ((σ.set i (some (.p x))).set j (some (.p (.lst l)))) st else .no:=rfl
@[simp]theorem sStar_e(i j:Nat) (m:EM):zOS i j m σ st=(m σ st).to σ (starR i j σ):=rfl
def ixR(σ:Sg) (x:W) (w k:W) (st3:List Cell):SR:=match w,k with
 | .r i,.p (.int n)=>match st3[i]? with
  |some (.lst l)=>match L2.ixN l.length n with
   |some j=>.ok .nx σ (st3.set i (.lst (l.set j x)))
   |none=>.no
  |_=>.no
 |_,_=>.no
def ixR2(σ:Sg) (st3:List Cell) (i:Nat) (x:W) (n:Int) (c:Option Cell):SR:=match c with
  |some (.lst l)=>match L2.ixN l.length n with
   |some j=>.ok .nx σ (st3.set i (.lst (l.set j x)))
   |none=>.no
  |_=>.no
def ixR3(σ:Sg) (st3:List Cell) (i:Nat) (x:W) (l:List W) (o:Option Nat):SR:=match o with
   |some j=>.ok .nx σ (st3.set i (.lst (l.set j x)))
   |none=>.no
@[simp]theorem ixR_e(x:W) (i:Nat) (n:Int):ixR σ x (.r i) (.p (.int n)) st=ixR2 σ st i x n st[i]?:=rfl
@[simp]theorem ixR2_e(x:W) (i:Nat) (n:Int) (l:List W):ixR2 σ st i x n (some (.lst l))=ixR3 σ st i x l (L2.ixN l.length n):=rfl
@[simp]theorem ixR3_e(x:W) (i j:Nat) (l:List W):ixR3 σ st i x l (some j)=.ok .nx σ (st.set i (.lst (l.set j x))):=rfl
def zQp(σ:Sg) (x w k:W) (st3:List Cell):SR:=ixR σ x w k st3
@[simp]theorem sixK2_e(x w k:W):zQp σ x w k st=ixR σ x w k st:=rfl
def zQT(ix:EM) (σ:Sg) (x w:W) (st3:List Cell):SR:=(ix σ st3).to σ (zQp σ x w)
@[simp]theorem sixK1_e(ix:EM) (x w:W):zQT ix σ x w st=(ix σ st).to σ (zQp σ x w):=rfl
def sixK(o ix:EM) (σ:Sg) (x:W) (st3:List Cell):SR:=(o σ st3).to σ (zQT ix σ x)
@[simp]theorem sixK_e(o ix:EM) (x:W):sixK o ix σ x st=(o σ st).to σ (zQT ix σ x):=rfl
@[simp]theorem sSetIx_e(o ix m:EM):zDx o ix m σ st=(m σ st).to σ (sixK o ix σ):=rfl
@[simp]theorem ixN_nat(n j:Nat) (h:j<n):L2.ixN n ((j:Nat):Int)=some j:=by
 unfold L2.ixN;rw[Jm ∅,Jm ∅];simp
def zOM(cs:List (Nat×Nat)) (σ:Sg) (x w:W) (st2:List Cell):SR:=match w with
 | .r j=>match st2[j]? with
  |some (.ins c l)=>match cs.lookup c with
   |some i=>if i≤l.length then .ok .nx σ (st2.set j (.ins c (if i<l.length then l.set i x else l++[x])))else .no
   |none=>.no
  |_=>.no
 |_=>.no
def sfK1(cs:List (Nat×Nat)) (σ:Sg) (x w:W) (st3:List Cell):SR:=zOM cs σ x w st3
@[simp]theorem sfK1_e(cs:List (Nat×Nat)) (x w:W):sfK1 cs σ x w st=zOM cs σ x w st:=rfl
def sfK(cs:List (Nat×Nat)) (o:EM) (σ:Sg) (x:W) (st3:List Cell):SR:=(o σ st3).to σ (sfK1 cs σ x)
@[simp]theorem sfK_e(cs:List (Nat×Nat)) (o:EM) (x:W):sfK cs o σ x st=(o σ st).to σ (sfK1 cs σ x):=rfl
@[simp]theorem sSetF_e(cs:List (Nat×Nat)) (o m:EM):zIv cs o m σ st=(m σ st).to σ (sfK cs o σ):=rfl
@[simp]theorem setFR_0(c i:Nat) (x:W) (l:List W) (r:List Cell):zOM [(c,i)] σ x (.r 0) (.ins c l::r)=if i≤l.length then .ok .nx σ (.ins c (if i<l.length then l.set i x else l++[x])::r)else .no:=by
 unfold zOM;simp
@[simp]theorem fldR_obj(c i:Nat) (l:List P):fldR [(c,i)] (.p (.obj c l)) st=varF (l[i]?.map fun x=>some (.p x)) st:=by
 unfold fldR varF;simp only[JE,Y8];cases l[i]?<;>rfl
@[simp]theorem fldR_0(c i:Nat) (l:List W) (r:List Cell):fldR [(c,i)] (.r 0) (.ins c l::r)=varF (l[i]?.map some) (.ins c l::r):=by
 unfold fldR varF;simp only[VI,JE,Y8];cases l[i]?<;>rfl
def fmtR(w:W) (st1:List Cell):Res W:=match w with
 | .p (.str y)=>if y.length≤1000000 then .ok (.p (.str y)) st1 else .no
 | .p (.int i)=>if i.natAbs.log2<1920 then .ok (.p (.str (toString i))) st1 else .no
 |_=>.no
@[simp]theorem fmtR_str(y:Str):fmtR (.p (.str y)) st=if y.length≤1000000 then .ok (.p (.str y)) st else .no:=rfl
@[simp]theorem fmtR_int(i:Int):fmtR (.p (.int i)) st=if i.natAbs.log2<1920 then .ok (.p (.str (toString i))) st else .no:=rfl
@[simp]theorem mFmt_e(a:EM):mFmt a σ st=(a σ st).bind fmtR:=rfl
@[simp]theorem jsF_nil(acc:Str):jsF [] acc σ st=.ok (.p (.str acc)) st:=rfl
def jsK(ms:List EM) (acc:Str) (σ:Sg) (w:W) (st1:List Cell):Res W:=match w with
 | .p (.str y)=>if(acc++y).length≤1000000 then jsF ms (acc++y) σ st1 else .no
 |_=>.no
@[simp]theorem jsK_e(ms:List EM) (acc y:Str):jsK ms acc σ (.p (.str y)) st=if(acc++y).length≤1000000 then jsF ms (acc++y) σ st else .no:=rfl
@[simp]theorem jsF_cons(m:EM) (ms:List EM) (acc:Str):jsF (m::ms) acc σ st=(m σ st).bind (jsK ms acc σ):=rfl
def isiR(T:String) (o:Option String) (st:List Cell):Res W:=match o with
 |some t=>.ok (.p (.bl (zHa t T))) st
 |none=>.no
@[simp]theorem isiR_e(T t:String):isiR T (some t) st=.ok (.p (.bl (zHa t T))) st:=rfl
def isiK(T:String) (w:W) (st1:List Cell):Res W:=isiR T (zD6 st1 w) st1
@[simp]theorem isiK_e(T:String) (w:W):isiK T w st=isiR T (zD6 st w) st:=rfl
@[simp]theorem mIsi_e(T:String) (a:EM):mIsi T a σ st=(a σ st).bind (isiK T):=rfl
@[simp]theorem zSB:zD6 st (.p .non)=some "NoneType" := rfl
@[simp]theorem tyName_bl(b:Bool):zD6 st (.p (.bl b))=some "bool" := rfl
@[simp]theorem zR8(b:Int):zD6 st (.p (.int b))=some "int" := rfl
@[simp]theorem zR6(b:Str):zD6 st (.p (.str b))=some "str" := rfl
@[simp]theorem zSL(b:List P):zD6 st (.p (.tup b))=some "tuple" := rfl
@[simp]theorem zSH(b:List P):zD6 st (.p (.lst b))=some "list" := rfl
@[simp]theorem tyName_dk(k:List Key) (b:List P):zD6 st (.p (.dk k b))=some "dict" := rfl
@[simp]theorem kitTab_e(t T:String):zHa t T=(decide (t=T)||(decide (t = "bool")&&decide (T = "int"))):=rfl
def inTR(kvs:List (Str×Str)) (neg:Bool) (w:W) (st1:List Cell):Res W:=match w with
 | .p (.str z)=>.ok (.p (.bl (if neg=true then !(kvs.lookup z).isSome else(kvs.lookup z).isSome))) st1
 |_=>.no
@[simp]theorem inTR_e(kvs:List (Str×Str)) (neg:Bool) (z:Str):inTR kvs neg (.p (.str z)) st=.ok (.p (.bl (if neg=true then !(kvs.lookup z).isSome else(kvs.lookup z).isSome))) st:=rfl
@[simp]theorem mInT_e(kvs:List (Str×Str)) (neg:Bool) (a:EM):mInT kvs neg a σ st=(a σ st).bind (inTR kvs neg):=rfl
def zRH(o:Option Str) (st1:List Cell):Res W:=match o with
  |some y=>.ok (.p (.str y)) st1
  |none=>.no
@[simp]theorem getTR_e(y:Str):zRH (some y) st=.ok (.p (.str y)) st:=rfl
def getTW(kvs:List (Str×Str)) (w:W) (st1:List Cell):Res W:=match w with
 | .p (.str z)=>zRH (kvs.lookup z) st1
 |_=>.no
@[simp]theorem getTW_e(kvs:List (Str×Str)) (z:Str):getTW kvs (.p (.str z)) st=zRH (kvs.lookup z) st:=rfl
@[simp]theorem mGetT_e(kvs:List (Str×Str)) (a:EM):zOx kvs a σ st=(a σ st).bind (getTW kvs):=by
 unfold zOx;rfl
def bmR(ok:Bool) (f:List W→List Cell→Res W) (r:Res (List W)):Res W:=if ok=true then r.bind f else .no
@[simp]theorem bmR_e(f:List W→List Cell→Res W) (r:Res (List W)):bmR true f r=r.bind f:=rfl
def bmK(T:String) (f:W→List W→List Cell→Res W) (a:AM) (σ:Sg) (w:W) (st1:List Cell):Res W:=bmR (decide (tyW st1 w=some T)) (f w) (a σ st1)
@[simp]theorem bmK_e(T:String) (f:W→List W→List Cell→Res W) (a:AM) (w:W):bmK T f a σ w st=bmR (decide (tyW st w=some T)) (f w) (a σ st):=rfl
@[simp]theorem mBm_e(T:String) (f:W→List W→List Cell→Res W) (o:EM) (a:AM):mBm T f o a σ st=(o σ st).bind (bmK T f a σ):=by
 unfold mBm
 congr 1;funext w st1
 unfold bmK bmR
 by_cases h:tyW st1 w=some T
 ·simp only[h,VG,decide_true]
 ·simp only[h,YX,decide_false];rfl
end
section
variable {α β:Type}{st st1:List Cell}{σ:Sg}
@[simp]theorem vLt_e(i j:Int):vLt (.p (.int i)) (.p (.int j)) st=.ok (.p (.bl (decide (i<j)))) st:=rfl
@[simp]theorem vLe_e(i j:Int):vLe (.p (.int i)) (.p (.int j)) st=.ok (.p (.bl (decide (i≤j)))) st:=rfl
@[simp]theorem vGt_e(i j:Int):vGt (.p (.int i)) (.p (.int j)) st=.ok (.p (.bl (decide (j<i)))) st:=rfl
@[simp]theorem vGe_e(i j:Int):vGe (.p (.int i)) (.p (.int j)) st=.ok (.p (.bl (decide (j≤i)))) st:=rfl
@[simp]theorem vSub_e(i j:Int):vSub (.p (.int i)) (.p (.int j)) st=.ok (.p (.int (i-j))) st:=rfl
@[simp]theorem vAdd_e(i j:Int):vAdd (.p (.int i)) (.p (.int j)) st=.ok (.p (.int (i+j))) st:=rfl
@[simp]theorem vIadd_e(i j:Int):zD5 (.p (.int i)) (.p (.int j)) st=.ok (.p (.int (i+j))) st:=rfl
@[simp]theorem vMulI_e(i j:Int):zE2 (.p (.int i)) (.p (.int j)) st=if zDS i j=true then .ok (.p (.int (i*j))) st else .no:=rfl
@[simp]theorem vFdv_e(i j:Int):vFdv (.p (.int i)) (.p (.int j)) st=if 0<j∧j.natAbs.log2<9000 then .ok (.p (.int (i/j))) st else .no:=by
 unfold vFdv vI2;simp
@[simp]theorem vMod_e(i j:Int):vMod (.p (.int i)) (.p (.int j)) st=if 0<j then .ok (.p (.int (i%j))) st else .no:=by
 unfold vMod vI2;simp
@[simp]theorem vPow_e(i j:Int):vPow (.p (.int i)) (.p (.int j)) st=if 0≤j∧j≤1000∧i.natAbs<1000 then .ok (.p (.int (i^j.toNat))) st else .no:=by
 unfold vPow vI2;simp
def Sm(i:Int):Prop:=i.natAbs<2^200000
theorem log2_lt{n k:Nat} (h:n<2^k) (hk:0<k):n.log2<k:=by
 rcases Nat.eq_zero_or_pos n with rfl|hn
 ·simpa using hk
 ·exact(Nat.log2_lt ∅).mpr h
theorem mulOk_of{i j:Int} (h:Sm i) (h2:Sm j):zDS i j=true:=by
 unfold zDS;have a:=log2_lt h (!0);have b:=log2_lt h2 (!0);exact JO ∅
theorem zLD{k:Nat} (h:k≤200000):2^k≤2^200000:=Nat.pow_le_pow_right (!0) h
theorem Sm.lt{i:Int} (k:Nat) (h:i.natAbs<2^k) (hk:k≤200000):Sm i:=JZ h (zLD hk)
theorem two64:(2:Nat)^64=18446744073709551616:=rfl
theorem Sm.small{i:Int} (h:i.natAbs<18446744073709551616):Sm i:=Sm.lt 64 (by rw[two64];exact h) (!0)
theorem atI_nat{l:List α}{i:Int} (h0:0≤i):L2.atI l i=l[i.toNat]?:=by
 unfold L2.atI L2.ixN;rw[Jm h0]
 by_cases h:i<l.length
 ·rw[Jm h];rfl
 ·rw[Js h,Jw ∅];rfl
@[simp]theorem atI_lit{l:List α} (n:Nat):L2.atI l (no_index (OfNat.ofNat n):Int)=l[(OfNat.ofNat n:Nat)]?:=by
 rw[atI_nat (by exact Yc n)];rfl
@[simp]theorem atI_cast{l:List α} (n:Nat):L2.atI l (n:Int)=l[n]?:=by
 rw[atI_nat (Yc n)];rfl
theorem zRR{f:α→β}{l:List α}{i:Int}:L2.atI (l.map f) i=(L2.atI l i).map f:=by
 unfold L2.atI;rw[Jb];cases L2.ixN l.length i with
 |none=>rfl
 |some j=>show(l.map f)[j]?=_;rw[Ji];rfl
@[simp]theorem ixN_lit(n j:Nat):L2.ixN n (no_index (OfNat.ofNat j):Int)=if(OfNat.ofNat j:Nat)<n then some (OfNat.ofNat j:Nat)else none:=by
 show L2.ixN n ((j:Nat):Int)=if j<n then some j else none
 unfold L2.ixN;rw[Jm ∅]
 by_cases h:j<n
 ·rw[Jm ∅,Jm h];simp
 ·rw[Js ∅,Js h]
def ixP(o:Option P) (st:List Cell):Res W:=match o with
 |some z=>.ok (.p z) st
 |none=>.no
@[simp]theorem ixP_e(z:P):ixP (some z) st=.ok (.p z) st:=rfl
def ixW(o:Option W) (st:List Cell):Res W:=match o with
 |some z=>.ok z st
 |none=>.no
@[simp]theorem ixW_e(z:W):ixW (some z) st=.ok z st:=rfl
@[simp]theorem vIx_tup(l:List P) (i:Int):vIx (.p (.tup l)) (.p (.int i)) st=ixP (L2.atI l i) st:=rfl
@[simp]theorem vIx_lst(l:List P) (i:Int):vIx (.p (.lst l)) (.p (.int i)) st=ixP (L2.atI l i) st:=by
 unfold vIx;show(match zIj st (.p (.lst l))with|some l=>(match L2.atI l i with|some z=>Res.ok z st|none=>.no)|none=>.no)=_
 unfold zIj;show(match L2.atI (l.map W.p) i with|some z=>Res.ok z st|none=>.no)=_
 rw[zRR];cases L2.atI l i<;>rfl
def ixC(i:Int) (c:Option Cell) (st:List Cell):Res W:=match c with
 |some (.lst l)=>ixW (L2.atI l i) st
 |_=>.no
@[simp]theorem ixC_e(i:Int) (l:List W):ixC i (some (.lst l)) st=ixW (L2.atI l i) st:=rfl
@[simp]theorem vIx_r(j:Nat) (i:Int):vIx (.r j) (.p (.int i)) st=ixC i st[j]? st:=by
 unfold vIx ixC zIj;dsimp only;cases st[j]? with
 |none=>rfl
 |some c=>cases c<;>rfl
@[simp]theorem vIx_str(s:Str) (i:Int):vIx (.p (.str s)) (.p (.int i)) st=if s.length≤1000000 then ixP ((L2.atI s.cps.toList i).map fun c=>.str ⟨#[c]⟩) st else .no:=by
 unfold vIx;dsimp only
 by_cases h:s.length≤1000000
 ·rw[Jm h,Jm (show s.length≤LIM from h)]
  cases L2.atI s.cps.toList i<;>rfl
 ·rw[Js h,Js (show ¬s.length≤LIM from h)]
@[simp]theorem vLen_tup(l:List P):vLen [.p (.tup l)] st=.ok (.p (.int l.length)) st:=rfl
@[simp]theorem vLen_lst(l:List P):vLen [.p (.lst l)] st=.ok (.p (.int l.length)) st:=by
 unfold vLen zIj;simp
@[simp]theorem vLen_str(s:Str):vLen [.p (.str s)] st=if s.length≤1000000 then .ok (.p (.int s.length)) st else .no:=rfl
@[simp]theorem vLen_dk(ks:List Key) (l:List P):vLen [.p (.dk ks l)] st=.ok (.p (.int ks.length)) st:=rfl
def lenC(c:Option Cell) (st:List Cell):Res W:=match c with
 |some (.lst l)=>.ok (.p (.int l.length)) st
 |some (.dk ks _)=>.ok (.p (.int ks.length)) st
 |_=>.no
@[simp]theorem lenC_e(l:List W):lenC (some (.lst l)) st=.ok (.p (.int l.length)) st:=rfl
@[simp]theorem vLen_r(i:Nat):vLen [.r i] st=lenC st[i]? st:=by
 unfold vLen lenC zIj;dsimp only;cases st[i]? with
 |none=>rfl
 |some c=>cases c<;>rfl
theorem zGJ{l:List α}{i:Int} (h:0≤i):cutL l (some i) none=l.drop i.toNat:=by
 obtain⟨n,rfl⟩:=Vq h;unfold cutL;rw[bB,Y3,J0 (by simp)]
 rcases bh n l.length with h|h
 ·rw[Yy h];rfl
 ·rw[V1 h,JD (Jq _),JD (by simpa using h)]
theorem zM4{l:List α}{i:Int} (h:0≤i):cutL l none (some i)=l.take i.toNat:=by
 obtain⟨n,rfl⟩:=Vq h;unfold cutL;rw[bB,Y3,Vr,Nat.sub_zero];rcases bh n l.length with h|h
 ·rw[Yy h];rfl
 ·rw[V1 h,J0 (Jq _),J0 (by simpa using h)]
@[simp]theorem zPv{l:List α} (n:Nat):cutL l (some (no_index (OfNat.ofNat n):Int)) none=l.drop (OfNat.ofNat n:Nat):=by
 rw[zGJ (by exact Yc n)];rfl
@[simp]theorem zR5{l:List α} (n:Nat):cutL l none (some (no_index (OfNat.ofNat n):Int))=l.take (OfNat.ofNat n:Nat):=by
 rw[zM4 (by exact Yc n)];rfl
@[simp]theorem vSl_tup(l:List P) (lo hi:Option Int):vSl (.p (.tup l)) lo hi st=.ok (.p (.tup (cutL l lo hi))) st:=rfl
@[simp]theorem vSl_lst(l:List P) (lo hi:Option Int):vSl (.p (.lst l)) lo hi st=.ok (.p (.lst (cutL l lo hi))) st:=rfl
@[simp]theorem vSl_scr(l:List Int) (lo hi:Option Int):vSl (.p (.scr l)) lo hi st=.ok (.p (.lst ((cutL l lo hi).map .int))) st:=rfl
@[simp]theorem vSl_str(z:Str) (lo hi:Option Int):vSl (.p (.str z)) lo hi st=if z.length≤1000000 then .ok (.p (.str (cutS z lo hi))) st else .no:=rfl
@[simp]theorem zLF{α:Type} (g:α→P) (l:List α):pures (l.map (W.p∘g))=some (l.map g):=by rw[←Jy,zLX]
@[simp]theorem zSJ{α:Type} (g:α→P) (l:List α):pures (l.map fun x=>W.p (g x))=some (l.map g):=zLF g l
@[simp]theorem unC_p(x:P):unC st (.p x)=some x:=rfl
@[simp]theorem zN0(l:List P):seqP st (.p (.lst l))=some l:=rfl
@[simp]theorem zN4(l:List P):seqP st (.p (.tup l))=some l:=rfl
@[simp]theorem zHS(l:List P):Y.listOf st (.p (.lst l))=some l:=rfl
def seqC(c:Option Cell):Option (List P):=match c with
 |some (.lst l)=>pures l
 |_=>none
@[simp]theorem seqC_e(l:List W):seqC (some (.lst l))=pures l:=rfl
@[simp]theorem zPe(i:Nat):seqP st (.r i)=seqC st[i]?:=by
 unfold seqP seqC unC;dsimp only;cases st[i]? with
 |none=>rfl
 |some c=>cases c with
  |lst l=>simp only;cases pures l<;>rfl
  |_=>rfl
@[simp]theorem zKw(i:Nat):Y.listOf st (.r i)=seqC st[i]?:=by
 unfold Y.listOf seqC unC;dsimp only;cases st[i]? with
 |none=>rfl
 |some c=>cases c with
  |lst l=>simp only;cases pures l<;>rfl
  |_=>rfl
@[simp]theorem zSG:intsOf []=some []:=rfl
@[simp]theorem zQE(i:Int) (l:List P):intsOf (.int i::l)=(intsOf l).map (i :: ·):=by
 rw[intsOf];cases intsOf l<;>rfl
@[simp]theorem zJk{α:Type} (l:List α) (f:α→Int):intsOf (l.map fun x=>P.int (f x))=some (l.map f):=by
 have:=zEX (l.map f)
 rwa [Jy]at this
@[simp]theorem zRF{α:Type} (l:List α) (f:α→Int):intsOf (l.map (P.int∘f))=some (l.map f):=zJk l f
@[simp]theorem zR0(l:List Int):intsOf (l.map P.int)=some l:=zEX l
@[simp]theorem trusF_nil:zDm []=some []:=rfl
theorem zLk(l:List Bool):zDm (l.map P.bl)=some l:=by
 induction l with
 |nil=>rfl
 |cons b l ih=>rw[Jk,zDm,ih];rfl
@[simp]theorem zK9{α:Type} (l:List α) (f:α→Bool):zDm (l.map fun x=>P.bl (f x))=some (l.map f):=by
 have:=zLk (l.map f)
 rwa [Jy]at this
@[simp]theorem zSF{α:Type} (l:List α) (f:α→Bool):zDm (l.map (P.bl∘f))=some (l.map f):=zK9 l f
@[simp]theorem trusF_bl(b:Bool) (l:List P):zDm (.bl b::l)=(zDm l).map (b :: ·):=by
 rw[zDm];unfold truF;simp only;cases zDm l<;>rfl
@[simp]theorem trusF_int(b:Int) (l:List P):zDm (.int b::l)=(zDm l).map ((b != 0) :: ·):=by
 rw[zDm];unfold truF;simp only;cases zDm l<;>rfl
def maxR(o:Option (List Int)) (st:List Cell):Res W:=match o with
 |some l=>if 0<l.length then .ok (.p (.int (maxI l))) st else .no
 |none=>.no
@[simp]theorem maxR_e(l:List Int):maxR (some l) st=if 0<l.length then .ok (.p (.int (maxI l))) st else .no:=rfl
@[simp]theorem vMaxS_e(w:W):zHe [w] st=maxR ((seqP st w).bind intsOf) st:=by unfold zHe maxR;rfl
@[simp]theorem vMaxS_2(i j:Int):zHe [.p (.int i),.p (.int j)] st=.ok (.p (.int (if j>i then j else i))) st:=rfl
def anyR(f:List Bool→Bool) (o:Option (List Bool)) (st:List Cell):Res W:=match o with
 |some bs=>.ok (.p (.bl (f bs))) st
 |none=>.no
@[simp]theorem anyR_e(f:List Bool→Bool) (bs:List Bool):anyR f (some bs) st=.ok (.p (.bl (f bs))) st:=rfl
@[simp]theorem vAnyG_e(f:List Bool→Bool) (w:W):zF6 f [w] st=anyR f ((seqP st w).bind zDm) st:=by unfold zF6 anyR;rfl
@[simp]theorem vInt_int(i:Int):vInt [.p (.int i)] st=.ok (.p (.int i)) st:=rfl
@[simp]theorem vInt_bl(k:Bool):vInt [.p (.bl k)] st=.ok (.p (.int (if k then 1 else 0))) st:=rfl
@[simp]theorem vAbs_e(i:Int):vAbs [.p (.int i)] st=.ok (.p (.int (if i<0 then -i else i))) st:=rfl
@[simp]theorem zOq(i:Int):vStr [.p (.int i)] st=if i.natAbs.log2<1920 then .ok (.p (.str (toString i))) st else .no:=rfl
@[simp]theorem zSK(l:List P):zCI [.p (.tup l)] st=.ok (.p (.tup l)) st:=rfl
@[simp]theorem zSD(l:List P):zCI [.p (.lst l)] st=.ok (.p (.tup l)) st:=rfl
def tupC(o:Option (List P)) (st:List Cell):Res W:=match o with
 |some l=>.ok (.p (.tup l)) st
 |none=>.no
@[simp]theorem tupC_e(l:List P):tupC (some l) st=.ok (.p (.tup l)) st:=rfl
@[simp]theorem vTupOf_r(i:Nat):zCI [.r i] st=tupC (seqC st[i]?) st:=by
 rw[←zKw];unfold zCI tupC;rfl
def lstR(o:Option (List P)) (st:List Cell):Res W:=match o with
 |some l=>.ok (.p (.lst l)) st
 |none=>.no
@[simp]theorem lstR_e(l:List P):lstR (some l) st=.ok (.p (.lst l)) st:=rfl
@[simp]theorem vLstOf_e(w:W):zIz [w] st=lstR (seqP st w) st:=by unfold zIz lstR;rfl
def frzR(j:Nat) (c:Option Cell) (st:List Cell):Res W:=match c with
 |some (.lst l)=>match pures l with
  |some m=>.ok (.p (.lst m)) (st.set j .dead)
  |none=>.no
 |_=>.no
def zRl(j:Nat) (o:Option (List P)) (st:List Cell):Res W:=match o with
  |some m=>.ok (.p (.lst m)) (st.set j .dead)
  |none=>.no
@[simp]theorem frzR2_e(j:Nat) (m:List P):zRl j (some m) st=.ok (.p (.lst m)) (st.set j .dead):=rfl
@[simp]theorem frzR_e(j:Nat) (l:List W):frzR j (some (.lst l)) st=zRl j (pures l) st:=rfl
def frzW(w:W) (st1:List Cell):Res W:=match w with
 | .p x=>.ok (.p x) st1
 | .r i=>frzR i st1[i]? st1
@[simp]theorem frzW_p(x:P):frzW (.p x) st=.ok (.p x) st:=rfl
@[simp]theorem frzW_r(i:Nat):frzW (.r i) st=frzR i st[i]? st:=rfl
@[simp]theorem mFrz_e(a:EM):mFrz a σ st=(a σ st).bind frzW:=by
 unfold mFrz frzW frzR;rfl
def tyC(c:Option Cell):Option String:=match c with
  |some (.lst _)=>some "list"
  |some (.dk _ _)=>some "dict"
  |_=>none
@[simp]theorem tyC_e(l:List W):tyC (some (.lst l))=some "list" := rfl
@[simp]theorem tyW_r(i:Nat):tyW st (.r i)=tyC st[i]?:=rfl
@[simp]theorem zMO(z:Str):tyW st (.p (.str z))=some "str" := rfl
def apC(i:Nat) (x:W) (c:Option Cell) (st:List Cell):Res W:=match c with
  |some (.lst l)=>if l.length<1000000 then .ok (.p .non) (st.set i (.lst (l++[x])))else .no
  |_=>.no
@[simp]theorem apC_e(i:Nat) (x:W) (l:List W):apC i x (some (.lst l)) st=if l.length<1000000 then .ok (.p .non) (st.set i (.lst (l++[x])))else .no:=rfl
@[simp]theorem vAppend_e(i:Nat) (x:W):zBm (.r i) [x] st=apC i x st[i]? st:=by unfold zBm apC;rfl
def insC(i:Nat) (k:Int) (x:W) (c:Option Cell) (st:List Cell):Res W:=match c with
  |some (.lst l)=>if l.length<1000000∧0≤k∧k≤1000000 then .ok (.p .non) (st.set i (.lst (l.take k.toNat++[x]++l.drop k.toNat)))else .no
  |_=>.no
@[simp]theorem insC_e(i:Nat) (k:Int) (x:W) (l:List W):insC i k x (some (.lst l)) st=if l.length<1000000∧0≤k∧k≤1000000 then .ok (.p .non) (st.set i (.lst (l.take k.toNat++[x]++l.drop k.toNat)))else .no:=rfl
@[simp]theorem vInsert_e(i:Nat) (k:Int) (x:W):zGw (.r i) [.p (.int k),x] st=insC i k x st[i]? st:=by unfold zGw insC;rfl
@[simp]theorem SR.nox_ok(f:Fl):(SR.ok f σ st).nox=.ok f σ st:=rfl
@[simp]theorem SR.nox_no:SR.no.nox=.no:=rfl
@[simp]theorem vEqB_int(n:Bool) (i j:Int):vEqB n (.p (.int i)) (.p (.int j)) st=.ok (.p (.bl (if n=true then !(i==j)else(i==j)))) st:=rfl
@[simp]theorem vEqB_bl(n:Bool) (i j:Bool):vEqB n (.p (.bl i)) (.p (.bl j)) st=.ok (.p (.bl (if n=true then !(i==j)else(i==j)))) st:=rfl
@[simp]theorem vEqB_str(n:Bool) (i j:Str):vEqB n (.p (.str i)) (.p (.str j)) st=.ok (.p (.bl (if n=true then !(i==j)else(i==j)))) st:=rfl
@[simp]theorem vIsN_non(n:Bool):vIsN n (.p .non) (.p .non) st=.ok (.p (.bl (!n))) st:=rfl
@[simp]theorem vIsN_bl(n b:Bool):vIsN n (.p (.bl b)) (.p .non) st=.ok (.p (.bl n)) st:=rfl
@[simp]theorem vIsN_int(n:Bool) (b:Int):vIsN n (.p (.int b)) (.p .non) st=.ok (.p (.bl n)) st:=rfl
@[simp]theorem vIsN_str(n:Bool) (b:Str):vIsN n (.p (.str b)) (.p .non) st=.ok (.p (.bl n)) st:=rfl
@[simp]theorem vIsN_tup(n:Bool) (b:List P):vIsN n (.p (.tup b)) (.p .non) st=.ok (.p (.bl n)) st:=rfl
@[simp]theorem vIsN_lst(n:Bool) (b:List P):vIsN n (.p (.lst b)) (.p .non) st=.ok (.p (.bl n)) st:=rfl
@[simp]theorem vIsN_obj(n:Bool) (c:Nat) (b:List P):vIsN n (.p (.obj c b)) (.p .non) st=.ok (.p (.bl n)) st:=rfl
@[simp]theorem vIsN_r(n:Bool) (i:Nat):vIsN n (.r i) (.p .non) st=.ok (.p (.bl n)) st:=rfl
@[simp]theorem vInB_tup(n:Bool) (x:Str) (l:List P) (h:l.all zD7=true):vInB n (.p (.str x)) (.p (.tup l)) st=.ok (.p (.bl (if n=true then !inP (.str x) l else inP (.str x) l))) st:=by
 unfold vInB;simp only[zN4];rw[Jm ⟨rfl,h⟩]
@[simp]theorem zKa(n:Bool) (x:Str) (l:List P) (h:l.all zD7=true):vInB n (.p (.str x)) (.p (.lst l)) st=.ok (.p (.bl (if n=true then !inP (.str x) l else inP (.str x) l))) st:=by
 unfold vInB;simp only[zN0];rw[Jm ⟨rfl,h⟩]
@[simp]theorem flatP_str(s:Str):zD7 (.str s)=true:=rfl
@[simp]theorem flatP_int(s:Int):zD7 (.int s)=true:=rfl
@[simp]theorem flatP_bl(s:Bool):zD7 (.bl s)=true:=rfl
@[simp]theorem flatP_non:zD7 .non=true:=rfl
@[simp]theorem inP_nil(x:P):inP x []=false:=rfl
@[simp]theorem inP_cons(x y:P) (l:List P):inP x (y::l)=(eqF y x||inP x l):=rfl
@[simp]theorem eqF_str(x y:Str):eqF (.str x) (.str y)=(x==y):=rfl
@[simp]theorem eqF_int(x y:Int):eqF (.int x) (.int y)=(x==y):=rfl
@[simp]theorem vAdd_lst(l m:List P):vAdd (.p (.lst l)) (.p (.lst m)) st=if l.length+m.length≤1000000 then .ok (.p (.lst (l++m))) st else .no:=rfl
@[simp]theorem vAdd_tup(l m:List P):vAdd (.p (.tup l)) (.p (.tup m)) st=if l.length+m.length≤1000000 then .ok (.p (.tup (l++m))) st else .no:=rfl
@[simp]theorem vAdd_str(l m:Str):vAdd (.p (.str l)) (.p (.str m)) st=if l.length+m.length≤1000000 then .ok (.p (.str (l++m))) st else .no:=rfl
@[simp]theorem vIadd_str(l m:Str):zD5 (.p (.str l)) (.p (.str m)) st=if l.length+m.length≤1000000 then .ok (.p (.str (l++m))) st else .no:=rfl
@[simp]theorem Str.len_append(a b:Str):(a++b).length=a.length+b.length:=by
 show(a.cps++b.cps).size=_;rw[Array.size_append];rfl
@[simp]theorem Str.len_empty:Str.empty.length=0:=rfl
def okP:Nat→P→Bool
 |_,.non=>true
 |_,.bl _=>true
 |_,.int _=>true
 |_,.str s=>PyData.strOk s
 |n+1,.tup l=>l.all (okP n)
 |n+1,.lst l=>l.all (okP n)
 |_,_=>false
theorem zH9{n:Nat} (ih:∀x,okP n x=true→∃d,toD x=some d∧d.canLay0=true∧d.depth≤n):∀ {l:List P},l.all (okP n)=true→∃ds,toDs l=some ds∧PyData.canLayAll0 ds=true∧PyData.depthAll ds≤n∧ds.length=l.length
 |[],_=>⟨[],rfl,rfl,JI _,rfl⟩
 |x::l,h=>by
  rw[VW,Jj]at h;obtain⟨d,e1,e2,e3⟩:=ih x h.1;obtain⟨ds,f1,f2,f3,f4⟩:=zH9 ih h.2;refine⟨d::ds,by rw[toDs,e1,f1],?_,?_,by simp[f4]⟩
  ·rw[PyData.canLayAll0,e2,f2];rfl
  ·rw[PyData.depthAll];exact Nat.max_le.mpr ⟨e3,f3⟩
theorem zHb:∀(n:Nat) (x:P),okP n x=true→∃d,toD x=some d∧d.canLay0=true∧d.depth≤n
 |n,.non,_=>⟨.none,by rw[toD],by rw[PyData.canLay0],by rw[PyData.depth];exact JI _⟩
 |n,.bl b,_=>⟨.bool b,by rw[toD],by rw[PyData.canLay0],by rw[PyData.depth];exact JI _⟩
 |n,.int i,_=>⟨.int i,by rw[toD],by rw[PyData.canLay0],by rw[PyData.depth];exact JI _⟩
 |n,.str s,h=>⟨.str s,by rw[toD],by
   rw[PyData.canLay0];cases n<;>(rw[okP]at h;exact h),by rw[PyData.depth];exact JI _⟩
 |0,.tup l,h=>by rw[okP]at h<;>first|cases h|(intros;contradiction)
 |0,.lst l,h=>by rw[okP]at h<;>first|cases h|(intros;contradiction)
 |n+1,.tup l,h=>by
  rw[okP]at h;obtain⟨ds,f1,f2,f3,f4⟩:=zH9 (zHb n) h;refine⟨.tuple ds,by rw[toD,f1],by rw[PyData.canLay0];exact f2,?_⟩
  rw[PyData.depth];omega
 |n+1,.lst l,h=>by
  rw[okP]at h;obtain⟨ds,f1,f2,f3,f4⟩:=zH9 (zHb n) h;refine⟨.list ds,by rw[toD,f1],by rw[PyData.canLay0];exact f2,?_⟩
  rw[PyData.depth];omega
 |n,.scr _,h=>by cases n<;>(rw[okP]at h<;>first|cases h|(intros;contradiction))
 |n,.dk _ _,h=>by cases n<;>(rw[okP]at h<;>first|cases h|(intros;contradiction))
 |n,.obj _ _,h=>by cases n<;>(rw[okP]at h<;>first|cases h|(intros;contradiction))
 |n,.exn _ _,h=>by cases n<;>(rw[okP]at h<;>first|cases h|(intros;contradiction))
 |n,.lam _ _,h=>by cases n<;>(rw[okP]at h<;>first|cases h|(intros;contradiction))
 |n,.cls _,h=>by cases n<;>(rw[okP]at h<;>first|cases h|(intros;contradiction))
 |n,.fd _ _,h=>by cases n<;>(rw[okP]at h<;>first|cases h|(intros;contradiction))
 |n,.fn _ _,h=>by cases n<;>(rw[okP]at h<;>first|cases h|(intros;contradiction))
mutual
def pEq:P→P→Bool
 | .non,.non=>true
 | .bl a,.bl b=>a==b
 | .bl a,.int j=>(if a then 1 else 0)==j
 | .int i,.bl b=>i==(if b then 1 else 0)
 | .int i,.int j=>i==j
 | .str x,.str y=>x==y
 | .lst l,.lst m=>pEqs l m
 | .tup l,.tup m=>pEqs l m
 |_,_=>false
def pEqs:List P→List P→Bool
 |[],[]=>true
 |x::l,y::m=>pEq x y&&pEqs l m
 |_,_=>false
end
@[simp]theorem okP_non(n:Nat):okP n .non=true:=by cases n<;>rfl
@[simp]theorem okP_bl(n:Nat) (b:Bool):okP n (.bl b)=true:=by cases n<;>rfl
@[simp]theorem okP_int(n:Nat) (b:Int):okP n (.int b)=true:=by cases n<;>rfl
@[simp]theorem zNO(n:Nat) (b:Str):okP n (.str b)=PyData.strOk b:=by cases n<;>rfl
@[simp]theorem okP_tup{n:Nat} (h:0<n) (l:List P):okP n (.tup l)=l.all (okP (n-1)):=by
 cases n with
 |zero=>omega
 |succ n=>rfl
@[simp]theorem zIC{n:Nat} (h:0<n) (l:List P):okP n (.lst l)=l.all (okP (n-1)):=by
 cases n with
 |zero=>omega
 |succ n=>rfl
@[simp]theorem zFE(a:String):PyData.strOk (Str.ofString a)=true:=by
 rw[VN];unfold PyData.strOk;simp only[List.all_toArray,List.all_map,Jp];intro c _;have h:=c.valid;simp only[Function.comp_apply,JR];show c.val.toNat<_;rcases h with h|⟨_,h⟩
 ·have:c.val.toNat<55296:=h
  omega
 ·have:c.val.toNat<1114112:=h
  omega
@[simp]theorem pEqs_nil:pEqs [] []=true:=by rw[pEqs]
@[simp]theorem pEqs_cons(x y:P) (l m:List P):pEqs (x::l) (y::m)=(pEq x y&&pEqs l m):=by rw[pEqs]
@[simp]theorem pEqs_nc(y:P) (m:List P):pEqs [] (y::m)=false:=by rw[pEqs]<;>simp
@[simp]theorem pEqs_cn(y:P) (m:List P):pEqs (y::m) []=false:=by rw[pEqs]<;>simp
@[simp]theorem pEq_int(i j:Int):pEq (.int i) (.int j)=(i==j):=by rw[pEq]
@[simp]theorem pEq_str(i j:Str):pEq (.str i) (.str j)=(i==j):=by rw[pEq]
@[simp]theorem pEq_bl(i j:Bool):pEq (.bl i) (.bl j)=(i==j):=by rw[pEq]
@[simp]theorem pEq_tup(i j:List P):pEq (.tup i) (.tup j)=pEqs i j:=by rw[pEq]
@[simp]theorem pEq_lst(i j:List P):pEq (.lst i) (.lst j)=pEqs i j:=by rw[pEq]
theorem zC5{n:Nat} (hn:n≤64){x:P} (h:okP n x=true):∃d,toD x=some d∧SeqAt.shaped d=true:=by
 obtain⟨d,e1,e2,e3⟩:=zHb n x h;exact⟨d,e1,by unfold SeqAt.shaped;rw[e2,JO (Jt e3 hn)];rfl⟩
mutual
theorem zHx:∀ {x y:P}{d e:PyData},toD x=some d→toD y=some e→PyData.eqv d e=pEq x y
 |x,y,d,e,hx,hy=>by
  cases x with
  |non=>rw[toD]at hx;cases hx;cases y<;>simp only[toD]at hy<;>first|(cases hy;rw[PyData.eqv,pEq]<;>simp)|(split at hy<;>cases hy<;>(rw[PyData.eqv,pEq]<;>simp))|cases hy
  |bl b=>rw[toD]at hx;cases hx;cases y<;>simp only[toD]at hy<;>first|(cases hy;rw[PyData.eqv,pEq]<;>simp)|(split at hy<;>cases hy<;>(rw[PyData.eqv,pEq]<;>simp))|cases hy
  |int i=>rw[toD]at hx;cases hx;cases y<;>simp only[toD]at hy<;>first|(cases hy;rw[PyData.eqv,pEq]<;>simp)|(split at hy<;>cases hy<;>(rw[PyData.eqv,pEq]<;>simp))|cases hy
  |str z=>rw[toD]at hx;cases hx;cases y<;>simp only[toD]at hy<;>first|(cases hy;rw[PyData.eqv,pEq]<;>simp)|(split at hy<;>cases hy<;>(rw[PyData.eqv,pEq]<;>simp))|cases hy
  |tup l =>
   rw[toD]at hx;split at hx
   ·rename_i ds e1
    cases hx;cases y with
    |tup m =>
     rw[toD]at hy;split at hy
     ·rename_i es e2
      cases hy;rw[PyData.eqv,pEq,zHy e1 e2]
     ·cases hy
    |lst m=>rw[toD]at hy;split at hy<;>cases hy;rw[PyData.eqv,pEq]<;>simp
    |non=>rw[toD]at hy;cases hy;rw[PyData.eqv,pEq]<;>simp
    |bl b=>rw[toD]at hy;cases hy;rw[PyData.eqv,pEq]<;>simp
    |int b=>rw[toD]at hy;cases hy;rw[PyData.eqv,pEq]<;>simp
    |str b=>rw[toD]at hy;cases hy;rw[PyData.eqv,pEq]<;>simp
    |scr b=>rw[toD]at hy;cases hy
    |dk b c=>rw[toD]at hy;cases hy
    |obj b c=>rw[toD]at hy;cases hy
    |exn b c=>rw[toD]at hy;cases hy
    |lam b c=>rw[toD]at hy;cases hy
    |cls b=>rw[toD]at hy;cases hy
    |fd _ _=>rw[toD]at hy;cases hy
    |fn _ _=>rw[toD]at hy;cases hy
   ·cases hx
  |lst l =>
   rw[toD]at hx;split at hx
   ·rename_i ds e1
    cases hx;cases y with
    |lst m =>
     rw[toD]at hy;split at hy
     ·rename_i es e2
      cases hy;rw[PyData.eqv,pEq,zHy e1 e2]
     ·cases hy
    |tup m=>rw[toD]at hy;split at hy<;>cases hy;rw[PyData.eqv,pEq]<;>simp
    |non=>rw[toD]at hy;cases hy;rw[PyData.eqv,pEq]<;>simp
    |bl b=>rw[toD]at hy;cases hy;rw[PyData.eqv,pEq]<;>simp
    |int b=>rw[toD]at hy;cases hy;rw[PyData.eqv,pEq]<;>simp
    |str b=>rw[toD]at hy;cases hy;rw[PyData.eqv,pEq]<;>simp
    |scr b=>rw[toD]at hy;cases hy
    |dk b c=>rw[toD]at hy;cases hy
    |obj b c=>rw[toD]at hy;cases hy
    |exn b c=>rw[toD]at hy;cases hy
    |lam b c=>rw[toD]at hy;cases hy
    |cls b=>rw[toD]at hy;cases hy
    |fd _ _=>rw[toD]at hy;cases hy
    |fn _ _=>rw[toD]at hy;cases hy
   ·cases hx
  |scr _=>rw[toD]at hx;cases hx
  |dk _ _=>rw[toD]at hx;cases hx
  |obj _ _=>rw[toD]at hx;cases hx
  |exn _ _=>rw[toD]at hx;cases hx
  |lam _ _=>rw[toD]at hx;cases hx
  |cls _=>rw[toD]at hx;cases hx
  |fd _ _=>rw[toD]at hx;cases hx
  |fn _ _=>rw[toD]at hx;cases hx
theorem zHy:∀ {l m:List P}{ds es:List PyData},toDs l=some ds→toDs m=some es→PyData.eqvAll ds es=pEqs l m
 |[],[],ds,es,h1,h2=>by rw[toDs]at h1 h2;cases h1;cases h2;rw[PyData.eqvAll,pEqs]
 |[],y::m,ds,es,h1,h2=>by
  rw[toDs]at h1;rw[toDs]at h2;cases h1;split at h2
  ·cases h2;rw[PyData.eqvAll,pEqs]<;>simp
  ·cases h2
 |x::l,[],ds,es,h1,h2=>by
  rw[toDs]at h1;rw[toDs]at h2;cases h2;split at h1
  ·cases h1;rw[PyData.eqvAll,pEqs]<;>simp
  ·cases h1
 |x::l,y::m,ds,es,h1,h2=>by
  rw[toDs]at h1;rw[toDs]at h2;split at h1
  ·rename_i d ds' e1 e2
   cases h1;split at h2
   ·rename_i e es' f1 f2
    cases h2;rw[PyData.eqvAll,pEqs,zHx e1 f1,zHy e2 f2]
   ·cases h2
  ·cases h1
end
theorem zDC{n:Bool}{x y:P} (h:okP 64 x=true) (h2:okP 64 y=true):vEqB n (.p x) (.p y) st=.ok (.p (.bl (if n=true then !pEq x y else pEq x y))) st:=by
 obtain⟨d,e1,e2⟩:=zC5 (Jq _) h;obtain⟨e,f1,f2⟩:=zC5 (Jq _) h2;unfold vEqB;cases hs:eqW (.p x) (.p y)with
 |some k =>
  have:pEq x y=k:=by
   have hs:eqS x y=some k:=hs;cases x<;>cases y<;>first|(unfold eqS at hs;cases hs;done)|(cases hs;rw[pEq]<;>simp)
  rw[this]
 |none =>
  unfold unD;simp only[unC_p,V2,e1,f1];rw[Jm ⟨e2,f2⟩,zHx e1 f1]
theorem zAs{n:Bool}{l:List P} (h:okP 64 (.tup l)=true):vEqB n (.p (.tup l)) (.p (.tup [])) st=.ok (.p (.bl (if n=true then !l.isEmpty else l.isEmpty))) st:=by
 obtain⟨d,e1,e2⟩:=zC5 (Jq _) h;obtain⟨ds,f1,_,_,f4⟩:=zH9 (zHb 63) (show l.all (okP 63)=true by rw[okP]at h;exact h)
 have e3:toD (.tup l)=some (.tuple ds):=by rw[toD,f1]
 rw[e1]at e3;cases e3;have e4:toD (.tup [])=some (.tuple []):=by rw[toD];rfl
 unfold vEqB;have e5:eqW (.p (.tup l)) (.p (.tup []))=none:=rfl;rw[e5];unfold unD;simp only[unC_p,V2,e1,e4];rw[Jm ⟨e2,!0⟩]
 have:PyData.eqv (.tuple ds) (.tuple [])=l.isEmpty:=by
  cases ds with
  |nil=>cases l with
   |nil=>rw[PyData.eqv,PyData.eqvAll];rfl
   |cons a l=>cases f4
  |cons d ds=>cases l with
   |nil=>cases f4
   |cons a l=>rw[PyData.eqv,PyData.eqvAll];rfl
 rw[this]
def zRd(ks:List Str) (o:Option (List P)) (st1:List Cell):Res W:=match o with
 |some l=>.ok (.p (.dk (ks.map .inr) l)) st1
 |none=>.no
@[simp]theorem dispR_e(ks:List Str) (l:List P):zRd ks (some l) st=.ok (.p (.dk (ks.map .inr) l)) st:=rfl
def dispK(ks:List Str) (ws:List W) (st1:List Cell):Res W:=zRd ks (pures ws) st1
@[simp]theorem dispK_e(ks:List Str) (ws:List W):dispK ks ws st=zRd ks (pures ws) st:=rfl
@[simp]theorem mDisp_e(ks:List Str) (ms:List EM):zJU ks ms σ st=(amOf ms σ st).nox.bind (dispK ks):=rfl
@[simp]theorem amOf_nil:amOf [] σ st=.ok [] st:=rfl
@[simp]theorem amOf_cons(m:EM) (ms:List EM):amOf (m::ms) σ st=(m σ st).bind (zQg (amOf ms) σ):=rfl
def zOd(o:Option P) (st2:List Cell):Res W:=match o with
 |some z=>.ok (.p z) st2
 |none=>.no
@[simp]theorem dgetP_e(z:P):zOd (some z) st=.ok (.p z) st:=rfl
def zIo(w x:W) (st2:List Cell):Res W:=match w,x with
 | .p (.dk ks l),.p y=>zOd ((keyP y).bind fun k=>dkGet ks l k) st2
 |_,_=>.no
@[simp]theorem dgetK2_s(ks:List Key) (l:List P) (z:Str):zIo (.p (.dk ks l)) (.p (.str z)) st=zOd (dkGet ks l (.inr z)) st:=rfl
@[simp]theorem dgetK2_i(ks:List Key) (l:List P) (z:Int):zIo (.p (.dk ks l)) (.p (.int z)) st=zOd (dkGet ks l (.inl z)) st:=rfl
def zRy(a:EM) (σ:Sg) (w:W) (st1:List Cell):Res W:=(a σ st1).bind (zIo w)
@[simp]theorem dgetK_e(a:EM) (w:W):zRy a σ w st=(a σ st).bind (zIo w):=rfl
@[simp]theorem mDGet_e(o a:EM):zIy o a σ st=(o σ st).bind (zRy a σ):=by
  unfold zIy
  congr 1;funext w st1
  unfold zRy
  congr 1;funext x st2
  unfold zIo;cases w with
  |r i=>rfl
  |p y =>
           cases y<;>cases x<;>try rfl
           simp only
           rename_i ks l y
           cases keyP y with
           |none=>rfl
           |some k=>simp only[V2];cases dkGet ks l k<;>rfl
@[simp]theorem dkGet_nil(l:List P) (k:Key):dkGet [] l k=none:=rfl
@[simp]theorem zSC(k0:Key) (ks:List Key) (x:P) (l:List P) (k:Key):dkGet (k0::ks) (x::l) k=if k0=k then some x else dkGet ks l k:=by
 unfold dkGet;rw[JU,VR]
 by_cases h:k0=k<;>simp[h]
theorem zFM(l:List Str):strsOf (l.map P.str)=some l:=by
 induction l with
 |nil=>rfl
 |cons b l ih=>rw[Jk,strsOf,ih]
@[simp]theorem zSI:strsOf []=some []:=rfl
@[simp]theorem zRs(s:Str) (l:List P):strsOf (.str s::l)=(strsOf l).map (s :: ·):=by
 rw[strsOf];cases strsOf l<;>rfl
@[simp]theorem zJN{α:Type} (l:List α) (f:α→Str):strsOf (l.map fun x=>P.str (f x))=some (l.map f):=by
 have:=zFM (l.map f)
 rwa [Jy]at this
@[simp]theorem zQH{α:Type} (l:List α) (f:α→Str):strsOf (l.map (P.str∘f))=some (l.map f):=zJN l f
def joinR(a:Str) (o:Option (List Str)) (st:List Cell):Res W:=match o with
 |some ys=>if(ys.map (·.length)).sum+ys.length*a.length≤1000000 then .ok (.p (.str (Txt.join a ys))) st else .no
 |none=>.no
@[simp]theorem joinR_e(a:Str) (ys:List Str):joinR a (some ys) st=if(ys.map (·.length)).sum+ys.length*a.length≤1000000 then .ok (.p (.str (Txt.join a ys))) st else .no:=rfl
@[simp]theorem vJoin_e(a:Str) (w:W):zLA (.p (.str a)) [w] st=joinR a ((seqP st w).bind strsOf) st:=by unfold zLA joinR;rfl
def forL(t:Tg) (b:SMm):List W→Sg→List Cell→SR
 |[],σ,st=>.ok .nx σ st
 |w::l,σ,st=>match t.put w σ with
  |none=>.no
  |some σ1=>match b σ1 st with
    | .ok .nx σ2 st2=>forL t b l σ2 st2
    | .ok .ct σ2 st2=>forL t b l σ2 st2
    | .ok .bk σ2 st2=>.ok .nx σ2 st2
    |r=>r
theorem zM8{l:List W} (get:List Cell→Nat→Option (Option W)) (t:Tg) (b:SMm) (n0:Nat) (hg:∀st i,i≤l.length→get st i=some l[i]?):∀(n i:Nat) (σ:Sg) (st:List Cell),i≤l.length→l.length-i<n→forF ⟨get,n0⟩ t b n i σ st=forL t b (l.drop i) σ st:=by
 intro n
 induction n with
 |zero=>intro i σ st hi h;omega
 |succ n ih =>
  intro i σ st hi h;rw[forF];show(match get st i with|none=>SR.no|some none=>.ok .nx σ st|some (some w)=>_)=_
  rw[hg st i hi]
  by_cases hl:i<l.length
  ·rw[Jf hl,J6 hl,forL];simp only;cases t.put l[i] σ with
   |none=>rfl
   |some σ1 =>
    simp only;have e:∀σ2 st2,forF ⟨get,n0⟩ t b n (i+1) σ2 st2=forL t b (l.drop (i+1)) σ2 st2:=fun σ2 st2=>ih (i+1) σ2 st2 ∅ ∅
    cases b σ1 st with
    |ok f σ2 st2=>cases f<;>simp only[e]
    |exc _ _ _=>rfl
    |no=>rfl
  ·rw[Jw ∅,JD ∅,forL]
theorem zLs(l:List W) (t:Tg) (b:SMm) (σ:Sg) (st:List Cell):forF (srcL l) t b (l.length+1) 0 σ st=forL t b l σ st:=by
 have:=zM8 (l:=l) (fun _ i=>some l[i]?) t b l.length (fun _ _ _=>rfl) (l.length+1) 0 σ st ∅ ∅
 rw[Vr]at this;exact this
theorem zND(l:List W) (t:Tg) (b:SMm) (σ:Sg) (st:List Cell):forF (srcZ l) t b (l.length+1) 0 σ st=forL t b l σ st:=by
 have:=zM8 (l:=l) (fun _ i=>if i≤l.length then some l[i]? else none) t b l.length (fun _ i hi=>Jm hi) (l.length+1) 0 σ st ∅ ∅
 rw[Vr]at this;exact this
@[simp]theorem zKd(l:List W):(srcL l).n=l.length:=rfl
@[simp]theorem zPh(l:List W):(srcZ l).n=l.length:=rfl
def zLR(t:Tg) (b:SMm) (σ:Sg) (src:Src) (st1:List Cell):SR:=forF src t b (src.n+1) 0 σ st1
theorem zJE(t:Tg) (b:SMm) (src:Src):zLR t b σ src st=forF src t b (src.n+1) 0 σ st:=rfl
@[simp]theorem sFor_e(m:IM) (t:Tg) (b:SMm):sFor m t b σ st=(m σ st).to σ (zLR t b σ):=rfl
def forK(t:Tg) (b:SMm) (l:List W) (r:SR):SR:=match r with
    | .ok .nx σ2 st2=>forL t b l σ2 st2
    | .ok .ct σ2 st2=>forL t b l σ2 st2
    | .ok .bk σ2 st2=>.ok .nx σ2 st2
    |r=>r
def forP(t:Tg) (b:SMm) (l:List W) (st:List Cell) (o:Option Sg):SR:=match o with
 |none=>.no
 |some σ1=>forK t b l (b σ1 st)
@[simp]theorem zGH(t:Tg) (b:SMm):forL t b [] σ st=.ok .nx σ st:=rfl
@[simp]theorem zBQ(t:Tg) (b:SMm) (w:W) (l:List W):forL t b (w::l) σ st=forP t b l st (t.put w σ):=by
 rw[forL];unfold forP forK;rfl
@[simp]theorem forP_e(t:Tg) (b:SMm) (l:List W):forP t b l st (some σ)=forK t b l (b σ st):=rfl
@[simp]theorem forK_nx(t:Tg) (b:SMm) (l:List W):forK t b l (.ok .nx σ st)=forL t b l σ st:=rfl
@[simp]theorem forK_ct(t:Tg) (b:SMm) (l:List W):forK t b l (.ok .ct σ st)=forL t b l σ st:=rfl
@[simp]theorem forK_bk(t:Tg) (b:SMm) (l:List W):forK t b l (.ok .bk σ st)=.ok .nx σ st:=rfl
@[simp]theorem forK_rt(t:Tg) (b:SMm) (l:List W) (w:W):forK t b l (.ok (.rt w) σ st)=.ok (.rt w) σ st:=rfl
@[simp]theorem forK_no(t:Tg) (b:SMm) (l:List W):forK t b l .no=.no:=rfl
@[simp]theorem forK_ite(t:Tg) (b:SMm) (l:List W){c:Prop} [Decidable c] (x y:SR):forK t b l (if c then x else y)=if c then forK t b l x else forK t b l y:=by split<;>rfl
def zQ1(b:SMm) (st:List Cell) (o:Option Sg):SR:=match o with
 |some σ1=>b σ1 st
 |none=>.no
@[simp]theorem zNE(b:SMm):zQ1 b st (some σ)=b σ st:=rfl
def zFu(t:Tg) (b:SMm) (w:W) (σ:Sg) (st:List Cell):SR:=zQ1 b st (t.put w σ)
@[simp]theorem stepS_nm(i:Nat) (b:SMm) (w:W):zFu (.nm i) b w σ st=b (σ.set i (some w)) st:=by unfold zFu;simp
@[simp]theorem stepS_tp(ts:List Tg) (b:SMm) (l:List P):zFu (.tp ts) b (.p (.tup l)) σ st=zQ1 b st (Tg.puts ts l σ):=by unfold zFu;simp
def Sq(I:Sg→List Cell→Prop) (F:SR→Prop) (r:SR):Prop:=match r with
 | .ok .nx σ st=>I σ st
 | .ok .ct σ st=>I σ st
 | .ok .bk σ st=>F (.ok .nx σ st)
 | .ok (.rt w) σ st=>F (.ok (.rt w) σ st)
 |_=>False
@[simp]theorem Sq_nx(I:Sg→List Cell→Prop) (F:SR→Prop):Sq I F (.ok .nx σ st)=I σ st:=rfl
@[simp]theorem Sq_ct(I:Sg→List Cell→Prop) (F:SR→Prop):Sq I F (.ok .ct σ st)=I σ st:=rfl
@[simp]theorem Sq_bk(I:Sg→List Cell→Prop) (F:SR→Prop):Sq I F (.ok .bk σ st)=F (.ok .nx σ st):=rfl
@[simp]theorem Sq_rt(I:Sg→List Cell→Prop) (F:SR→Prop) (w:W):Sq I F (.ok (.rt w) σ st)=F (.ok (.rt w) σ st):=rfl
@[simp]theorem Sq_no(I:Sg→List Cell→Prop) (F:SR→Prop):Sq I F .no=False:=rfl
@[simp]theorem Sq_ite(I:Sg→List Cell→Prop) (F:SR→Prop){c:Prop} [Decidable c] (a b:SR):Sq I F (if c then a else b)=if c then Sq I F a else Sq I F b:=by split<;>rfl
theorem zBg{t:Tg}{b:SMm} (F:SR→Prop) (I:Nat→Sg→List Cell→Prop):∀ {l:List W}{σ:Sg}{st:List Cell},I 0 σ st →
  (∀(i:Nat) (w:W) σ st,l[i]?=some w→I i σ st→Sq (I (i+1)) F (zFu t b w σ st))→(∀σ st,I l.length σ st→F (.ok .nx σ st))→F (forL t b l σ st):=by
 have go:∀ {l:List W}{k:Nat}{σ:Sg}{st:List Cell},I k σ st→(∀(i:Nat) (w:W) σ st,l[i]?=some w→I (k+i) σ st→Sq (I (k+i+1)) F (zFu t b w σ st))→(∀σ st,I (k+l.length) σ st→F (.ok .nx σ st))→F (forL t b l σ st):=by
  intro l
  induction l with
  |nil=>intro k σ st h _ e;exact e σ st h
  |cons w l ih =>
   intro k σ st h s e;have s0:=s 0 w σ st rfl h;rw[zBQ];unfold zFu at s0;cases ep:t.put w σ with
   |none=>rw[ep]at s0;exact s0.elim
   |some σ1 =>
    rw[ep,zNE]at s0;rw[forP_e]
    have nxt:∀σ2 st2,I (k+0+1) σ2 st2→F (forL t b l σ2 st2):=fun σ2 st2 h2=>ih (k:=k+0+1) h2
     (fun i w' σ' st' g g2=>by
      have:=s (i+1) w' σ' st' (by simpa using g) (by rw[show k+(i+1)=k+0+1+i by omega];exact g2)
      rw[show k+(i+1)+1=k+0+1+i+1 by omega]at this
      exact this)
     (fun σ' st' g=>e σ' st' (by rw[JJ,show k+(l.length+1)=k+0+1+l.length by omega];exact g))
    cases hr:b σ1 st with
    |ok f σ2 st2 =>
     rw[hr]at s0;cases f with
     |nx=>exact nxt σ2 st2 s0
     |ct=>exact nxt σ2 st2 s0
     |bk=>exact s0
     |rt v=>exact s0
    |exc _ _ _=>rw[hr]at s0;exact s0.elim
    |no=>rw[hr]at s0;exact s0.elim
 intro l σ st h s e;refine go (k:=0) h (fun i w σ st g g2=>?_) (fun σ st g=>e σ st (by rw[VQ]at g;exact g))
 rw[VQ]at g2 ⊢;exact s i w σ st g g2
def lcL(t:Tg) (c:TM) (e:EM) (σ0:Sg):List W→List Cell→Res (List W)
 |[],st=>.ok [] st
 |w::l,st=>match t.put w σ0 with
   |none=>.no
   |some σ1=>(c σ1 st).nox.bind fun k st1=>if k=true then(e σ1 st1).nox.bind fun w st2=>(lcL t c e σ0 l st2).bind fun ws st3=>.ok (w::ws) st3 else lcL t c e σ0 l st1
theorem zPu{l:List W} (get:List Cell→Nat→Option (Option W)) (t:Tg) (c:TM) (e:EM) (σ0:Sg) (n0:Nat) (hg:∀st i,i≤l.length→get st i=some l[i]?):∀(n i:Nat) (st:List Cell),i≤l.length→l.length-i<n→lcF ⟨get,n0⟩ t c e σ0 n i st=lcL t c e σ0 (l.drop i) st:=by
 intro n
 induction n with
 |zero=>intro i st hi h;omega
 |succ n ih =>
  intro i st hi h;rw[lcF];show(match get st i with|none=>Res.no|some none=>.ok [] st|some (some w)=>_)=_
  rw[hg st i hi]
  by_cases hl:i<l.length
  ·rw[Jf hl,J6 hl,lcL];simp only;cases t.put l[i] σ0 with
   |none=>rfl
   |some σ1 =>
    simp only
    congr 1;funext k st1
    rw[ih (i+1) st1 ∅ ∅]
    by_cases hk:k=true
    ·rw[Jm hk,Jm hk]
     congr 1;funext w st2
     rw[ih (i+1) st2 ∅ ∅]
    ·rw[Js hk,Js hk]
  ·rw[Jw ∅,JD ∅,lcL]
theorem zKu(l:List W) (t:Tg) (c:TM) (e:EM) (σ0:Sg) (st:List Cell):lcF (srcL l) t c e σ0 (l.length+1) 0 st=lcL t c e σ0 l st:=by
 have:=zPu (l:=l) (fun _ i=>some l[i]?) t c e σ0 l.length (fun _ _ _=>rfl) (l.length+1) 0 st ∅ ∅
 rw[Vr]at this;exact this
theorem zOw(l:List W) (t:Tg) (c:TM) (e:EM) (σ0:Sg) (st:List Cell):lcF (srcZ l) t c e σ0 (l.length+1) 0 st=lcL t c e σ0 l st:=by
 have:=zPu (l:=l) (fun _ i=>if i≤l.length then some l[i]? else none) t c e σ0 l.length (fun _ i hi=>Jm hi) (l.length+1) 0 st ∅ ∅
 rw[Vr]at this;exact this
def lcK(t:Tg) (vs:List Nat) (c:TM) (e:EM) (fin:List W→List Cell→Res W) (σ:Sg) (src:Src) (st1:List Cell):Res W:=if src.n≤1000000 then(lcF src t c e (zBR σ vs) (src.n+1) 0 st1).bind fin else .no
theorem zRv(t:Tg) (vs:List Nat) (c:TM) (e:EM) (fin:List W→List Cell→Res W) (src:Src):lcK t vs c e fin σ src st=if src.n≤1000000 then(lcF src t c e (zBR σ vs) (src.n+1) 0 st).bind fin else .no:=rfl
@[simp]theorem zCp(m:IM) (t:Tg) (vs:List Nat) (c:TM) (e:EM) (fin:List W→List Cell→Res W):mLc m t vs c e fin σ st=(m σ st).bind (lcK t vs c e fin σ):=rfl
@[simp]theorem lcK_L(t:Tg) (vs:List Nat) (c:TM) (e:EM) (fin:List W→List Cell→Res W) (l:List W):lcK t vs c e fin σ (srcL l) st=if l.length≤1000000 then(lcL t c e (zBR σ vs) l st).bind fin else .no:=by
 rw[zRv,zKd,zKu]
@[simp]theorem lcK_Z(t:Tg) (vs:List Nat) (c:TM) (e:EM) (fin:List W→List Cell→Res W) (l:List W):lcK t vs c e fin σ (srcZ l) st=if l.length≤1000000 then(lcL t c e (zBR σ vs) l st).bind fin else .no:=by
 rw[zRv,zPh,zOw]
@[simp]theorem sforK_L(t:Tg) (b:SMm) (l:List W):zLR t b σ (srcL l) st=forL t b l σ st:=by
 rw[zJE,zKd,zLs]
@[simp]theorem sforK_Z(t:Tg) (b:SMm) (l:List W):zLR t b σ (srcZ l) st=forL t b l σ st:=by
 rw[zJE,zPh,zND]
@[simp]theorem mYes_e:mYes σ st=.ok true st:=rfl
@[simp]theorem wipeS_nil:zBR σ []=σ:=rfl
@[simp]theorem zSE(v:Nat) (vs:List Nat):zBR σ (v::vs)=(zBR σ vs).set v none:=rfl
@[simp]theorem finP_e(ws:List W):finP ws st=pR (fun l=>.p (.lst l)) (pures ws) st:=by unfold finP pR;rfl
@[simp]theorem finC_e(ws:List W):finC ws st=.ok (.r st.length) (st++[.lst ws]):=rfl
def lcP(t:Tg) (c:TM) (e:EM) (σ0:Sg) (l:List W) (st:List Cell) (o:Option Sg):Res (List W):=match o with
 |none=>.no
 |some σ1=>(c σ1 st).nox.bind fun k st1=>if k=true then(e σ1 st1).nox.bind fun w st2=>(lcL t c e σ0 l st2).bind fun ws st3=>.ok (w::ws) st3 else lcL t c e σ0 l st1
@[simp]theorem zCQ(t:Tg) (c:TM) (e:EM) (σ0:Sg):lcL t c e σ0 [] st=.ok [] st:=rfl
@[simp]theorem zBH(t:Tg) (c:TM) (e:EM) (σ0:Sg) (w:W) (l:List W):lcL t c e σ0 (w::l) st=lcP t c e σ0 l st (t.put w σ0):=by
 rw[lcL];unfold lcP;rfl
def lcC2(t:Tg) (c:TM) (e:EM) (σ0:Sg) (l:List W) (w:W) (st2:List Cell):Res (List W):=(lcL t c e σ0 l st2).bind (zIi w)
@[simp]theorem zNF(t:Tg) (c:TM) (e:EM) (σ0:Sg) (l:List W) (w:W):lcC2 t c e σ0 l w st=(lcL t c e σ0 l st).bind (zIi w):=rfl
def lcC(t:Tg) (c:TM) (e:EM) (σ0:Sg) (l:List W) (σ:Sg) (k:Bool) (st1:List Cell):Res (List W):=if k=true then(e σ st1).nox.bind (lcC2 t c e σ0 l)else lcL t c e σ0 l st1
@[simp]theorem zQ4(t:Tg) (c:TM) (e:EM) (σ0:Sg) (l:List W) (k:Bool):lcC t c e σ0 l σ k st=if k=true then(e σ st).nox.bind (lcC2 t c e σ0 l)else lcL t c e σ0 l st:=rfl
@[simp]theorem zP7(t:Tg) (c:TM) (e:EM) (σ0:Sg) (l:List W):lcP t c e σ0 l st (some σ)=(c σ st).nox.bind (lcC t c e σ0 l σ):=rfl
theorem zCw{α:Type}{l:List α}{f:α→W}{t:Tg}{e:EM}{σ0:Sg}{st:List Cell} (g:α→P) (H:∀x∈l,∃σ1,t.put (f x) σ0=some σ1∧e σ1 st=.ok (.p (g x)) st):lcL t mYes e σ0 (l.map f) st=.ok (l.map fun x=>.p (g x)) st:=by
 induction l with
 |nil=>rfl
 |cons x l ih =>
  obtain⟨σ1,e1,e2⟩:=H x Jc;rw[Jk,zBH,e1,zP7,mYes_e];simp only[Res.nox_ok,Res.bind_ok,zQ4,VG,e2,zNF];rw[ih fun y m=>H y (Jg _ m)]
  rfl
def lc2K(t:Tg) (vs:List Nat) (c:TM) (m1:IM) (t1:Tg) (vs1:List Nat) (c1:TM) (e:EM) (fin:List W→List Cell→Res W) (σ:Sg) (src:Src) (st1:List Cell):Res W :=
 if src.n<1000 then(lc2F src t c m1 t1 vs1 c1 e (zBR σ vs) (src.n+1) 0 st1).bind fin else .no
@[simp]theorem mLc2_e(m:IM) (t:Tg) (vs:List Nat) (c:TM) (m1:IM) (t1:Tg) (vs1:List Nat) (c1:TM) (e:EM) (fin:List W→List Cell→Res W):mLc2 m t vs c m1 t1 vs1 c1 e fin σ st=(m σ st).bind (lc2K t vs c m1 t1 vs1 c1 e fin σ):=rfl
theorem zMa{α:Type}{l:List α}{f:α→W}{t t1:Tg}{vs1:List Nat}{m1:IM}{e:EM}{σ0:Sg}{st:List Cell}{g:α→List P}{h:α→P→P}{c c1:TM} (hc:∀σ,c σ st=.ok true st) (hc1:∀σ,c1 σ st=.ok true st)
  (H:∀w∈l,(g w).length<1000∧∃σ1,t.put (f w) σ0=some σ1∧m1 σ1 st=.ok (srcL ((g w).map W.p)) st∧∀u∈g w,∃σ2,t1.put (.p u) (zBR σ1 vs1)=some σ2∧e σ2 st=.ok (.p (h w u)) st) :
  ∀(n i:Nat),i≤l.length→l.length-i<n→lc2F (srcL (l.map f)) t c m1 t1 vs1 c1 e σ0 n i st=.ok (((l.drop i).flatMap fun w=>(g w).map (h w)).map W.p) st:=by
 intro n
 induction n with
 |zero=>intro i hi h;omega
 |succ n ih =>
  intro i hi hn;rw[lc2F];show(match some (l.map f)[i]? with|none=>Res.no|some none=>.ok [] st|some (some w)=>_)=_
  rw[Ji]
  by_cases hl:i<l.length
  ·rw[Jf hl,J6 hl];obtain⟨hg,σ1,e1,e2,e3⟩:=H l[i] (Vg hl)
   have e4:lcL t1 c1 e (zBR σ1 vs1) ((g l[i]).map W.p) st=.ok ((g l[i]).map fun x=>.p (h l[i] x)) st:=by
    generalize g l[i]=gl at e3
    induction gl with
    |nil=>rfl
    |cons x gl ih2 =>
     obtain⟨σ2,q1,q2⟩:=e3 x Jc;rw[Jk,zBH,q1,zP7,hc1];simp only[Res.nox_ok,Res.bind_ok,zQ4,VG,q2,zNF];rw[ih2 fun y m=>e3 y (Jg _ m)]
     rfl
   simp only[bc,e1,hc σ1,Res.nox_ok,Res.bind_ok,VG,e2,zKd,Jb,hg];have e5:=zKu ((g l[i]).map W.p) t1 c1 e (zBR σ1 vs1) st;rw[Jb]at e5;rw[e5,e4,Res.bind_ok,ih (i+1) ∅ ∅,VX,JV,Jy];rfl
  ·rw[Jw ∅,JD ∅];simp
theorem zPU{α:Type}{l:List α}{f:α→W}{t t1:Tg}{vs vs1:List Nat}{m1:IM}{e:EM}{σ:Sg}{st:List Cell} (g:α→List P) (h:α→P→P) (hl:l.length<1000)
  (H:∀w∈l,(g w).length<1000∧∃σ1,t.put (f w) (zBR σ vs)=some σ1∧m1 σ1 st=.ok (srcL ((g w).map W.p)) st∧∀u∈g w,∃σ2,t1.put (.p u) (zBR σ1 vs1)=some σ2∧e σ2 st=.ok (.p (h w u)) st) :
  lc2K t vs mYes m1 t1 vs1 mYes e finP σ (srcL (l.map f)) st=.ok (.p (.lst (l.flatMap fun w=>(g w).map (h w)))) st:=by
 unfold lc2K;rw[zKd,Jb,Jm hl,zMa (c:=mYes) (c1:=mYes) (fun _=>rfl) (fun _=>rfl) H (l.length+1) 0 ∅ ∅]
 simp
def srcR(o:Option Src) (st:List Cell):Res Src:=match o with
 |some s=>.ok s st
 |none=>.no
@[simp]theorem srcR_e(s:Src):srcR (some s) st=.ok s st:=rfl
def srcK(w:W) (st1:List Cell):Res Src:=srcR (vSrc st1 w) st1
@[simp]theorem srcK_e(w:W):srcK w st=srcR (vSrc st w) st:=rfl
@[simp]theorem mSrc_e(m:EM):mSrc m σ st=(m σ st).bind srcK:=rfl
@[simp]theorem vSrc_lst(l:List P):vSrc st (.p (.lst l))=some (srcL (l.map .p)):=rfl
@[simp]theorem vSrc_tup(l:List P):vSrc st (.p (.tup l))=some (srcL (l.map .p)):=rfl
@[simp]theorem vSrc_str(z:Str):vSrc st (.p (.str z))=some (srcL (zIf z)):=rfl
def rngR(w:W) (st1:List Cell):Res Src:=match w with
 | .p (.int j)=>if j≤1000000 ∧ -1000000≤j then .ok (srcL (rngL 0 j.toNat)) st1 else .no
 |_=>.no
@[simp]theorem rngR_e(j:Int):rngR (.p (.int j)) st=if j≤1000000 ∧ -1000000≤j then .ok (srcL (rngL 0 j.toNat)) st else .no:=rfl
@[simp]theorem mRng1_e(a:EM):zEs a σ st=(a σ st).bind rngR:=rfl
@[simp]theorem zH7(lo:Int) (n:Nat):(rngL lo n).length=n:=by unfold rngL;simp
theorem zKv{lo:Int}{n i:Nat}{w:W} (h:(rngL lo n)[i]?=some w):i<n∧w=.p (.int (lo+i)):=by
 unfold rngL at h;rw[Ji]at h
 by_cases hi:i<n
 ·rw[Vx hi]at h;exact⟨hi,(Jd h).symm⟩
 ·rw[Jw (by simpa using hi)]at h;cases h
def zipR(x y:Option (List P)) (st:List Cell):Res Src:=match x,y with
 |some l,some m=>.ok (srcZ (zipL l m)) st
 |_,_=>.no
@[simp]theorem zipR_e(l m:List P):zipR (some l) (some m) st=.ok (srcZ (zipL l m)) st:=rfl
def zRm(x y:W) (st1:List Cell):Res Src:=zipR (zEV x) (zEV y) st1
@[simp]theorem zipK2_e(x y:W):zRm x y st=zipR (zEV x) (zEV y) st:=rfl
def zipK(b:EM) (σ:Sg) (x:W) (st1:List Cell):Res Src:=(b σ st1).bind (zRm x)
@[simp]theorem zipK_e(b:EM) (x:W):zipK b σ x st=(b σ st).bind (zRm x):=rfl
@[simp]theorem mZipA_e(a b:EM):zNb a b σ st=(a σ st).bind (zipK b σ):=rfl
@[simp]theorem zSA(l:List P):zEV (.p (.lst l))=some l:=rfl
@[simp]theorem zR3(l:List P):zEV (.p (.tup l))=some l:=rfl
@[simp]theorem zR9(z:Str):zEV (.p (.str z))=some (z.cps.toList.map fun c=>.str ⟨#[c]⟩):=rfl
@[simp high] theorem zR7:zEV (.p (.str (Str.ofString "abc")))=some [.str (Str.ofString "a"),.str (Str.ofString "b"),.str (Str.ofString "c")]:=rfl
@[simp]theorem zME(x y:P) (l m:List P):zipL (x::l) (y::m)=.p (.tup [x,y])::zipL l m:=rfl
@[simp]theorem zipL_nil(m:List P):zipL [] m=[]:=by unfold zipL;rfl
@[simp]theorem zipL_nil2(m:List P):zipL m []=[]:=by cases m<;>rfl
@[simp]theorem chars_abc:zIf (Str.ofString "abc")=[.p (.str (Str.ofString "a")),.p (.str (Str.ofString "b")),.p (.str (Str.ofString "c"))]:=by
 unfold zIf;rfl
def Gv(r:Res W) (x:P):Prop:=match r with
 | .ok w _=>w=.p x
 |_=>False
@[simp]theorem Gv_ok(w:W) (x:P):Gv (.ok w st) x=(w=.p x):=rfl
@[simp]theorem Gv_no(x:P):Gv .no x=False:=rfl
@[simp]theorem Gv_ite{c:Prop} [Decidable c] (a b:Res W) (x:P):Gv (if c then a else b) x=if c then Gv a x else Gv b x:=by split<;>rfl
theorem Gv.ex{r:Res W}{x:P} (h:Gv r x):∃st',r=.ok (.p x) st':=by
 unfold Gv at h;split at h
 ·subst h;exact⟨_,rfl⟩
 ·exact h.elim
def Pu(F:FM) (xs:List P) (r:P):Prop:=Gv (F (xs.map W.p) []) r
theorem zCJ:∀(xs:List P),zAU (xs.map W.p)=[]
 |[]=>rfl
 |x::xs=>by show zAU (xs.map W.p)=[];exact zCJ xs
theorem zC6:∀(xs:List P) (k:Nat),zC9 k (xs.map W.p)=xs.map W.p
 |[],_=>rfl
 |x::xs,k=>by show W.p x::zC9 k (xs.map W.p)=_;rw[zC6 xs k];rfl
theorem Pu.call{F:FM}{xs:List P}{r:P} (h:Pu F xs r) (st:List Cell):zAP F (xs.map W.p) st=.ok (.p r) st:=by
 obtain⟨st',h⟩:=Gv.ex h;unfold zAP;rw[zCJ,zC6,Jm YI];show callEnd 0 [] st (F (xs.map W.p) [])=_;rw[h];simp[Y.callEnd,Y.putCells]
theorem Pu.of1{F:FM}{x r:P} (h:Gv (F [.p x] []) r):Pu F [x] r:=h
theorem Pu.of2{F:FM}{x y r:P} (h:Gv (F [.p x,.p y] []) r):Pu F [x,y] r:=h
theorem Pu.of3{F:FM}{x y z r:P} (h:Gv (F [.p x,.p y,.p z] []) r):Pu F [x,y,z] r:=h
theorem Pu.call1{F:FM}{x r:P} (h:Pu F [x] r) (st:List Cell):zAP F [.p x] st=.ok (.p r) st:=h.call st
theorem Pu.call2{F:FM}{x y r:P} (h:Pu F [x,y] r) (st:List Cell):zAP F [.p x,.p y] st=.ok (.p r) st:=h.call st
theorem Pu.call3{F:FM}{x y z r:P} (h:Pu F [x,y,z] r) (st:List Cell):zAP F [.p x,.p y,.p z] st=.ok (.p r) st:=h.call st
def Gm(c:Nat) (m:List P) (r:Res W):Prop:=match r with
 | .ok (.p .non) (.ins c' l::_)=>c'=c∧l=m.map W.p
 |_=>False
@[simp]theorem Gm_ok(c c':Nat) (m:List P) (l:List W) (r:List Cell):Gm c m (.ok (.p .non) (.ins c' l::r))=(c'=c∧l=m.map W.p):=rfl
@[simp]theorem Gm_no(c:Nat) (m:List P):Gm c m .no=False:=rfl
@[simp]theorem Gm_ite(n:Nat) (m:List P){c:Prop} [Decidable c] (a b:Res W):Gm n m (if c then a else b)=if c then Gm n m a else Gm n m b:=by split<;>rfl
end
def bagC(ns:List Int) (a b s:Int):Cell:=.lst [.p (.lst (ns.map .int)),.p (.int a),.p (.int b),.p (.int s)]
def GB(c:Cell):Prop:=∃ns a b s,c=bagC ns a b s∧0≤a∧0≤b∧0≤s∧s<2147483587
theorem GB.plain{c:Cell} (h:GB c):zBS c=true:=by
 obtain⟨ns,a,b,s,rfl,_⟩:=h;rfl
def Gb(R:P→Prop) (r:Res W):Prop:=match r with
 | .ok (.p x) (c::_)=>GB c∧R x
 |_=>False
@[simp]theorem zLp(R:P→Prop) (x:P) (c:Cell) (l:List Cell):Gb R (.ok (.p x) (c::l))=(GB c∧R x):=rfl
@[simp]theorem Gb_ite{R:P→Prop}{c:Prop} [Decidable c] (a b:Res W):Gb R (if c then a else b)=if c then Gb R a else Gb R b:=by split<;>rfl
@[simp]theorem Gb_no(R:P→Prop):Gb R .no=False:=rfl
theorem Gb.ex{R:P→Prop}{r:Res W} (h:Gb R r):∃x c l,r=.ok (.p x) (c::l)∧GB c∧R x:=by
 unfold Gb at h;split at h
 ·exact⟨_,_,_,rfl,h.1,h.2⟩
 ·exact h.elim
def Bg(F:FM) (xs:List P) (R:P→Prop):Prop:=∀c,GB c→Gb R (F (.r 0::xs.map W.p) [c])
theorem Bg.call{F:FM}{xs:List P}{R:P→Prop} (h:Bg F xs R){c:Cell} (g:GB c) (rest:List Cell):∃x c',zAP F (.r 0::xs.map W.p) (c::rest)=.ok (.p x) (c'::rest)∧GB c'∧R x:=by
 obtain⟨x,c',l,e,g',hr⟩:=Gb.ex (h c g);refine⟨x,c',?_,g',hr⟩;have e1:zAU (.r 0::xs.map W.p)=[0]:=by show 0::zAU (xs.map W.p)=_;rw[zCJ]
 have e2:zC9 0 (.r 0::xs.map W.p)=.r 0::xs.map W.p:=by show W.r 0::zC9 1 (xs.map W.p)=_;rw[zC6]
 unfold zAP;rw[e1,Jm (by simp),e2]
 simp[Y.getCells,g.plain,e,Y.callEnd,Y.putCells,g'.plain]
theorem Bg.call1{F:FM}{y:P}{R:P→Prop} (h:Bg F [y] R){c:Cell} (g:GB c) (rest:List Cell):∃x c',zAP F [.r 0,.p y] (c::rest)=.ok (.p x) (c'::rest)∧GB c'∧R x:=h.call g rest
theorem Bg.call2{F:FM}{y z:P}{R:P→Prop} (h:Bg F [y,z] R){c:Cell} (g:GB c) (rest:List Cell):∃x c',zAP F [.r 0,.p y,.p z] (c::rest)=.ok (.p x) (c'::rest)∧GB c'∧R x:=h.call g rest
theorem Bg.call3{F:FM}{y z u:P}{R:P→Prop} (h:Bg F [y,z,u] R){c:Cell} (g:GB c) (rest:List Cell):∃x c',zAP F [.r 0,.p y,.p z,.p u] (c::rest)=.ok (.p x) (c'::rest)∧GB c'∧R x:=h.call g rest
end YZ
namespace YS
open Y YZ
def zCZ:FM:=runF 1 3 (sSeq (sSet 1 (mC (.int 3845)))
  (sSeq (sFor (mSrc (mSl (mVar 0) zCi (zA0 (mC (.int 63))))) (.nm 2) (sSet 1 (mBin vMod (zAJ vInt %[(mBin vAdd (mBin vAdd (mBin zE2 (mVar 1) (mC (.int 48611))) (mBin vMod (zAJ vInt %[(mVar 2)|0]) (mC (.int 2147483423)))) (mC (.int 31)))|0]) (mC (.int 2147483587)))))
  (sRet (zCs %[(zAJ zIz %[(mSl (mVar 0) zCi (zA0 (mC (.int 63))))|0]),(mC (.int 0)),(mC (.int 0)),(mVar 1)|0]))))
def zAS:FM:=runF 2 5 (sSeq (sIf (zDV (mTst (mBin (vEqB false) (mBin vIx (mVar 0) (mC (.int 2))) (mC (.int 0)))) (mTst (mBin vLt (mBin vIx (mVar 0) (mC (.int 1))) (zAJ vLen %[(mBin vIx (mVar 0) (mC (.int 0)))|0])))) (sSeq (sSet 3 (mBin vIx (mBin vIx (mVar 0) (mC (.int 0))) (mBin vIx (mVar 0) (mC (.int 1)))))
  (sSeq (zDx (mVar 0) (mC (.int 1)) (mBin vAdd (mBin vIx (mVar 0) (mC (.int 1))) (mC (.int 1))))
  (sIf (mTst (mBin vGe (mVar 3) (mBin vPow (mC (.int 10)) (mC (.int 18))))) (zDx (mVar 0) (mC (.int 2)) (mVar 3)) (zDx (mVar 0) (mC (.int 3)) (mBin vMod (zAJ vInt %[(mBin vAdd (mBin vAdd (mBin zE2 (mBin vIx (mVar 0) (mC (.int 3))) (mC (.int 45989))) (mBin zE2 (mBin vMod (zAJ vInt %[(mVar 3)|0]) (mC (.int 2147483423))) (mC (.int 1409)))) (mC (.int 23)))|0]) (mC (.int 2147483587))))))) sNx)
  (sSeq (sIf (mTst (mBin vGt (mBin vIx (mVar 0) (mC (.int 2))) (mC (.int 0)))) (sSeq (sSet 4 (mBin vMod (zAJ vInt %[(mBin vIx (mVar 0) (mC (.int 2)))|0]) (mVar 1)))
  (sSeq (zDx (mVar 0) (mC (.int 2)) (mBin vFdv (mBin vIx (mVar 0) (mC (.int 2))) (mVar 1)))
  (sRet (mVar 4)))) sNx)
  (sSeq (sSet 2 (mBin vIx (mVar 0) (mC (.int 3))))
  (sSeq (zDx (mVar 0) (mC (.int 3)) (mBin vMod (zAJ vInt %[(mBin vAdd (mBin vAdd (mBin zE2 (mVar 2) (mVar 2)) (mBin zE2 (mVar 2) (mC (.int 31013)))) (mC (.int 1400033)))|0]) (mC (.int 2147483587))))
  (sRet (mBin vMod (zAJ vInt %[(mBin vAdd (mBin vFdv (mBin vIx (mVar 0) (mC (.int 3))) (mC (.int 71))) (mBin zE2 (mBin vMod (zAJ vInt %[(mBin vIx (mVar 0) (mC (.int 3)))|0]) (mC (.int 8087))) (mC (.int 61))))|0]) (mVar 1)))))))
def zCM:FM:=runF 2 2 (sRet (mBin vIx (mVar 1) (zAH zAS %[(mVar 0),(zAJ vLen %[(mVar 1)|0])|0])))
def zCn:FM:=runF 2 4 (sSeq (sSet 2 (zCs mNil))
  (sSeq (sFor (mSrc (mVar 1)) (.nm 3) (zEG (mBm "list" zGw (mVar 2) %[(zAH zAS %[(mVar 0),(mBin vAdd (zAJ vLen %[(mVar 2)|0]) (mC (.int 1)))|0]),(mVar 3)|0])))
  (sRet (mFrz (mVar 2)))))
theorem zKq{n:Int} (h0:0<n) (z:Int):0≤z%n∧z%n<n:=⟨Int.emod_nonneg _ ∅,Int.emod_lt_of_pos _ h0⟩
theorem GB.mk{ns:List Int}{a b s:Int} (ha:0≤a) (hb:0≤b) (hs:0≤s∧s<2147483587):GB (Cell.lst [W.p (P.lst (List.map P.int ns)),W.p (P.int a),W.p (P.int b),W.p (P.int s)]):=⟨ns,a,b,s,rfl,ha,hb,hs.1,hs.2⟩
theorem zCf{n:Int} (h0:0<n) (h1:n.natAbs.log2<9000):Bg zAS [.int n] fun x=>∃k:Int,x=.int k∧0≤k∧k<n:=by
 rintro c ⟨ns,a,b,s,rfl,ha,hb,hs,hs2⟩;have m1:zDS s 45989=true:=mulOk_of (Sm.small ∅) (Sm.small ∅);have m2:∀z:Int,zDS (z%2147483423) 1409=true:=fun z=>mulOk_of (Sm.small ∅) (Sm.small ∅)
 have m3:∀z:Int,zDS (z%2147483587) (z%2147483587)=true:=fun z=>mulOk_of (Sm.small ∅) (Sm.small ∅)
 have m4:∀z:Int,zDS (z%2147483587) 31013=true:=fun z=>mulOk_of (Sm.small ∅) (Sm.small ∅)
 have m5:∀z:Int,zDS (z%8087) 61=true:=fun z=>mulOk_of (Sm.small ∅) (Sm.small ∅)
 have m6:zDS s s=true:=mulOk_of (Sm.small ∅) (Sm.small ∅);have m7:zDS s 31013=true:=mulOk_of (Sm.small ∅) (Sm.small ∅);have l71:Nat.log2 71<9000:=by decide
 have pm:=zKq h0;have p7:=zKq (n:=2147483587) (!0);have qn:0≤b/n:=Int.ediv_nonneg hb ∅
 by_cases hc:b=0∧a<ns.length
 ·obtain⟨rfl,hl⟩:=hc
  have hx:L2.atI (ns.map P.int) a=some (.int (ns[a.toNat]'(by omega))):=by
   rw[atI_nat ha,Ji,Jf ∅];rfl
  generalize ns[a.toNat]'(by omega)=x at hx
  by_cases hb2:(1000000000000000000:Int)≤x
  ·have hx0:0<x:=by omega
   have hxn:0≤x/n:=Int.ediv_nonneg ∅ ∅;simp[zAS,zAG,bagC,hl,hx,hb2,hx0,h0,h1,GB.mk (show 0≤a+1 by omega) hxn ⟨hs,hs2⟩,pm]
  ·simp[zAS,zAG,bagC,hl,hx,hb2,m1,m2,m3,m4,m5,l71,h0,h1,GB.mk (show 0≤a+1 by omega) (Int.le_refl 0) (p7 _),pm]
 ·have hc':b=0→¬a<ns.length:=fun e h=>hc ⟨e,h⟩
  by_cases hb0:b=0
  ·subst hb0;simp[zAS,zAG,bagC,hc' rfl,m6,m7,m5,l71,h0,h1,GB.mk ha (Int.le_refl 0) (p7 _),pm]
  ·have hb1:0<b:=by omega
   simp[zAS,zAG,bagC,hb0,hb1,h0,h1,GB.mk ha qn ⟨hs,hs2⟩,pm]
theorem zOC(ns:List Int):∃c,zAP zCZ [.p (.scr ns)] []=.ok (.r 0) [c]∧GB c:=by
 have e2:∃s,zCZ [.p (.scr ns)] []=.ok (.r 0) [bagC (ns.take 63) 0 0 s]∧0≤s∧s<2147483587:=by
  simp[zCZ,zAG];refine zBg (fun r=>∃s:Int,runR (r.then _)=Res.ok (W.r 0) [bagC (List.take 63 ns) 0 0 s]∧0≤s∧s<2147483587) (fun _ σ st=>∃s x,σ=[some (.p (.scr ns)),some (.p (.int s)),x]∧st=[]∧0≤s∧s<2147483587) ⟨3845,none,rfl,rfl,!0,!0⟩ ?_ ?_
  ·rintro i w σ st hw ⟨s,x,rfl,rfl,h1,h2⟩;have hm:=Yt (Jn hw);obtain⟨z,hz,rfl⟩:=Jx.mp hm;have m1:zDS s 48611=true:=mulOk_of (Sm.small ∅) (Sm.small ∅)
   conv=>arg 3;simp[m1]
   exact⟨_,_,rfl,rfl,∅,∅⟩
  ·rintro σ st ⟨s,x,rfl,rfl,h1,h2⟩;refine⟨s,?_,h1,h2⟩;simp[bagC]
 obtain⟨s,e2,h1,h2⟩:=e2;refine⟨bagC (ns.take 63) 0 0 s,?_,ns.take 63,0,0,s,rfl,!0,!0,h1,h2⟩;unfold zAP;simp[zAU,zC9,Y.getCells,e2,Y.callEnd,Y.putCells,bagC,zBS,content]
theorem zBp{n:Int} (h0:0≤n) (h:n≤1000000000):n.natAbs.log2<9000:=Nat.lt_trans (log2_lt (k:=30) (by have:(2:Nat)^30=1073741824:=rfl;omega) (!0)) (!0)
theorem zNj{l:List P} (h:l≠[]) (h1:l.length≤1000000):Bg zCM [.lst l] fun x=>x∈l:=by
 intro c hc;have hl:0<l.length:=List.length_pos_iff.mpr h;obtain⟨r,c',e,hc',k,rfl,k0,k1⟩:=(zCf (n:=l.length) ∅ (zBp ∅ ∅)).call1 hc [];have hk:L2.atI l k=some (l[k.toNat]'(by omega)):=by rw[atI_nat k0,Jf ∅]
 simp[zCM,zAG,e,hk,hc']
theorem zNo{l:List P} (h1:l.length<100000):Bg zCn [.lst l] fun x=>∃m,x=.lst m∧m.Perm l:=by
 intro c hc;simp[zCn,zAG];refine zBg (fun r=>Gb _ (runR (r.then _))) (fun i σ st=>∃x m c',σ=[some (.r 0),some (.p (.lst l)),some (.r 1),x]∧st=[c',.lst (m.map W.p)]∧GB c'∧m.Perm (l.take i)) ⟨none,[],c,rfl,rfl,hc,.nil⟩ ?_ ?_
 ·rintro i w σ st hw ⟨x,m,c1,rfl,rfl,h1c,hp⟩;rw[Ji]at hw;obtain⟨y,hy,rfl⟩:=Vy.mp hw;have hi:i<l.length:=(Ja.mp hy).1;have hml:m.length=i:=by rw[hp.length_eq,List.length_take];omega
  obtain⟨r,c2,e,hc2,k,rfl,k0,k1⟩:=(zCf (n:=m.length+1) ∅ (zBp ∅ ∅)).call1 h1c [.lst (m.map W.p)]
  conv=>arg 3;simp[e,k0,show m.length<1000000 by omega,show k≤1000000 by omega]
  refine⟨_,m.take k.toNat++y::m.drop k.toNat,c2,rfl,by simp,hc2,?_⟩
  rw[List.take_add_one,hy];refine List.perm_middle.trans ?_
  rw[List.take_append_drop];refine List.Perm.trans (List.Perm.cons y hp) ?_
  exact(List.perm_append_singleton y _).symm
 ·rintro σ st ⟨x,m,c',rfl,rfl,hc',hp⟩;rw[Jb,J0 (Jq _)]at hp;simp[hc',hp]
def zAf:List (Str×Str):=[("at least", ">="),("at most", "<="),("equal", "=")]
def zCH:FM:=runF 1 1 (sRet (zCS (mIsi "int" (mVar 0)) (zNZ (mIsi "bool" (mVar 0)))))
def zA1:FM:=runF 3 3 (sRet (zCS (zAH zCH %[(mVar 0)|0]) (zFX vLe vLe (mVar 1) (mVar 0) (mVar 2))))
def zAy:FM:=runF 1 2 (sSeq (sIf (mOrT (zDK (mTru (mIsi "tuple" (mVar 0)))) (mOrT (mTst (mBin (vEqB true) (zAJ vLen %[(mVar 0)|0]) (mC (.int 3)))) (zDK (mTru (zAJ (zF6 fun bs=>bs.any id) %[(mVar 0)|0]))))) (sRet (mC (.bl false))) sNx)
  (sRet (zAJ (zF6 fun bs=>bs.all id) %[(mLc (mSrc (mVar 0)) (.nm 1) [1] mYes (zAH zA1 %[(mVar 1),(mBin vSub (mC (.int 0)) (mC (.int 3))),(mC (.int 3))|0]) finP)|0])))
def zA4:FM:=runF 1 1 (sSeq (sIf (mTst (mBin (vEqB false) (mBin vIx (mVar 0) (mC (.int 0))) (mC (.str "rest")))) (sSeq (sIf (mOrT (mTst (mBin (vEqB true) (zAJ vLen %[(mVar 0)|0]) (mC (.int 4)))) (mOrT (zDK (mTru (zAH zAy %[(mBin vIx (mVar 0) (mC (.int 1)))|0]))) (zDK (mTru (zAH zA1 %[(mBin vIx (mVar 0) (mC (.int 2))),(mC (.int 2)),(mC (.int 5))|0]))))) (sRet (mC (.bl false))) sNx)
  (sRet (zAH zA1 %[(mBin vIx (mVar 0) (mC (.int 3))),(mC (.int 0)),(mBin vSub (mBin vIx (mVar 0) (mC (.int 2))) (mC (.int 1)))|0]))) sNx)
  (sSeq (sIf (mOrT (mTst (mInT zAf true (mBin vIx (mVar 0) (mC (.int 0))))) (mTst (mBin (vEqB true) (zAJ vLen %[(mVar 0)|0]) (mC (.int 3))))) (sRet (mC (.bl false))) sNx)
  (sRet (zCS (zAH zAy %[(mBin vIx (mVar 0) (mC (.int 1)))|0]) (zAH zA1 %[(mBin vIx (mVar 0) (mC (.int 2))),(mBin vSub (mC (.int 0)) (mC (.int 9))),(mC (.int 9))|0])))))
def zAX:Nat→FM
 |0=>fun _ _=>.no
 |n+1=>runF 2 5 (sSeq (sIf (mOrT (zDK (mTru (mIsi "tuple" (mVar 0)))) (mOrT (mTst (mBin (vEqB false) (mVar 0) (mTup mNil))) (mOrT (zDK (mTru (mIsi "str" (mBin vIx (mVar 0) (mC (.int 0)))))) (mTst (mBin vGt (mVar 1) (mC (.int 4))))))) (sRet (mC (.bl false))) sNx)
  (sSeq (zOS 2 3 (mVar 0))
  (sSeq (sIf (mTst (mBin (vEqB false) (mVar 2) (mC (.str "not")))) (sRet (zCS (mBin (vEqB false) (zAJ vLen %[(mVar 3)|0]) (mC (.int 1))) (zAH (zAX n) %[(mBin vIx (mVar 3) (mC (.int 0))),(mBin vAdd (mVar 1) (mC (.int 1)))|0]))) sNx)
  (sSeq (sIf (mTst (mBin (vInB false) (mVar 2) (mTup %[(mC (.str "and")),(mC (.str "or"))|0]))) (sRet (zCS (zFX vLe vLe (mC (.int 2)) (zAJ vLen %[(mVar 3)|0]) (mC (.int 4))) (zAJ (zF6 fun bs=>bs.all id) %[(mLc (mSrc (mVar 3)) (.nm 4) [4] mYes (zAH (zAX n) %[(mVar 4),(mBin vAdd (mVar 1) (mC (.int 1)))|0]) finP)|0]))) sNx)
  (sRet (zAH zA4 %[(mVar 0)|0]))))))
def zBA:Nat→FM
 |0=>fun _ _=>.no
 |n+1=>runF 1 3 (sSeq (sIf (mTst (mBin (vInB false) (mBin vIx (mVar 0) (mC (.int 0))) (mTup %[(mC (.str "not")),(mC (.str "and")),(mC (.str "or"))|0]))) (sRet (mLc2 (mSrc (mSl (mVar 0) (zA0 (mC (.int 1))) zCi)) (.nm 1) [1,2] mYes (mSrc (zAH (zBA n) %[(mVar 1)|0])) (.nm 2) [2] mYes (mVar 2) finP)) sNx)
  (sRet (mLst %[(mVar 0)|0])))
def zCD:FM:=runF 1 6 (sSeq (sSet 1 (mC (.str "")))
  (sSeq (sFor (zNb (mVar 0) (mC (.str "abc"))) (.tp [(.nm 2),(.nm 3)]) (sSeq (sIf (mTst (mBin (vEqB false) (mVar 2) (mC (.int 0)))) sCnt sNx)
  (sSeq (sSet 4 (mIfE (mTst (mBin vLt (mVar 2) (mC (.int 0)))) (mC (.str "-")) (mC (.str "+"))))
  (sSeq (sSet 5 (mIfE (mTst (mBin (vEqB true) (mVar 1) (mC (.str "")))) (jsF [(mC (.str " ")),(mFmt (mVar 4)),(mC (.str " "))] Str.empty) (mIfE (mTst (mBin vLt (mVar 2) (mC (.int 0)))) (mC (.str "-")) (mC (.str "")))))
  (sSet 1 (mBin vAdd (mBin vAdd (mVar 1) (mVar 5)) (mIfE (mTst (mBin (vEqB false) (zAJ vAbs %[(mVar 2)|0]) (mC (.int 1)))) (mVar 3) (jsF [(mFmt (zAJ vAbs %[(mVar 2)|0])),(mC (.str "*")),(mFmt (mVar 3))] Str.empty))))))))
  (sRet (mVar 1))))
def zAR:Nat→FM
 |0=>fun _ _=>.no
 |n+1=>runF 1 6 (sSeq (zOS 1 2 (mVar 0))
  (sSeq (sIf (mTst (mBin (vEqB false) (mVar 1) (mC (.str "rest")))) (sRet (jsF [(mFmt (zAH zCD %[(mBin vIx (mVar 2) (mC (.int 0)))|0])),(mC (.str " mod ")),(mFmt (mBin vIx (mVar 2) (mC (.int 1)))),(mC (.str " = ")),(mFmt (mBin vIx (mVar 2) (mC (.int 2))))] Str.empty)) sNx)
  (sSeq (sIf (mTst (mInT zAf false (mVar 1))) (sRet (jsF [(mFmt (zAH zCD %[(mBin vIx (mVar 2) (mC (.int 0)))|0])),(mC (.str " ")),(mFmt (zOx zAf (mVar 1))),(mC (.str " ")),(mFmt (mBin vIx (mVar 2) (mC (.int 1))))] Str.empty)) sNx)
  (sSeq (sSet 3 (zIy (zJU ["not", "and", "or"] [(mTup %[(mC (.str "and")),(mC (.str "or"))|0]),(mTup %[(mC (.str "and")),(mC (.str "or"))|0]),(mTup %[(mC (.str "or"))|0])]) (mVar 1)))
  (sSeq (sSet 4 (mLc (mSrc (mVar 2)) (.nm 5) [5] mYes (mIfE (mTst (mBin (vInB false) (mBin vIx (mVar 5) (mC (.int 0))) (mVar 3))) (jsF [(mC (.str "(")),(mFmt (zAH (zAR n) %[(mVar 5)|0])),(mC (.str ")"))] Str.empty) (zAH (zAR n) %[(mVar 5)|0])) finP))
  (sRet (mIfE (mTst (mBin (vEqB false) (mVar 1) (mC (.str "not")))) (jsF [(mC (.str "not ")),(mFmt (mBin vIx (mVar 4) (mC (.int 0))))] Str.empty) (mBm "str" zLA (jsF [(mC (.str " ")),(mFmt (mVar 1)),(mC (.str " "))] Str.empty) %[(mVar 4)|0]))))))))
inductive Wd where
 |ge|le|eq
def Wd.s:Wd→Str
 | .ge=>Str.ofString "at least"
 | .le=>Str.ofString "at most"
 | .eq=>Str.ofString "equal"
inductive Tr where
 |at(w:Wd) (a b c n:Int)
 |rest (a b c d n:Int)
 |no (t:Tr)
 |op (b:Bool) (l:List Tr)
abbrev T3(a b c:Int):P:=.tup [.int a,.int b,.int c]
def opw(b:Bool):Str:=if b=true then Str.ofString "and" else Str.ofString "or"
mutual
def Tr.enc:Tr→P
 | .at w a b c n=>.tup [.str w.s,T3 a b c,.int n]
 | .rest a b c d n=>.tup [.str (Str.ofString "rest"),T3 a b c,.int d,.int n]
 | .no t=>.tup [.str (Str.ofString "not"),t.enc]
 | .op b l=>.tup (.str (opw b)::Tr.encs l)
def Tr.encs:List Tr→List P
 |[]=>[]
 |t::l=>t.enc::Tr.encs l
end
mutual
def Tr.depth:Tr→Nat
 | .at .. => 1
 | .rest .. => 1
 | .no t=>t.depth+1
 | .op _ l=>Tr.depths l+1
def Tr.depths:List Tr→Nat
 |[]=>0
 |t::l=>max t.depth (Tr.depths l)
end
mutual
def Tr.atoms:Tr→List Tr
 | .at w a b c n=>[.at w a b c n]
 | .rest a b c d n=>[.rest a b c d n]
 | .no t=>t.atoms
 | .op _ l=>Tr.atomss l
def Tr.atomss:List Tr→List Tr
 |[]=>[]
 |t::l=>t.atoms++Tr.atomss l
end
def F3(a b c:Int):Prop:=(-3≤a∧a≤3)∧(-3≤b∧b≤3)∧(-3≤c∧c≤3)∧¬(a=0∧b=0∧c=0)
mutual
def Tr.good:Tr→Prop
 | .at _ a b c n=>F3 a b c ∧ -9≤n∧n≤9
 | .rest a b c d n=>F3 a b c∧2≤d∧d≤5∧0≤n∧n<d
 | .no t=>t.good
 | .op _ l=>2≤l.length∧l.length≤4∧Tr.goods l
def Tr.goods:List Tr→Prop
 |[]=>True
 |t::l=>t.good∧Tr.goods l
end
theorem zBP:∀l:List Tr,Tr.encs l=l.map Tr.enc
 |[]=>rfl
 |t::l=>by rw[Tr.encs,zBP l];rfl
theorem zAk:∀ {l:List Tr},Tr.goods l↔∀t∈l,t.good
 |[]=>by simp[Tr.goods]
 |t::l=>by rw[Tr.goods,zAk];simp
theorem zAi:∀ {l:List Tr}{t:Tr},t∈l→t.depth≤Tr.depths l
 |u::l,t,h=>by
  rw[Tr.depths];rcases Jr.mp h with rfl|h
  ·exact Nat.le_max_left _ _
  ·exact Jt (zAi h) (Nat.le_max_right _ _)
theorem zBr:∀l:List Tr,Tr.atomss l=l.flatMap Tr.atoms
 |[]=>rfl
 |t::l=>by rw[Tr.atomss,zBr l];rfl
theorem zHt(i:Int) (st:List Cell):zAP zCH [.p (.int i)] st=.ok (.p (.bl true)) st:=by
 refine Pu.call1 (Pu.of1 ?_) st;simp[zCH,zAG]
theorem zDj(i a b:Int) (st:List Cell):zAP zA1 [.p (.int i),.p (.int a),.p (.int b)] st=.ok (.p (.bl (decide (a≤i∧i≤b)))) st:=by
 refine Pu.call3 (Pu.of3 ?_) st
 by_cases h:a≤i<;>by_cases h2:i≤b<;>simp[zA1,zAG,zHt,h,h2]
theorem zEm{a b c:Int} (h:F3 a b c) (st:List Cell):zAP zAy [.p (T3 a b c)] st=.ok (.p (.bl true)) st:=by
 refine Pu.call1 (Pu.of1 ?_) st;obtain⟨h1,h2,h3,h4⟩:=h;simp[zAy,zAG,zBH,zCQ,zDj,h1,h2,h3];omega
theorem Wd.lk(w:Wd):(zAf.lookup w.s).isSome=true:=by cases w<;>decide +kernel
theorem Wd.nr(w:Wd):(w.s==Str.ofString "rest")=false:=by cases w<;>simp[Wd.s]
theorem Wd.ne(w:Wd):w.s≠Str.ofString "not" ∧ w.s≠Str.ofString "and" ∧ w.s≠Str.ofString "or" ∧ w.s≠Str.ofString "rest" ∧ Str.ofString "not" ≠ w.s∧Str.ofString "and" ≠ w.s∧Str.ofString "or" ≠ w.s∧Str.ofString "rest" ≠ w.s:=by cases w<;>simp[Wd.s]
theorem zLH{w:Wd}{a b c n:Int} (h:Tr.good (.at w a b c n)) (st:List Cell):zAP zA4 [.p (.tup [.str w.s,T3 a b c,.int n])] st=.ok (.p (.bl true)) st:=by
 refine Pu.call1 (Pu.of1 ?_) st;rw[Tr.good]at h;simp[zA4,zAG,Wd.nr,Wd.lk,zEm h.1,zDj,h.2]
theorem zIh{a b c d n:Int} (h:Tr.good (.rest a b c d n)) (st:List Cell):zAP zA4 [.p (.tup [.str (Str.ofString "rest"),T3 a b c,.int d,.int n])] st=.ok (.p (.bl true)) st:=by
 refine Pu.call1 (Pu.of1 ?_) st;rw[Tr.good]at h;simp[zA4,zAG,zEm h.1,zDj,h.2.1,h.2.2.1,h.2.2.2.1,show n≤d-1 by omega]
theorem zJO:∀(n:Nat) (t:Tr),t.depth≤n→okP (n+1) t.enc=true:=by
 intro n
 induction n with
 |zero=>intro t h;cases t<;>rw[Tr.depth]at h<;>omega
 |succ n ih =>
  intro t h;cases t with
  |«at» w a b c k=>rw[Tr.enc];cases w<;>simp[Wd.s]
  |rest a b c d k=>rw[Tr.enc];simp
  |no t =>
   rw[Tr.depth]at h;rw[Tr.enc];simp[ih t ∅]
  |op b l =>
   rw[Tr.depth]at h;rw[Tr.enc,zBP]
   have:∀t∈l,okP (n+1) t.enc=true:=fun t m=>ih t (by have:=zAi m;omega)
   cases b<;>simp[opw]<;>exact this
theorem zFP:∀(n:Nat) (t:Tr) (d:Int),t.good→t.depth≤n→n≤50→d+t.depth≤5→∀st,zAP (zAX n) [.p t.enc,.p (.int d)] st=.ok (.p (.bl true)) st:=by
 intro n
 induction n with
 |zero=>intro t d _ h;cases t<;>rw[Tr.depth]at h<;>omega
 |succ n ih =>
  intro t d hg h hn hd st;refine Pu.call2 (Pu.of2 ?_) st;have ok:=zJO 63 t ∅;cases t with
  |«at» w a b c k =>
   rw[Tr.depth]at hd;rw[Tr.enc]at ok ⊢;simp[zAX,zAG,zAs ok,show ¬4<d by omega,w.ne,zLH hg]
  |rest a b c e k =>
   rw[Tr.depth]at hd;rw[Tr.enc]at ok ⊢;simp[zAX,zAG,zAs ok,show ¬4<d by omega,zIh hg]
  |no t =>
   rw[Tr.depth]at hd h;rw[Tr.enc]at ok ⊢;rw[Tr.good]at hg;simp[zAX,zAG,zAs ok,show ¬4<d by omega,ih t (d+1) hg ∅ ∅ ∅]
  |op b l =>
   rw[Tr.depth]at hd h;rw[Tr.enc,zBP]at ok ⊢;rw[Tr.good,zAk]at hg;have nt:=fun st=>zAs (st:=st) (n:=false) ok
   clear ok;cases b<;>simp[opw]at nt ⊢<;>simp[zAX,zAG,nt,show ¬4<d by omega,hg.1,hg.2.1,show l.length<16384 by omega,show l.length≤1000000 by omega,show(2:Int)≤l.length by omega,show(l.length:Int)≤4 by omega]
   all_goals rw[zCw (fun _=>.bl true) (fun t mt=>by
    have:=zAi mt
    exact⟨_,zBq _ _,by simp[ih t (d+1) (hg.2.2 t mt) ∅ ∅ ∅]⟩)]
   all_goals simp
theorem zET:∀(n:Nat) (t:Tr),t.good→t.depth≤n→t.atoms.length≤4^n:=by
 intro n
 induction n with
 |zero=>intro t _ h;cases t<;>rw[Tr.depth]at h<;>omega
 |succ n ih =>
  intro t hg h;have p:1≤4^n:=Nat.one_le_pow _ _ (!0);rw[Nat.pow_succ];cases t with
  |«at» w a b c k=>simp[Tr.atoms];omega
  |rest a b c d k=>simp[Tr.atoms];omega
  |no t =>
   rw[Tr.depth]at h;rw[Tr.good]at hg;rw[Tr.atoms]
   have:=ih t hg ∅
   omega
  |op b l =>
   rw[Tr.depth]at h;rw[Tr.good,zAk]at hg;rw[Tr.atoms,zBr]
   have:∀m:List Tr,(∀t∈m,t∈l)→(m.flatMap Tr.atoms).length≤m.length*4^n:=by
    intro m
    induction m with
    |nil=>intro _;simp
    |cons t m ihm =>
     intro hm;have h1:=ihm fun t mt=>hm t (Jg _ mt)
     have ht:=hm t Jc;have h2:=ih t (hg.2.2 t ht) (by have:=zAi ht;omega)
     rw[VX,Jl,JJ,Yo];omega
   have h3:=this l fun _ m=>m
   have h4:l.length*4^n≤4*4^n:=V0 _ hg.2.1;omega
theorem zEw:∀(n:Nat) (t:Tr),t.good→t.depth≤n→t.depth≤4→∀st,zAP (zBA n) [.p t.enc] st=.ok (.p (.lst (t.atoms.map Tr.enc))) st:=by
 intro n
 induction n with
 |zero=>intro t _ h;cases t<;>rw[Tr.depth]at h<;>omega
 |succ n ih =>
  intro t hg h h4 st;refine Pu.call1 (Pu.of1 ?_) st;cases t with
  |«at» w a b c k=>simp[zBA,zAG,Tr.enc,Tr.atoms,w.ne]
  |rest a b c d k=>simp[zBA,zAG,Tr.enc,Tr.atoms]
  |no t =>
   rw[Tr.depth]at h h4;rw[Tr.good]at hg;rw[Tr.enc];have few:=zET 4 t hg ∅;simp[zBA,zAG,Tr.atoms];rw[show[W.p t.enc]=[t].map (fun t=>W.p t.enc)from rfl,zPU (fun t=>t.atoms.map Tr.enc) (fun _ u=>u) (by simp) ?_]
   ·simp
   ·intro u m;obtain rfl:u=t:=by simpa using m
    exact⟨by rw[Jb];omega,_,zBq _ _,by simp[ih u hg ∅ ∅],fun x _=>⟨_,zBq _ _,by simp⟩⟩
  |op b l =>
   rw[Tr.depth]at h h4;rw[Tr.enc,zBP];rw[Tr.good,zAk]at hg;cases b<;>simp[zBA,zAG,Tr.atoms,opw]
   all_goals rw[zPU (fun t=>t.atoms.map Tr.enc) (fun _ u=>u) ∅ ?_]
   ·simp[zBr,List.map_flatMap];rfl
   ·intro u m
    have:=zAi m
    have few:=zET 4 u (hg.2.2 u m) ∅;exact⟨by rw[Jb];omega,_,zBq _ _,by simp[ih u (hg.2.2 u m) ∅ ∅],fun x _=>⟨_,zBq _ _,by simp⟩⟩
   ·simp[zBr,List.map_flatMap];rfl
   ·intro u m
    have:=zAi m
    have few:=zET 4 u (hg.2.2 u m) ∅;exact⟨by rw[Jb];omega,_,zBq _ _,by simp[ih u (hg.2.2 u m) ∅ ∅],fun x _=>⟨_,zBq _ _,by simp⟩⟩
def wt(a b c x y z:Int):Int:=a*x+(b*y+c*z)
def ans(x y z:Int):Tr→Bool
 | .at .ge a b c n=>decide (n≤wt a b c x y z)
 | .at .le a b c n=>decide (wt a b c x y z≤n)
 | .at .eq a b c n=>wt a b c x y z==n
 | .rest a b c d n=>wt a b c x y z%d==n
 |_=>false
def isAt:Tr→Prop
 | .at .. => True
 | .rest .. => True
 |_=>False
theorem F3.ok{a b c x y z:Int} (h:F3 a b c) (hx:Sm x) (hy:Sm y) (hz:Sm z):zDS a x=true∧zDS b y=true∧zDS c z=true:=by
 obtain⟨h1,h2,h3,_⟩:=h;exact⟨mulOk_of (Sm.small ∅) hx,mulOk_of (Sm.small ∅) hy,mulOk_of (Sm.small ∅) hz⟩
def far(x y z:Int):Tr→Bool
 | .at w a b c n=>if wt a b c x y z=0 then ans 0 0 0 (.at w a b c n)else match w with
  | .ge=>decide (0<wt a b c x y z)
  | .le=>decide (wt a b c x y z<0)
  | .eq=>false
 | .rest a b c d n=>n==0
 |_=>false
theorem zBe{i:Int} (h : -9≤i) (h2:i≤9):(Str.ofString (toString i)).length≤2∧i.natAbs.log2<1920:=by
 refine⟨?_,Nat.lt_trans (log2_lt (k:=4) ∅ (!0)) (!0)⟩
 have:i = -9∨i = -8∨i = -7∨i = -6∨i = -5∨i = -4∨i = -3∨i = -2∨i = -1∨i=0∨i=1∨i=2∨i=3∨i=4∨i=5∨i=6∨i=7∨i=8∨i=9:=by omega
 rcases this with rfl|rfl|rfl|rfl|rfl|rfl|rfl|rfl|rfl|rfl|rfl|rfl|rfl|rfl|rfl|rfl|rfl|rfl|rfl<;>decide +kernel
def Gt(n:Nat) (r:Res W):Prop:=match r with
 | .ok (.p (.str s)) _=>s.length≤n
 |_=>False
@[simp]theorem Gt_ok(n:Nat) (s:Str) (st:List Cell):Gt n (.ok (.p (.str s)) st)=(s.length≤n):=rfl
@[simp]theorem Gt_no(n:Nat):Gt n .no=False:=rfl
@[simp]theorem Gt_ite(n:Nat){c:Prop} [Decidable c] (a b:Res W):Gt n (if c then a else b)=if c then Gt n a else Gt n b:=by split<;>rfl
theorem Gt.call{F:FM}{xs:List P}{n:Nat} (h:Gt n (F (xs.map W.p) [])):∃s,s.length≤n∧∀st,zAP F (xs.map W.p) st=.ok (.p (.str s)) st:=by
 unfold Gt at h;split at h
 ·rename_i s _ e
  exact⟨s,h,fun st=>Pu.call (show Gv (F (xs.map W.p) []) (.str s) by rw[e];rfl) st⟩
 ·exact h.elim
theorem Gt.call1{F:FM}{x:P}{n:Nat} (h:Gt n (F [.p x] [])):∃s,s.length≤n∧∀st,zAP F [.p x] st=.ok (.p (.str s)) st:=Gt.call (xs:=[x]) h
theorem sl1 : " ".length=1:=by decide
theorem sl2 : "-".length=1:=by decide
theorem sl3 : "+".length=1:=by decide
theorem sl4 : "*".length=1:=by decide
theorem zG7{a b c:Int} (h:F3 a b c):∃s,s.length≤24∧∀st,zAP zCD [.p (T3 a b c)] st=.ok (.p (.str s)) st:=by
 refine Gt.call1 ?_
 obtain⟨h1,h2,h3,_⟩:=h;simp[zCD,zAG,-zBQ];refine zBg (fun r=>Gt 24 (runR (r.then _))) (fun i σ st=>∃s x y z u,σ=[some (.p (T3 a b c)),some (.p (.str s)),x,y,z,u]∧st=[]∧s.length≤8*i) ⟨_,_,_,_,_,rfl,rfl,by simp⟩ ?_ ?_
 ·rintro i w σ st hw ⟨s,x,y,z,u,rfl,rfl,hl⟩;have hi:i<3:=(Ja.mp hw).1
  have:∃f l,w=.p (.tup [.int f,.str (Str.ofString l)]) ∧ -3≤f∧f≤3∧l.length=1:=by
   have:i=0∨i=1∨i=2:=by omega
   rcases this with rfl|rfl|rfl<;>simp at hw<;>subst hw
   ·exact⟨a, "a",rfl,h1.1,h1.2,!0⟩
   ·exact⟨b, "b",rfl,h2.1,h2.2,!0⟩
   ·exact⟨c, "c",rfl,h3.1,h3.2,!0⟩
  obtain⟨f,l,rfl,f1,f2,hl1⟩:=this
  by_cases hf:f=0
  ·conv=>arg 3;simp[hf]
   exact⟨_,_,_,_,_,rfl,rfl,∅⟩
  ·by_cases hn:f<0
   ·have nt:=zBe (i := -f) ∅ ∅;simp at nt
    by_cases hs:s=Str.ofString ""<;>by_cases hx : -f=1<;>conv=>arg 3;simp[hf,hn,hs,hx,hl1,nt.2,sl1,sl2,sl3,sl4]
    all_goals (repeat (rw[Jm];rotate_left;omega))
    all_goals exact⟨_,_,_,_,_,rfl,rfl,by simp[hl1,sl1,sl2,sl3,sl4];omega⟩
   ·have nt:=zBe (i:=f) ∅ ∅;simp at nt
    by_cases hs:s=Str.ofString ""<;>by_cases hx:f=1<;>conv=>arg 3;simp[hf,hn,hs,hx,hl1,nt.2,sl1,sl2,sl3,sl4]
    all_goals (repeat (rw[Jm];rotate_left;omega))
    all_goals exact⟨_,_,_,_,_,rfl,rfl,by simp[hl1,sl1,sl2,sl3,sl4];omega⟩
 ·rintro σ st ⟨s,x,y,z,u,rfl,rfl,hl⟩;simp at hl ⊢;exact hl
def tb:Nat→Nat
 |0=>60
 |n+1=>4*tb n+40
theorem zG5:∀ {n m:Nat},n≤m→tb n≤tb m
 |n,0,h=>by
         obtain rfl:n=0:=by omega
         exact Jq _
 |n,m+1,h=>by
  rcases Nat.lt_or_ge n (m+1)with h1|h1
  ·have:=zG5 (n:=n) (m:=m) ∅
   show tb n≤4*tb m+40;omega
  ·obtain rfl:n=m+1:=by omega
   exact Jq _
def Tr.word:Tr→Str
 | .at w _ _ _ _=>w.s
 | .rest .. => Str.ofString "rest"
 | .no _=>Str.ofString "not"
 | .op b _=>opw b
def Tr.tail:Tr→List P
 | .at _ a b c n=>[T3 a b c,.int n]
 | .rest a b c d n=>[T3 a b c,.int d,.int n]
 | .no t=>[t.enc]
 | .op _ l=>l.map Tr.enc
theorem Tr.enc_eq(t:Tr):t.enc=.tup (.str t.word::t.tail):=by
 cases t<;>simp[Tr.enc,Tr.word,Tr.tail,zBP]
theorem Tr.ix0(t:Tr) (st:List Cell):vIx (.p t.enc) (.p (.int 0)) st=.ok (.p (.str t.word)) st:=by
 rw[t.enc_eq];simp
theorem join_eq(a:Str) (ys:List Str):Txt.join a ys=Str.join a ys:=PySem.StrLaws.glued_eq_join a ys
theorem jlen(a:Str) (ys:List Str):(Str.join a ys).length≤(ys.map (·.length)).sum+ys.length*a.length:=PySem.StrLaws.join_length_le a ys
theorem zKf:zAf.lookup (Str.ofString "not")=none:=by decide +kernel
theorem zPW:zAf.lookup (Str.ofString "and")=none:=by decide +kernel
theorem lk_or:zAf.lookup (Str.ofString "or")=none:=by decide +kernel
theorem zEK:∀(n:Nat) (t:Tr),t.good→t.depth≤n→n≤5→∀m,t.depth≤m→∃s,s.length≤tb n∧∀st,zAP (zAR m) [.p t.enc] st=.ok (.p (.str s)) st:=by
 intro n
 induction n with
 |zero=>intro t _ h;cases t<;>rw[Tr.depth]at h<;>omega
 |succ n ih =>
  intro t hg h h5 m hm;have tbn:tb n≤20000:=Jt (zG5 (show n≤4 by omega)) (!0)
  have tbs:100≤tb (n+1):=Jt (show 100≤tb 1 by decide) (zG5 ∅)
  have tbe:tb (n+1)=4*tb n+40:=rfl;obtain⟨m,rfl⟩:∃k,m=k+1:=⟨m-1,by cases t<;>rw[Tr.depth]at hm<;>omega⟩
  refine Gt.call1 ?_
  cases t with
  |«at» w a b c k =>
   rw[Tr.good]at hg;obtain⟨s,hs,e⟩:=zG7 hg.1;have nt:=zBe hg.2.1 hg.2.2;simp at nt;rw[Tr.enc]
   have:∃v:Str,zAf.lookup w.s=some v∧v.length≤2:=by
    cases w
    ·exact⟨Str.ofString ">=",⋯,⋯⟩
    ·exact⟨Str.ofString "<=",⋯,⋯⟩
    ·exact⟨Str.ofString "=",⋯,⋯⟩
   obtain⟨v,hv,hvl⟩:=this;simp[zAR,zAG,w.ne,hv,e,nt.2,sl1];omega
  |rest a b c d k =>
   rw[Tr.good]at hg;obtain⟨s,hs,e⟩:=zG7 hg.1;have nt:=zBe (i:=d) ∅ ∅;have nt2:=zBe (i:=k) ∅ ∅;simp at nt nt2;rw[Tr.enc];have l1 : " mod ".length=5:=by decide
   have l2 : " = ".length=3:=by decide
   simp[zAR,zAG,e,nt.2,nt2.2,l1,l2];omega
  |no t =>
   rw[Tr.depth]at h hm;rw[Tr.good]at hg;obtain⟨s,hs,e⟩:=ih t hg ∅ ∅ m ∅;rw[Tr.enc];have l1 : "(".length=1:=by decide
   have l2 : ")".length=1:=by decide
   have l3 : "not ".length=4:=by decide
   rw[t.enc_eq]at e ⊢
   by_cases hx:Str.ofString "and" = t.word∨Str.ofString "or" = t.word
   ·simp[zAR,zAG,zKf,zBH,zCQ,e,hx,l1,l2,l3];omega
   ·simp[zAR,zAG,zKf,zBH,zCQ,e,hx,l1,l2,l3];omega
  |op b l =>
   rw[Tr.depth]at h hm;rw[Tr.enc,zBP];rw[Tr.good,zAk]at hg
   obtain⟨f,hf⟩:∃f:Tr→Str,∀t∈l,(f t).length≤tb n∧∀st,zAP (zAR m) [.p t.enc] st=.ok (.p (.str (f t))) st:=by
    classical
    refine⟨fun t=>if h:∃s:Str,s.length≤tb n∧∀st,zAP (zAR m) [.p t.enc] st=.ok (.p (.str s)) st then h.choose else Str.empty,fun t mt=>?_⟩
    have e:=ih t (hg.2.2 t mt) (by have:=zAi mt;omega) ∅ m (by have:=zAi mt;omega)
    dsimp only;rw[dif_pos e];exact e.choose_spec
   have l1 : "(".length=1:=by decide
   have l2 : ")".length=1:=by decide
   have l3:(opw b).length≤3:=by cases b<;>decide +kernel
   have hsum:∀(k:Tr→Str),(∀t∈l,(k t).length≤tb n+2)→(l.map fun t=>(k t).length).sum≤l.length*(tb n+2):=by
    intro k hk;clear hf ih h hm hg
    induction l with
    |nil=>simp
    |cons t l ih =>
     have:=ih fun t mt=>hk t (Jg _ mt)
     have h2:=hk t Jc;rw[Jk,JM,JJ,Yo];omega
   have h4:l.length*(tb n+2)≤4*(tb n+2):=V0 _ hg.2.1;have h5:l.length*5≤20:=by omega
   have w1 : "or".length=2:=by decide
   have w2 : "and".length=3:=by decide
   cases b
   ·simp[zAR,zAG,opw,lk_or,show l.length<16384 by omega,show l.length≤1000000 by omega]
    have hk:∀t∈l,(if Str.ofString "or" = t.word then Str.ofString "(" ++ f t++Str.ofString ")" else f t).length≤tb n+2:=fun t mt=>by
     have:=(hf t mt).1
     split<;>simp[l1,l2]<;>omega
    have hsm:=hsum _ hk
    rw[zCw (fun t=>.str (if Str.ofString "or" = t.word then Str.ofString "(" ++ f t++Str.ofString ")" else f t)) (fun t mt=>by
     have q:=hf t mt;refine⟨_,zBq _ _,?_⟩
     by_cases hw:Str.ofString "or" = t.word
     ·simp[t.ix0,q.2,l1,l2,hw,show(f t).length≤1000000 by omega]
      rw[Jm ∅,Jm ∅];rfl
     ·simp[t.ix0,q.2,l1,l2,hw])]
    have j:=jlen (Str.empty++Str.ofString " " ++ Str.ofString "or" ++ Str.ofString " ") (l.map fun t=>if Str.ofString "or" = t.word then Str.ofString "(" ++ f t++Str.ofString ")" else f t)
    rw[Jy]at j;simp[join_eq,sl1,w1]at j ⊢;simp only[Yj]at j ⊢;omega
   ·simp[zAR,zAG,opw,zPW,show l.length<16384 by omega,show l.length≤1000000 by omega]
    have hk:∀t∈l,(if Str.ofString "and" = t.word∨Str.ofString "or" = t.word then Str.ofString "(" ++ f t++Str.ofString ")" else f t).length≤tb n+2:=fun t mt=>by
     have:=(hf t mt).1
     split<;>simp[l1,l2]<;>omega
    have hsm:=hsum _ hk
    rw[zCw (fun t=>.str (if Str.ofString "and" = t.word∨Str.ofString "or" = t.word then Str.ofString "(" ++ f t++Str.ofString ")" else f t)) (fun t mt=>by
     have q:=hf t mt;refine⟨_,zBq _ _,?_⟩
     by_cases hw:Str.ofString "and" = t.word∨Str.ofString "or" = t.word
     ·simp[t.ix0,q.2,l1,l2,hw,show(f t).length≤1000000 by omega]
      rw[Jm ∅,Jm ∅];rfl
     ·simp[t.ix0,q.2,l1,l2,hw])]
    have j:=jlen (Str.empty++Str.ofString " " ++ Str.ofString "and" ++ Str.ofString " ") (l.map fun t=>if Str.ofString "and" = t.word∨Str.ofString "or" = t.word then Str.ofString "(" ++ f t++Str.ofString ")" else f t)
    rw[Jy]at j;simp[join_eq,sl1,w2]at j ⊢;simp only[Yj]at j ⊢;omega
def zK0(t:Tr):Str:=match zAP (zAR 12) [.p t.enc] []with
 | .ok (.p (.str s)) _=>s
 |_=>Str.empty
theorem zO3{t:Tr} (hg:t.good) (h:t.depth≤5) (st:List Cell):zAP (zAR 12) [.p t.enc] st=.ok (.p (.str (zK0 t))) st∧(zK0 t).length≤100000:=by
 obtain⟨s,hs,e⟩:=zEK 5 t hg h ∅ 12 ∅
 have:zK0 t=s:=by unfold zK0;rw[e]
 rw[this];exact⟨e st,Jt hs (!0)⟩
def Tr.fit(t:Tr):Prop:=t.good∧t.depth≤4∧t.atoms.length≤3
def qob(t:Tr):P:=.obj 0 [t.enc,.lst (t.atoms.map Tr.enc),.str (zK0 t)]
def zDb:FM:=runF 2 4 (sSeq (sSet 2 (mLc (mSrc (mC (.str "abc"))) (.nm 3) [3] mYes (mBin vSub (zAH zAS %[(mVar 0),(mBin vAdd (mBin zE2 (mC (.int 2)) (mVar 1)) (mC (.int 1)))|0]) (mVar 1)) finC))
  (sSeq (sIf (mTst (mBin (vEqB false) (zAH zAS %[(mVar 0),(mC (.int 2))|0]) (mC (.int 0)))) (zDx (mVar 2) (zAH zAS %[(mVar 0),(mC (.int 3))|0]) (mC (.int 0))) sNx)
  (sSeq (sIf (zDK (mTru (zAJ (zF6 fun bs=>bs.any id) %[(mVar 2)|0]))) (zDx (mVar 2) (zAH zAS %[(mVar 0),(mC (.int 3))|0]) (mC (.int 1))) sNx)
  (sRet (zAJ zCI %[(mVar 2)|0])))))
def zBa:FM:=runF 3 6 (sSeq (sSet 3 (zAH zCM %[(mVar 0),(mLst %[(mC (.str "at least")),(mC (.str "at least")),(mC (.str "at most")),(mC (.str "equal")),(mC (.str "rest"))|0])|0]))
  (sSeq (sIf (mTst (mBin (vEqB false) (mVar 3) (mC (.str "rest")))) (sSeq (sSet 5 (mBin vAdd (mC (.int 2)) (zAH zAS %[(mVar 0),(mC (.int 4))|0])))
  (sRet (mTup %[(mC (.str "rest")),(zAH zDb %[(mVar 0),(mVar 1)|0]),(mVar 5),(zAH zAS %[(mVar 0),(mVar 5)|0])|0]))) sNx)
  (sSeq (sSet 4 (zAH zCM %[(mVar 0),(mLst %[(mC (.int 0)),(mC (.int 0)),(mC (.int 1)),(mBin vSub (zAH zAS %[(mVar 0),(mBin vAdd (mBin zE2 (mC (.int 2)) (mVar 2)) (mC (.int 1)))|0]) (mVar 2))|0])|0]))
  (sRet (mTup %[(mVar 3),(zAH zDb %[(mVar 0),(mVar 1)|0]),(mVar 4)|0])))))
def zAv:Nat→FM
 |0=>fun _ _=>.no
 |n+1=>runF 1 2 (sSeq (sIf (mTst (mBin (vInB false) (mBin vIx (mVar 0) (mC (.int 0))) (mLst %[(mC (.str "not")),(mC (.str "and")),(mC (.str "or"))|0]))) (sRet (mBin vAdd (mC (.int 1)) (zAJ zHe %[(mLc (mSrc (mSl (mVar 0) (zA0 (mC (.int 1))) zCi)) (.nm 1) [1] mYes (zAH (zAv n) %[(mVar 1)|0]) finP)|0]))) sNx)
  (sRet (mC (.int 1))))
def zBs:Nat→FM
 |0=>fun _ _=>.no
 |n+1=>runF 4 8 (sSeq (sIf (mOrT (mTst (mBin vLt (mVar 1) (mC (.int 2)))) (mTst (mBin (vEqB false) (zAH zAS %[(mVar 0),(mC (.int 4))|0]) (mC (.int 0))))) (sSet 4 (zAH zBa %[(mVar 0),(mVar 2),(mVar 3)|0])) (sSeq (sSet 5 (mBin vAdd (mC (.int 1)) (zAH zAS %[(mVar 0),(mBin vSub (mVar 1) (mC (.int 1)))|0])))
  (sSeq (sSet 6 (mLc (zEs (mBin vAdd (mVar 5) (mC (.int 1)))) (.nm 7) [7] mYes (mIfE (mTst (mBin vGt (mVar 7) (mC (.int 0)))) (zAH zBa %[(mVar 0),(mVar 2),(mVar 3)|0]) (zAH (zBs n) %[(mVar 0),(mBin vSub (mVar 1) (mVar 5)),(mVar 2),(mVar 3)|0])) finP))
  (sSet 4 (zAJ zCI %[(mBin vAdd (mLst %[(zAH zCM %[(mVar 0),(mLst %[(mC (.str "and")),(mC (.str "or"))|0])|0])|0]) (zAH zCn %[(mVar 0),(mVar 6)|0]))|0])))))
  (sRet (mIfE (zDV (mTst (mBin (vEqB false) (zAH zAS %[(mVar 0),(mC (.int 4))|0]) (mC (.int 0)))) (mTst (mBin vLt (zAH (zAv 12) %[(mVar 4)|0]) (mC (.int 3))))) (mTup %[(mC (.str "not")),(mVar 4)|0]) (mVar 4))))
def FM3(m a b c:Int):Prop:=(-m≤a∧a≤m)∧(-m≤b∧b≤m)∧(-m≤c∧c≤m)∧¬(a=0∧b=0∧c=0)
theorem FM3.f3{m a b c:Int} (h:FM3 m a b c) (hm:m≤3):F3 a b c:=by
 obtain⟨h1,h2,h3,h4⟩:=h;exact⟨∅,∅,∅,h4⟩
theorem sum_bg{m:Int} (h0:1≤m) (h1:m≤100):Bg zDb [.int m] fun x=>∃a b c,x=T3 a b c∧FM3 m a b c:=by
 intro c0 hc0;have mk:zDS 2 m=true:=mulOk_of (Sm.small (!0)) (Sm.small ∅);have pb:=zCf (n:=2*m+1) ∅ (zBp ∅ ∅);have p2:=zCf (n:=2) ∅ (zBp ∅ ∅);have p3:=zCf (n:=3) ∅ (zBp ∅ ∅);simp[zDb,zAG,mk];obtain⟨r1,c1,e1,hc1,k1,rfl,k10,k11⟩:=pb.call1 hc0 [];simp[e1,mk];obtain⟨r2,c2,e2,hc2,k2,rfl,k20,k21⟩:=pb.call1 hc1 [];simp[e2,mk];obtain⟨r3,c3,e3,hc3,k3,rfl,k30,k31⟩:=pb.call1 hc2 []
 conv=>arg 2;arg 1;simp[e3,-zCt]
 obtain⟨r4,c4,e4,hc4,k4,rfl,k40,k41⟩:=p2.call1 hc3 [.lst [.p (.int (k1-m)),.p (.int (k2-m)),.p (.int (k3-m))]]
 have fin:∀(a b d:Int) (c:Cell),GB c→(-m≤a∧a≤m)→(-m≤b∧b≤m)→(-m≤d∧d≤m)→Gb (fun x=>∃a b c,x=T3 a b c∧FM3 m a b c) (runR (sSeq (sIf (zDK (mTru (zAJ (zF6 fun bs=>bs.any id) %[(mVar 2)|0]))) (zDx (mVar 2) (zAH zAS %[(mVar 0),(mC (.int 3))|0]) (mC (.int 1))) sNx)
  (sRet (zAJ zCI %[(mVar 2)|0])) [some (.r 0),some (.p (.int m)),some (.r 1),none] [c,.lst [.p (.int a),.p (.int b),.p (.int d)]])):=by
  intro a b d c hc ha hb hd
  by_cases hz:a=0∧b=0∧d=0
  ·obtain⟨rfl,rfl,rfl⟩:=hz;obtain⟨r,c',e,hc',k,rfl,k0,k1⟩:=p3.call1 hc [.lst [.p (.int 0),.p (.int 0),.p (.int 0)]]
   have:k=0∨k=1∨k=2:=by omega
   rcases this with rfl|rfl|rfl
   all_goals (conv=>arg 2;simp[e])
   all_goals (rw[zLp];exact⟨hc',_,_,_,rfl,∅,∅,∅,∅⟩)
  ·conv=>arg 2;simp
   rw[Js hz,zLp];exact⟨hc,_,_,_,rfl,∅,∅,∅,∅⟩
 by_cases h4:k4=0
 ·obtain⟨r5,c5,e5,hc5,k5,rfl,k50,k51⟩:=p3.call1 hc4 [.lst [.p (.int (k1-m)),.p (.int (k2-m)),.p (.int (k3-m))]]
  have:k5=0∨k5=1∨k5=2:=by omega
  rcases this with rfl|rfl|rfl
  ·conv=>arg 2;arg 1;rw[zCt];arg 1;simp[e4,h4,e5]
   rw[SR.then_nx];exact fin 0 (k2-m) (k3-m) c5 hc5 ∅ ∅ ∅
  ·conv=>arg 2;arg 1;rw[zCt];arg 1;simp[e4,h4,e5]
   rw[SR.then_nx];exact fin (k1-m) 0 (k3-m) c5 hc5 ∅ ∅ ∅
  ·conv=>arg 2;arg 1;rw[zCt];arg 1;simp[e4,h4,e5]
   rw[SR.then_nx];exact fin (k1-m) (k2-m) 0 c5 hc5 ∅ ∅ ∅
 ·conv=>arg 2;arg 1;rw[zCt];arg 1;simp[e4,h4]
  rw[SR.then_nx];exact fin (k1-m) (k2-m) (k3-m) c4 hc4 ∅ ∅ ∅
mutual
def Tr.ok(m b:Int):Tr→Prop
 | .at _ x y z n=>FM3 m x y z ∧ -b≤n∧n≤b
 | .rest x y z d n=>FM3 m x y z∧2≤d∧d≤5∧0≤n∧n<d
 | .no t=>t.ok m b
 | .op _ l=>2≤l.length∧l.length≤4∧Tr.oks m b l
def Tr.oks(m b:Int):List Tr→Prop
 |[]=>True
 |t::l=>t.ok m b∧Tr.oks m b l
end
theorem zJl{m b:Int}:∀ {l:List Tr},Tr.oks m b l↔∀t∈l,t.ok m b
 |[]=>by simp[Tr.oks]
 |t::l=>by rw[Tr.oks,zJl];simp
theorem zNg{m b:Int} (hm:m≤3) (hb:b≤9):∀(n:Nat) (t:Tr),t.depth≤n→t.ok m b→t.good:=by
 intro n
 induction n with
 |zero=>intro t h;cases t<;>rw[Tr.depth]at h<;>omega
 |succ n ih =>
  intro t h ho;cases t with
  |«at» w x y z k=>rw[Tr.ok]at ho;rw[Tr.good];exact⟨ho.1.f3 hm,∅,∅⟩
  |rest x y z d k=>rw[Tr.ok]at ho;rw[Tr.good];exact⟨ho.1.f3 hm,ho.2⟩
  |no t=>rw[Tr.ok]at ho;rw[Tr.depth]at h;rw[Tr.good];exact ih t ∅ ho
  |op c l =>
   rw[Tr.ok,zJl]at ho;rw[Tr.depth]at h;rw[Tr.good,zAk];exact⟨ho.1,ho.2.1,fun t mt=>ih t (by have:=zAi mt;omega) (ho.2.2 t mt)⟩
theorem zRp{m b:Int} (h0:1≤m) (h1:m≤100) (b0:1≤b) (b1:b≤100):Bg zBa [.int m,.int b] fun x=>∃t:Tr,x=t.enc∧isAt t∧t.ok m b:=by
 intro c0 hc0;have mk:zDS 2 b=true:=mulOk_of (Sm.small (!0)) (Sm.small ∅);have ofw:=zNj (l:=[.str (Str.ofString "at least"),.str (Str.ofString "at least"),.str (Str.ofString "at most"),.str (Str.ofString "equal"),.str (Str.ofString "rest")]) (by simp) (by simp)
 have pb:=zCf (n:=2*b+1) ∅ (zBp ∅ ∅);have p4:=zCf (n:=4) ∅ (zBp ∅ ∅);have sb:=sum_bg h0 h1;obtain⟨r1,c1,e1,hc1,hr1⟩:=ofw.call1 hc0 []
 have other:∀w:Wd,r1=.str w.s→Gb (fun x=>∃t:Tr,x=t.enc∧isAt t∧t.ok m b) (zBa [.r 0,.p (.int m),.p (.int b)] [c0]):=by
  intro w hw;subst hw;obtain⟨r2,c2,e2,hc2,k,rfl,k0,k1⟩:=pb.call1 hc1 [];have ofn:=zNj (l:=[.int 0,.int 0,.int 1,.int (k-b)]) (by simp) (by simp)
  obtain⟨r3,c3,e3,hc3,hr3⟩:=ofn.call1 hc2 [];obtain⟨r4,c4,e4,hc4,x,y,z,rfl,hs⟩:=sb.call1 hc3 [];simp at hr3
  have nn:∃n:Int,r3=.int n ∧ -b≤n∧n≤b:=by
   rcases hr3 with rfl|rfl|rfl
   ·exact⟨0,rfl,∅,∅⟩
   ·exact⟨1,rfl,∅,∅⟩
   ·exact⟨k-b,rfl,∅,∅⟩
  obtain⟨n,rfl,hn⟩:=nn
  conv=>arg 2;simp[zBa,zAG,e1,w.ne,mk,e2,e3,e4]
  rw[zLp];refine⟨hc4,.at w x y z n,?_,trivial,?_⟩
  ·rw[Tr.enc]
  ·rw[Tr.ok];exact⟨hs,hn⟩
 simp at hr1;rcases hr1 with rfl|rfl|rfl|rfl
 ·exact other .ge rfl
 ·exact other .le rfl
 ·exact other .eq rfl
 ·obtain⟨r2,c2,e2,hc2,k,rfl,k0,k1⟩:=p4.call1 hc1 [];obtain⟨r3,c3,e3,hc3,x,y,z,rfl,hs⟩:=sb.call1 hc2 [];have pd:=zCf (n:=2+k) ∅ (zBp ∅ ∅);obtain⟨r4,c4,e4,hc4,n,rfl,n0,n1⟩:=pd.call1 hc3 [];show Gb _ (zBa [.r 0,.p (.int m),.p (.int b)] [c0])
  conv=>arg 2;simp[zBa,zAG,e1,e2,e3,e4]
  rw[zLp];refine⟨hc4,.rest x y z (2+k) n,?_,trivial,?_⟩
  ·rw[Tr.enc]
  ·rw[Tr.ok];exact⟨hs,∅,∅,n0,n1⟩
theorem zKU:∀(l:List Tr),l≠[]→maxI (l.map fun t=>((t.depth:Nat):Int))=((Tr.depths l:Nat):Int)
 |[],h=>absurd rfl h
 |[t],_=>by simp[maxI,Tr.depths]
 |t::u::l,_=>by
  have:=zKU (u::l) (by simp)
  rw[Jk]at this;have e:Tr.depths (t::u::l)=max t.depth (Tr.depths (u::l)):=by rw[Tr.depths]
  rw[Jk,Jk,maxI,this,e]
  ·omega
  ·simp
theorem zJ8:∀(n:Nat) (t:Tr),t.good→t.depth≤n→∀st,zAP (zAv n) [.p t.enc] st=.ok (.p (.int ((t.depth:Nat):Int))) st:=by
 intro n
 induction n with
 |zero=>intro t _ h;cases t<;>rw[Tr.depth]at h<;>omega
 |succ n ih =>
  intro t hg h st;refine Pu.call1 (Pu.of1 ?_) st;cases t with
  |«at» w a b c k=>simp[zAv,zAG,Tr.enc,Tr.depth,w.ne]
  |rest a b c d k=>simp[zAv,zAG,Tr.enc,Tr.depth]
  |no t =>
   rw[Tr.depth]at h;rw[Tr.good]at hg;simp[zAv,zAG,Tr.enc,Tr.depth,ih t hg ∅,maxI];omega
  |op b l =>
   rw[Tr.depth]at h;rw[Tr.enc,zBP,Tr.depth];rw[Tr.good,zAk]at hg;have hne:l≠[]:=fun e=>by subst e;simp at hg
   cases b<;>simp[zAv,zAG,opw,show l.length≤1000000 by omega]
   all_goals rw[zCw (fun t=>.int ((t.depth:Nat):Int)) (fun t mt=>⟨_,zBq _ _,by simp[ih t (hg.2.2 t mt) (by have:=zAi mt;omega)]⟩)]
   all_goals simp[zKU l hne,show 0<l.length by omega]
   all_goals omega
theorem zKi{α β:Type}{f:α→β}:∀ {m k:List β},m.Perm k→∀l:List α,k=l.map f→∃l':List α,m=l'.map f∧l'.Perm l:=by
 intro m k h
 induction h with
 |nil=>intro l e;cases l with
  |nil=>exact⟨[],rfl,.nil⟩
  |cons a l=>cases e
 |cons x h ih=>intro l e;cases l with
  |nil=>cases e
  |cons a l =>
   rw[Jk]at e;obtain⟨e1,e2⟩:=Y2 e;subst e1;obtain⟨l',rfl,p⟩:=ih l e2;exact⟨a::l',rfl,p.cons a⟩
 |swap x y k=>intro l e;cases l with
  |nil=>cases e
  |cons a l=>cases l with
   |nil=>cases e
   |cons b l =>
    rw[Jk,Jk]at e;obtain⟨e1,e2⟩:=Y2 e;obtain⟨e3,e4⟩:=Y2 e2;subst e1 e3 e4;exact⟨b::a::l,rfl,.swap a b l⟩
 |trans h1 h2 ih1 ih2=>intro l e;obtain⟨l2,e2,p2⟩:=ih2 l e;obtain⟨l1,e1,p1⟩:=ih1 l2 e2;exact⟨l1,e1,p1.trans p2⟩
def zMS(m b a:Int) (x:P):Prop:=∃t:Tr,x=t.enc∧t.ok m b∧((t.depth:Nat):Int)≤a+1∧((t.atoms.length:Nat):Int)≤a
theorem isAt.one{t:Tr} (h:isAt t):t.depth=1∧t.atoms.length=1:=by
 cases t with
 |«at» w a b c n=>simp[Tr.depth,Tr.atoms]
 |rest a b c d n=>simp[Tr.depth,Tr.atoms]
 |no t=>exact h.elim
 |op b l=>exact h.elim
theorem zIW{l:List Tr}{k:Nat} (h:∀t∈l,t.depth≤k):Tr.depths l≤k:=by
 induction l with
 |nil=>rw[Tr.depths];omega
 |cons t l ih =>
  rw[Tr.depths]
  have:=h t Jc
  have:=ih fun u mu=>h u (Jg _ mu)
  omega
theorem zKy{l k:List Tr} (p:l.Perm k):(Tr.atomss l).length=(Tr.atomss k).length:=by
 rw[zBr,zBr]
 induction p with
 |nil=>rfl
 |cons x h ih=>simp at ih ⊢;omega
 |swap x y k=>simp;omega
 |trans h1 h2 ih1 ih2=>exact ih1.trans ih2
theorem zRj{m b:Int} (h0:1≤m) (h1:m≤3) (b0:1≤b) (b1:b≤9):∀(n:Nat) (a:Int),1≤a→a≤3→a≤n→Bg (zBs n) [.int a,.int m,.int b] (zMS m b a):=by
 intro n
 induction n with
 |zero=>intro a _ _ h;omega
 |succ n ih =>
  intro a ha0 ha1 han c0 hc0;have ab:=zRp h0 (show m≤100 by omega) b0 (show b≤100 by omega)
  have p4:=zCf (n:=4) ∅ (zBp ∅ ∅)
  have fin:∀(t:Tr) (c:Cell) (x5 x6 x7:Option W),GB c→t.ok m b→((t.depth:Nat):Int)≤a+1→(a=1→t.depth≤1)→((t.atoms.length:Nat):Int)≤a →
    Gb (zMS m b a) (runR (sRet (mIfE (zDV (mTst (mBin (vEqB false) (zAH zAS %[(mVar 0),(mC (.int 4))|0]) (mC (.int 0)))) (mTst (mBin vLt (zAH (zAv 12) %[(mVar 4)|0]) (mC (.int 3))))) (mTup %[(mC (.str "not")),(mVar 4)|0]) (mVar 4))
     [some (.r 0),some (.p (.int a)),some (.p (.int m)),some (.p (.int b)),some (.p t.enc),x5,x6,x7] [c])):=by
   intro t c x5 x6 x7 hc ho hd hd1 hat;have hg:=zNg h1 b1 t.depth t (Jq _) ho;obtain⟨r,c',e,hc',k,rfl,k0,k1⟩:=p4.call1 hc []
   by_cases hk:k=0∧t.depth<3
   ·conv=>arg 2;simp[e,hk.1,zJ8 12 t hg ∅,show((t.depth:Nat):Int)<3 by omega]
    rw[zLp];refine⟨hc',.no t,?_,?_,?_,?_⟩
    ·rw[Tr.enc]
    ·rw[Tr.ok];exact ho
    ·rw[Tr.depth];omega
    ·rw[Tr.atoms];exact hat
   ·have he:Gb (zMS m b a) (.ok (.p t.enc) [c']):=⟨hc',t,rfl,ho,hd,hat⟩
    by_cases hk0:k=0
    ·have:¬((t.depth:Nat):Int)<3:=fun h=>hk ⟨hk0,∅⟩
     conv=>arg 2;simp[e,hk0,zJ8 12 t hg ∅,this]
     exact he
    ·conv=>arg 2;simp[e,hk0]
     exact he
  have atom:∀c,GB c→Gb (zMS m b a) (runR ((sSet 4 (zAH zBa %[(mVar 0),(mVar 2),(mVar 3)|0]) [some (.r 0),some (.p (.int a)),some (.p (.int m)),some (.p (.int b)),none,none,none,none] [c]).then
    (sRet (mIfE (zDV (mTst (mBin (vEqB false) (zAH zAS %[(mVar 0),(mC (.int 4))|0]) (mC (.int 0)))) (mTst (mBin vLt (zAH (zAv 12) %[(mVar 4)|0]) (mC (.int 3))))) (mTup %[(mC (.str "not")),(mVar 4)|0]) (mVar 4))))):=by
   intro c hc;obtain⟨r,c1,e,hc1,t,rfl,ht,ho⟩:=ab.call2 hc []
   conv=>arg 2;arg 1;arg 1;simp[e]
   rw[SR.then_nx]
   have:=ht.one
   exact fin t c1 none none none hc1 ho ∅ ∅ ∅
  show Gb _ (zBs (n+1) [.r 0,.p (.int a),.p (.int m),.p (.int b)] [c0])
  conv=>arg 2;simp[zBs,zAG,-zCt]
  by_cases h2:a<2
  ·conv=>arg 2;arg 1;rw[zCt];arg 1;simp[h2,-zKP]
   exact atom c0 hc0
  ·obtain⟨r1,c1,e1,hc1,k1,rfl,k10,k11⟩:=p4.call1 hc0 []
   by_cases hk:k1=0
   ·conv=>arg 2;arg 1;rw[zCt];arg 1;simp[h2,e1,hk,-zKP]
    exact atom c1 hc1
   ·have pa:=zCf (n:=a-1) ∅ (zBp ∅ ∅);obtain⟨r2,c2,e2,hc2,k2,rfl,k20,k21⟩:=pa.call1 hc1 [];have it:=ih (a-(1+k2)) ∅ ∅ ∅;obtain⟨r3,c3,e3,hc3,t0,rfl,t0o,t0d,t0a⟩:=it.call3 hc2 [];obtain⟨r4,c4,e4,hc4,t1,rfl,t1t,t1o⟩:=ab.call2 hc3 [];have t1one:=t1t.one
    have done:∀(l:List Tr) (c:Cell) (x:Option W),GB c→2≤l.length→l.length≤3→(∀t∈l,t.ok m b)→(∀t∈l,((t.depth:Nat):Int)≤a)→(((Tr.atomss l).length:Nat):Int)≤a →
      Gb (zMS m b a) (runR ((sSet 4 (zAJ zCI %[(mBin vAdd (mLst %[(zAH zCM %[(mVar 0),(mLst %[(mC (.str "and")),(mC (.str "or"))|0])|0])|0]) (zAH zCn %[(mVar 0),(mVar 6)|0]))|0]) [some (.r 0),some (.p (.int a)),some (.p (.int m)),some (.p (.int b)),none,some (.p (.int (1+k2))),some (.p (.lst (l.map Tr.enc))),x] [c]).then
       (sRet (mIfE (zDV (mTst (mBin (vEqB false) (zAH zAS %[(mVar 0),(mC (.int 4))|0]) (mC (.int 0)))) (mTst (mBin vLt (zAH (zAv 12) %[(mVar 4)|0]) (mC (.int 3))))) (mTup %[(mC (.str "not")),(mVar 4)|0]) (mVar 4))))):=by
     intro l c x hc hl2 hl3 hok hdep hats;obtain⟨r5,c5,e5,hc5,hr5⟩:=(zNj (l:=[.str (Str.ofString "and"),.str (Str.ofString "or")]) (by simp) (by simp)).call1 hc []
     obtain⟨r6,c6,e6,hc6,mm,rfl,hp⟩:=(zNo (l:=l.map Tr.enc) (by rw[Jb];omega)).call1 hc5 []
     obtain⟨l',rfl,hp'⟩:=zKi hp l rfl
     have hw:∃w:Bool,r5=.str (opw w):=by
      simp at hr5;rcases hr5 with rfl|rfl
      ·exact⟨true,rfl⟩
      ·exact⟨false,rfl⟩
     obtain⟨w,rfl⟩:=hw;have hl':=hp'.length_eq
     conv=>arg 2;arg 1;arg 1;simp[e5,e6,show 1+l'.length≤1000000 by omega]
     rw[SR.then_nx]
     have:=fin (.op w l') c6 (some (.p (.int (1+k2)))) (some (.p (.lst (l.map Tr.enc)))) x hc6 ?_ ?_ ?_ ?_
     ·rw[Tr.enc,zBP]at this;exact this
     ·rw[Tr.ok,zJl];exact⟨∅,∅,fun t mt=>hok t (hp'.mem_iff.mp mt)⟩
     ·rw[Tr.depth]
      have:Tr.depths l'≤a.toNat:=zIW fun t mt=>by have:=hdep t (hp'.mem_iff.mp mt);omega
      omega
     ·intro h;omega
     ·rw[Tr.atoms,zKy hp'];exact hats
    have ksm:k2=0∨k2=1:=by omega
    rcases ksm with rfl|rfl
    ·rw[show(1:Int)+0=1 from rfl]at e3
     have r2:rngL 0 2=[.p (.int 0),.p (.int 1)]:=rfl
     conv=>arg 2;arg 1;rw[zCt];arg 1;simp[h2,e1,hk,-zKP,-zCt]
     conv=>arg 2;arg 1;arg 1;rw[zCt];arg 1;simp[e2]
     rw[SR.then_nx]
     conv=>arg 2;arg 1;arg 1;rw[zCt];arg 1;simp[r2,e3,e4]
     rw[SR.then_nx];exact done [t0,t1] c4 none hc4 (by simp) (by simp) (by simp[t0o,t1o]) (by simp;omega) (by simp[Tr.atomss];omega)
    ·rw[show(1:Int)+1=2 from rfl]at e3
     have r3:rngL 0 3=[.p (.int 0),.p (.int 1),.p (.int 2)]:=rfl;obtain⟨r5,c5,e5,hc5,t2,rfl,t2t,t2o⟩:=ab.call2 hc4 [];have t2one:=t2t.one
     conv=>arg 2;arg 1;rw[zCt];arg 1;simp[h2,e1,hk,-zKP,-zCt]
     conv=>arg 2;arg 1;arg 1;rw[zCt];arg 1;simp[e2]
     rw[SR.then_nx]
     conv=>arg 2;arg 1;arg 1;rw[zCt];arg 1;simp[r3,e3,e4,e5]
     rw[SR.then_nx];exact done [t0,t1,t2] c5 none hc5 (by simp) (by simp) (by simp[t0o,t1o,t2o]) (by simp;omega) (by simp[Tr.atomss];omega)
section
open Y YZ
open SX (S S_inj S_len S_cat S_beq S_tl)
def numN(i:Int):List Nat:=if i<0 then[45,48+i.natAbs]else[48+i.natAbs]
theorem num9{i:Int} (h : -9≤i) (h2:i≤9):i = -9∨i = -8∨i = -7∨i = -6∨i = -5∨i = -4∨i = -3∨i = -2∨i = -1∨i=0∨i=1∨i=2∨i=3∨i=4∨i=5∨i=6∨i=7∨i=8∨i=9:=by omega
theorem zDQ{i:Int} (h : -9≤i) (h2:i≤9):Str.ofString (toString i)=S (numN i):=by
 rcases num9 h h2 with rfl|rfl|rfl|rfl|rfl|rfl|rfl|rfl|rfl|rfl|rfl|rfl|rfl|rfl|rfl|rfl|rfl|rfl|rfl<;>decide +kernel
def trmN(f:Int) (l:Nat):List Nat:=if f.natAbs=1 then[l]else numN (f.natAbs:Int)++[42,l]
def stpN(w:List Nat) (f:Int) (l:Nat):List Nat:=if f=0 then w else if w=[]then(if f<0 then[45]else[])++trmN f l else w++([32,if f<0 then 45 else 43,32]++trmN f l)
def sumN(a b c:Int):List Nat:=stpN (stpN (stpN [] a 97) b 98) c 99
def stW(ws:List (List Nat)) (f:Int) (l:Nat):List (List Nat):=if f=0 then ws else if ws=[]then[(if f<0 then[45]else[])++trmN f l]else ws++[[if f<0 then 45 else 43],trmN f l]
def sumW(a b c:Int):List (List Nat):=stW (stW (stW [] a 97) b 98) c 99
def i7:List Int:=[-3,-2,-1,0,1,2,3]
theorem mem7{a:Int} (h : -3≤a) (h2:a≤3):a∈i7:=by
 have:a = -3∨a = -2∨a = -1∨a=0∨a=1∨a=2∨a=3:=by omega
 rcases this with rfl|rfl|rfl|rfl|rfl|rfl|rfl<;>decide
theorem zRf:∀a∈i7,∀b∈i7,∀c∈i7,a=0∧b=0∧c=0∨(sumN a b c=TL.joinL [32] (sumW a b c)∧sumW a b c≠[]∧(∀w∈sumW a b c,32∉w∧w≠[])∧40∉sumN a b c∧41∉sumN a b c∧(sumN a b c).length≤24):=by decide +kernel
theorem zDr{a b c:Int} (h:F3 a b c):sumN a b c=TL.joinL [32] (sumW a b c)∧sumW a b c≠[]∧(∀w∈sumW a b c,32∉w∧w≠[])∧40∉sumN a b c∧41∉sumN a b c∧(sumN a b c).length≤24:=by
 obtain⟨h1,h2,h3,h4⟩:=h;exact(zRf a (mem7 h1.1 h1.2) b (mem7 h2.1 h2.2) c (mem7 h3.1 h3.2)).resolve_left h4
theorem k_e:Str.ofString "" = S []:=by decide +kernel
theorem k_sp:Str.ofString " " = S [32]:=by decide +kernel
theorem k_mi:Str.ofString "-" = S [45]:=by decide +kernel
theorem k_pl:Str.ofString "+" = S [43]:=by decide +kernel
theorem k_st:Str.ofString "*" = S [42]:=by decide +kernel
theorem k_op:Str.ofString "(" = S [40]:=by decide +kernel
theorem k_cl:Str.ofString ")" = S [41]:=by decide +kernel
theorem zNv:Str.ofString "not " = S [110,111,116,32]:=by decide +kernel
theorem k_mod:Str.ofString " mod " = S [32,109,111,100,32]:=by decide +kernel
theorem k_eq:Str.ofString " = " = S [32,61,32]:=by decide +kernel
theorem k_or:Str.ofString "or" = S [111,114]:=by decide +kernel
theorem zI8:Str.ofString "and" = S [97,110,100]:=by decide +kernel
theorem k_a:Str.ofString "a" = S [97]:=by decide +kernel
theorem k_b:Str.ofString "b" = S [98]:=by decide +kernel
theorem k_c:Str.ofString "c" = S [99]:=by decide +kernel
theorem zCx:Str.empty=S []:=rfl
theorem k_sm:Str.ofString " - " = S [32,45,32]:=by decide +kernel
theorem zIq:Str.ofString " + " = S [32,43,32]:=by decide +kernel
theorem k_nt:Str.ofString "not" = S [110,111,116]:=by decide +kernel
theorem k_ge:Str.ofString ">=" = S [62,61]:=by decide +kernel
theorem k_le:Str.ofString "<=" = S [60,61]:=by decide +kernel
theorem zGV:Str.ofString "=" = S [61]:=by decide +kernel
theorem k_mo:Str.ofString "mod" = S [109,111,100]:=by decide +kernel
theorem S_eq{a b:List Nat}:S a=S b↔a=b:=⟨S_inj,fun h=>by rw[h]⟩
theorem zBO{f:Int} (h : -3≤f) (h2:f≤3) (s:List Nat) (n:Nat):(stpN s f n).length≤s.length+8:=by
 have h1:(numN (f.natAbs:Int)).length≤2:=by unfold numN;split<;>simp
 have h3:(trmN f n).length≤4:=by unfold trmN;split<;>simp<;>omega
 unfold stpN;split
 ·omega
 ·split
  ·split<;>simp<;>omega
  ·simp;omega
theorem zGh{a b c:Int} (h:F3 a b c) (st:List Cell):zAP zCD [.p (T3 a b c)] st=.ok (.p (.str (S (sumN a b c)))) st:=by
 refine Pu.call1 (Pu.of1 ?_) st;obtain⟨h1,h2,h3,_⟩:=id h;have h24:=(zDr h).2.2.2.2.2;simp[zCD,zAG,-zBQ];refine zBg (fun r=>Gv (runR (r.then _)) (.str (S (sumN a b c)))) (fun i σ st=>∃(w:List Nat) (x y z u:Option W),σ=[some (.p (T3 a b c)),some (.p (.str (S w))),x,y,z,u]∧st=[]∧w.length≤8*i∧w=(if i=0 then[]else if i=1 then stpN [] a 97 else if i=2 then stpN (stpN [] a 97) b 98 else sumN a b c)) ?_ ?_ ?_
 ·exact⟨[],_,_,_,_,by rw[k_e],rfl,by simp,rfl⟩
 ·rintro i w σ st hw ⟨s,x,y,z,u,rfl,rfl,hl,hs⟩;have hi:i<3:=(Ja.mp hw).1
  have:∃f l n,w=.p (.tup [.int f,.str (Str.ofString l)]) ∧ -3≤f∧f≤3∧l.length=1∧Str.ofString l=S [n]∧stpN s f n=(if i+1=0 then[]else if i+1=1 then stpN [] a 97 else if i+1=2 then stpN (stpN [] a 97) b 98 else sumN a b c):=by
   have:i=0∨i=1∨i=2:=by omega
   rcases this with rfl|rfl|rfl<;>simp at hw hs<;>subst hw<;>subst hs
   ·exact⟨a, "a",97,rfl,h1.1,h1.2,!0,k_a,rfl⟩
   ·exact⟨b, "b",98,rfl,h2.1,h2.2,!0,k_b,rfl⟩
   ·exact⟨c, "c",99,rfl,h3.1,h3.2,!0,k_c,rfl⟩
  obtain⟨f,l,n,rfl,f1,f2,hl1,kl,hst⟩:=this;rw[←hst];clear hst hs
  by_cases hf:f=0
  ·conv=>arg 3;simp[hf]
   exact⟨_,_,_,_,_,rfl,rfl,∅,by simp[stpN,hf]⟩
  ·have fin:∀(z0:Str) (x y z u:Option W) (st:List Cell),z0=S (stpN s f n)→st=[]→(stpN s f n).length≤8*(i+1)→∃(w:List Nat) (x' y' z' u':Option W),([some (.p (T3 a b c)),some (.p (.str z0)),x,y,z,u]:Sg)=[some (.p (T3 a b c)),some (.p (.str (S w))),x',y',z',u']∧st=[]∧w.length≤8*(i+1)∧w=stpN s f n :=
    fun z0 x y z u st e1 e2 e3=>⟨_,x,y,z,u,by rw[e1],e2,e3,rfl⟩
   by_cases hn:f<0
   ·have nt:=zBe (i := -f) ∅ ∅;have nn:=zDQ (i := -f) ∅ ∅;simp at nt nn;have e1:((f.natAbs:Nat):Int) = -f:=by omega
    by_cases hx:f.natAbs=1
    ·have hx2 : -f=1:=by omega
     by_cases hs:s=[]
     ·conv=>arg 3;simp[hf,hn,hs,hx2,hl1,nt.2,sl1,sl2,sl3,sl4,k_e,S_eq,kl]
      repeat (rw[Jm];rotate_left;(try simp[S_len]);(try omega))
      refine fin _ _ _ _ _ _ ?_ rfl (Jt (zBO f1 f2 s n) ∅);simp[stpN,trmN,hf,hn,hs,hx,e1,kl,zCx,k_sp,k_mi,k_pl,k_st,k_e,S_cat]
     ·conv=>arg 3;simp[hf,hn,hs,hx2,hl1,nt.2,sl1,sl2,sl3,sl4,k_e,S_eq,kl]
      repeat (rw[Jm];rotate_left;(try simp[S_len]);(try omega))
      refine fin _ _ _ _ _ _ ?_ rfl (Jt (zBO f1 f2 s n) ∅);simp[stpN,trmN,hf,hn,hs,hx,e1,kl,zCx,k_sp,k_mi,k_pl,k_st,k_e,S_cat]
    ·have hx2:¬ -f=1:=by omega
     by_cases hs:s=[]
     ·conv=>arg 3;simp[hf,hn,hs,hx2,hl1,nt.2,sl1,sl2,sl3,sl4,k_e,S_eq,kl]
      repeat (rw[Jm];rotate_left;(try simp[S_len]);(try omega))
      refine fin _ _ _ _ _ _ ?_ rfl (Jt (zBO f1 f2 s n) ∅);simp[stpN,trmN,hf,hn,hs,hx,e1,kl,zCx,k_sp,k_mi,k_pl,k_st,k_e,S_cat,nn]
     ·conv=>arg 3;simp[hf,hn,hs,hx2,hl1,nt.2,sl1,sl2,sl3,sl4,k_e,S_eq,kl]
      repeat (rw[Jm];rotate_left;(try simp[S_len]);(try omega))
      refine fin _ _ _ _ _ _ ?_ rfl (Jt (zBO f1 f2 s n) ∅);simp[stpN,trmN,hf,hn,hs,hx,e1,kl,zCx,k_sp,k_mi,k_pl,k_st,k_e,S_cat,nn]
   ·have nt:=zBe (i:=f) ∅ ∅;have nn:=zDQ (i:=f) ∅ ∅;simp at nt nn;have e1:((f.natAbs:Nat):Int)=f:=by omega
    by_cases hx:f.natAbs=1
    ·have hx2:f=1:=by omega
     by_cases hs:s=[]
     ·conv=>arg 3;simp[hf,hn,hs,hx2,hl1,nt.2,sl1,sl2,sl3,sl4,k_e,S_eq,kl]
      repeat (rw[Jm];rotate_left;(try simp[S_len]);(try omega))
      refine fin _ _ _ _ _ _ ?_ rfl (Jt (zBO f1 f2 s n) ∅);simp[stpN,trmN,hf,hn,hs,hx,e1,kl,zCx,k_sp,k_mi,k_pl,k_st,k_e,S_cat]
     ·conv=>arg 3;simp[hf,hn,hs,hx2,hl1,nt.2,sl1,sl2,sl3,sl4,k_e,S_eq,kl]
      repeat (rw[Jm];rotate_left;(try simp[S_len]);(try omega))
      refine fin _ _ _ _ _ _ ?_ rfl (Jt (zBO f1 f2 s n) ∅);simp[stpN,trmN,hf,hn,hs,hx,e1,kl,zCx,k_sp,k_mi,k_pl,k_st,k_e,S_cat]
    ·have hx2:¬f=1:=by omega
     by_cases hs:s=[]
     ·conv=>arg 3;simp[hf,hn,hs,hx2,hl1,nt.2,sl1,sl2,sl3,sl4,k_e,S_eq,kl]
      repeat (rw[Jm];rotate_left;(try simp[S_len]);(try omega))
      refine fin _ _ _ _ _ _ ?_ rfl (Jt (zBO f1 f2 s n) ∅);simp[stpN,trmN,hf,hn,hs,hx,e1,kl,zCx,k_sp,k_mi,k_pl,k_st,k_e,S_cat,nn]
     ·conv=>arg 3;simp[hf,hn,hs,hx2,hl1,nt.2,sl1,sl2,sl3,sl4,k_e,S_eq,kl]
      repeat (rw[Jm];rotate_left;(try simp[S_len]);(try omega))
      refine fin _ _ _ _ _ _ ?_ rfl (Jt (zBO f1 f2 s n) ∅);simp[stpN,trmN,hf,hn,hs,hx,e1,kl,zCx,k_sp,k_mi,k_pl,k_st,k_e,S_cat,nn]
 ·rintro σ st ⟨s,x,y,z,u,rfl,rfl,hl,hs⟩;simp at hs hl ⊢;rw[hs]
def sgN:Wd→List Nat
 | .ge=>[62,61]
 | .le=>[60,61]
 | .eq=>[61]
def opN(b:Bool):List Nat:=if b=true then[97,110,100]else[111,114]
def inn(b:Bool):Tr→Bool
 | .op b' _=>b || !b'
 |_=>false
def parN(k:Bool) (l:List Nat):List Nat:=if k=true then 40::(l++[41])else l
mutual
def Tr.txN:Tr→List Nat
 | .at w a b c n=>sumN a b c++([32]++(sgN w++([32]++numN n)))
 | .rest a b c d n=>sumN a b c++([32,109,111,100,32]++(numN d++([32,61,32]++numN n)))
 | .no t=>[110,111,116,32]++parN (inn true t) t.txN
 | .op b l=>TL.joinL ([32]++(opN b++[32])) (Tr.txNs b l)
def Tr.txNs(b:Bool):List Tr→List (List Nat)
 |[]=>[]
 |t::l=>parN (inn b t) t.txN::Tr.txNs b l
end
theorem zEc(b:Bool):∀l:List Tr,Tr.txNs b l=l.map fun t=>parN (inn b t) t.txN
 |[]=>rfl
 |t::l=>by rw[Tr.txNs,zEc b l];rfl
theorem zEZ(t:Tr):(inn true t=true↔Str.ofString "and" = t.word∨Str.ofString "or" = t.word)∧(inn false t=true↔Str.ofString "or" = t.word):=by
 cases t with
 |op b l=>cases b<;>simp[inn,Tr.word,opw]<;>decide +kernel
 |«at» w a b c n=>cases w<;>simp[inn,Tr.word,Wd.s]<;>decide +kernel
 |rest a b c d n=>simp[inn,Tr.word]<;>decide +kernel
 |no t=>simp[inn,Tr.word]<;>decide +kernel
theorem zML{F:FM}{x:P}{s u:Str} (h1:∀st,zAP F [.p x] st=.ok (.p (.str s)) st) (h2:∀st,zAP F [.p x] st=.ok (.p (.str u)) st):s=u:=by
 have:=(h1 []).symm.trans (h2 [])
 injection this with e
 injection e with e
 injection e
theorem zEI:∀(n:Nat) (t:Tr),t.good→t.depth≤n→n≤5→∀m,t.depth≤m→∀st,zAP (zAR m) [.p t.enc] st=.ok (.p (.str (S t.txN))) st:=by
 intro n
 induction n with
 |zero=>intro t _ h;cases t<;>rw[Tr.depth]at h<;>omega
 |succ n ih =>
  intro t hg h h5 m hm;have tbn:tb n≤20000:=Jt (zG5 (show n≤4 by omega)) (!0)
  have len:∀u:Tr,u.good→u.depth≤n→u.depth≤m-1→(S u.txN).length≤20000:=fun u ug ud um=>by
   obtain⟨s,hs,e⟩:=zEK n u ug ud ∅ (m-1) um;rw[zML (fun st=>ih u ug ud ∅ (m-1) um st) e]
   omega
  obtain⟨m,rfl⟩:∃k,m=k+1:=⟨m-1,by cases t<;>rw[Tr.depth]at hm<;>omega⟩
  intro st;refine Pu.call1 (Pu.of1 ?_) st;cases t with
  |«at» w a b c k =>
   rw[Tr.good]at hg;have e:=fun st=>zGh hg.1 st
   have l24:=(zDr hg.1).2.2.2.2.2;have nt:=zBe hg.2.1 hg.2.2;have nn:=zDQ hg.2.1 hg.2.2;simp at nt nn;rw[Tr.enc];have hv:zAf.lookup w.s=some (S (sgN w)):=by cases w<;>decide +kernel
   have hvl:(sgN w).length≤2:=by cases w<;>decide
   simp[zAR,zAG,w.ne,hv,e,nt.2,sl1,nn,zCx,k_sp,S_cat,S_len,Tr.txN]
   have:(numN k).length≤2:=by unfold numN;split<;>simp
   omega
  |rest a b c d k =>
   rw[Tr.good]at hg;have e:=fun st=>zGh hg.1 st
   have l24:=(zDr hg.1).2.2.2.2.2;have nt:=zBe (i:=d) ∅ ∅;have nt2:=zBe (i:=k) ∅ ∅;have nn:=zDQ (i:=d) ∅ ∅;have nn2:=zDQ (i:=k) ∅ ∅;simp at nt nt2 nn nn2;rw[Tr.enc]
   have:∀j,(numN j).length≤2:=fun j=>by unfold numN;split<;>simp
   have h1:=this d;have h2:=this k;simp[zAR,zAG,e,nt.2,nt2.2,nn,nn2,zCx,k_mod,k_eq,S_cat,S_len,Tr.txN];omega
  |no t =>
   rw[Tr.depth]at h hm;rw[Tr.good]at hg;have e:=fun st=>ih t hg ∅ ∅ m ∅ st
   have hl:=len t hg ∅ ∅;rw[S_len]at hl;have iw:=(zEZ t).1;rw[Tr.enc];rw[t.enc_eq]at e ⊢
   by_cases hx:inn true t=true
   ·simp[zAR,zAG,zKf,zBH,zCQ,e,iw.mp hx,zCx,k_op,k_cl,zNv,S_cat,S_len,Tr.txN,parN,hx];omega
   ·have hn:=mt iw.mpr hx;simp[zAR,zAG,zKf,zBH,zCQ,e,hn,zCx,k_op,k_cl,zNv,S_cat,S_len,Tr.txN,parN,hx];omega
  |op b l =>
   rw[Tr.depth]at h hm;rw[Tr.enc,zBP];rw[Tr.good,zAk]at hg
   have hf:∀t∈l,(t.txN).length≤20000∧∀st,zAP (zAR m) [.p t.enc] st=.ok (.p (.str (S t.txN))) st:=fun t mt=>by
    have dl:=zAi mt;have hl:=len t (hg.2.2 t mt) ∅ ∅;rw[S_len]at hl;exact⟨hl,fun st=>ih t (hg.2.2 t mt) ∅ ∅ m ∅ st⟩
   have hsum:∀(k:Tr→List Nat),(∀t∈l,(k t).length≤20002)→(l.map fun t=>(k t).length).sum≤l.length*20002:=by
    intro k hk;clear hf ih h hm hg
    induction l with
    |nil=>simp
    |cons t l ih =>
     have:=ih fun t mt=>hk t (Jg _ mt)
     have h2:=hk t Jc;rw[Jk,JM,JJ,Yo];omega
   have h4:l.length*20002≤4*20002:=V0 _ hg.2.1;have h5:l.length*5≤20:=by omega
   have fin:∀(b:Bool),(∀t∈l,(parN (inn b t) t.txN).length≤20002)∧∀(w:List Nat),Txt.join (S w) (l.map fun t=>S (parN (inn b t) t.txN))=S (TL.joinL w (Tr.txNs b l)):=fun b =>
    ⟨fun t mt=>by have:=(hf t mt).1;unfold parN;split<;>simp<;>omega,fun w=>by rw[←SX.join_S,zEc,Jy];rfl⟩
   cases b
   ·simp[zAR,zAG,opw,lk_or,show l.length<16384 by omega,show l.length≤1000000 by omega]
    have hsm:=hsum _ (fin false).1
    rw[zCw (fun t=>.str (S (parN (inn false t) t.txN))) (fun t mt=>by
     have q:=hf t mt;have iw:=(zEZ t).2;refine⟨_,zBq _ _,?_⟩
     by_cases hw:inn false t=true
     ·simp[t.ix0,q.2,iw.mp hw,zCx,k_op,k_cl,S_cat,S_len,parN,hw]
      repeat (rw[Jm ∅])
     ·have hn:=fun z=>hw (iw.mpr z)
      simp[t.ix0,q.2,show ¬(Str.ofString "or" = t.word)from hn,parN,hw])]
    have j:=(fin false).2 ([32]++([111,114]++[32]));simp[zCx,k_sp,k_or,k_nt,S_eq,S_cat,S_len,Tr.txN,opN]at j ⊢;simp only[Yj,S_len]at j ⊢;rw[j];simp;omega
   ·simp[zAR,zAG,opw,zPW,show l.length<16384 by omega,show l.length≤1000000 by omega]
    have hsm:=hsum _ (fin true).1
    rw[zCw (fun t=>.str (S (parN (inn true t) t.txN))) (fun t mt=>by
     have q:=hf t mt;have iw:=(zEZ t).1;refine⟨_,zBq _ _,?_⟩
     by_cases hw:inn true t=true
     ·simp[t.ix0,q.2,iw.mp hw,zCx,k_op,k_cl,S_cat,S_len,parN,hw]
      repeat (rw[Jm ∅])
     ·have hn:=fun z=>hw (iw.mpr z)
      simp[t.ix0,q.2,show ¬(Str.ofString "and" = t.word∨Str.ofString "or" = t.word)from hn,parN,hw])]
    have j:=(fin true).2 ([32]++([97,110,100]++[32]));simp[zCx,k_sp,zI8,k_nt,S_eq,S_cat,S_len,Tr.txN,opN]at j ⊢;simp only[Yj,S_len]at j ⊢;rw[j];simp;omega
end
section
open Y YZ
open SX (S S_inj S_len S_cat S_beq S_tl)
def rp(c:Nat) (z l:List Nat):List Nat:=l.flatMap fun d=>if d=c then z else[d]
theorem zBv(z p:List Nat){l:List (List Nat)} (h:l≠[]):TL.joinL z (p::l)=p++(z++TL.joinL z l):=by
 cases l with
 |nil=>exact absurd rfl h
 |cons q r=>rfl
theorem zGU(z:List Nat):∀ {a b:List (List Nat)},a≠[]→b≠[]→TL.joinL z (a++b)=TL.joinL z a++(z++TL.joinL z b)
 |[],_,h,_=>absurd rfl h
 |[p],b,_,hb=>by rw[Yl,zBv z p hb];rfl
 |p::q::r,b,_,hb=>by
  have ih:=zGU z (a:=q::r) (b:=b) (by simp) hb
  rw[List.cons_append,zBv z p (by simp),ih,zBv z p (by simp)]
  simp
theorem zPz(c:Nat):∀(acc l:List Nat),TL.spl [c] 0 acc l≠[]
 |acc,[]=>by rw[YN];simp
 |acc,d::l=>by
  by_cases h:TL.pre [c] (d::l)=true
  ·rw[YO h];simp
  ·rw[Yz (by simpa using h)];exact zPz c _ l
theorem zH1(c:Nat) (z:List Nat):∀(acc l:List Nat),TL.joinL z (TL.spl [c] 0 acc l)=acc++rp c z l
 |acc,[]=>by rw[YN];simp[rp,TL.joinL]
 |acc,d::l=>by
  have hp:TL.pre [c] (d::l)=(d==c):=by
   unfold TL.pre
   by_cases h:d=c<;>simp[h]
  by_cases h:d=c
  ·rw[YO (by rw[hp];simpa using h)]
   show TL.joinL z (acc::TL.spl [c] 0 [] l)=_;rw[zBv z acc (zPz c _ _)];show acc++(z++TL.joinL z (TL.spl [c] 0 [] l))=_;rw[zH1 c z [] l];simp[rp,h]
  ·rw[Yz (by rw[hp];simpa using h),zH1 c z _ l]
   simp[rp,h]
theorem zKD{c:Nat} (hc:c<256) (a z:List Nat):Txt.replace (S a) (S [c]) (S z)=S (rp c z a):=by
 have e:Txt.replace (S a) (S [c]) (S z)=Str.join (S z) (Txt.split (S a) (S [c])):=PySem.StrLaws.replace_one (S a) (S z) c;rw[e,SX.split_S (by simp) (by simp[hc]),←join_eq,SX.join_S,zH1]
 simp
def rep2(l:List Nat):List Nat:=rp 41 [32,41] (rp 40 [40,32] l)
theorem rp_app(c:Nat) (z a b:List Nat):rp c z (a++b)=rp c z a++rp c z b:=by simp[rp]
theorem zGF(a b:List Nat):rep2 (a++b)=rep2 a++rep2 b:=by simp[rep2,rp_app]
theorem zQP{c:Nat}{z:List Nat}:∀ {l:List Nat},c∉l→rp c z l=l
 |[],_=>rfl
 |d::l,h=>by
  have h1:¬d=c:=fun e=>h (by rw[e];exact Jc)
  have:=zQP (c:=c) (z:=z) (l:=l) fun m=>h (Jg _ m)
  unfold rp at this ⊢;simp[h1,this]
theorem zNA{l:List Nat} (h1:40∉l) (h2:41∉l):rep2 l=l:=by
 unfold rep2;rw[zQP h1,zQP h2]
theorem zOy(l:List Nat):rep2 (40::(l++[41]))=[40,32]++(rep2 l++[32,41]):=by
 have e:(40::(l++[41]):List Nat)=[40]++(l++[41]):=rfl;rw[e,zGF,zGF];rfl
def parW(k:Bool) (l:List (List Nat)):List (List Nat):=if k=true then[40]::(l++[[41]])else l
def wj(w:List Nat):List (List (List Nat))→List (List Nat)
 |[]=>[]
 |[x]=>x
 |x::y::l=>x++(w::wj w (y::l))
mutual
def Tr.wds:Tr→List (List Nat)
 | .at w a b c n=>sumW a b c++[sgN w,numN n]
 | .rest a b c d n=>sumW a b c++[[109,111,100],numN d,[61],numN n]
 | .no t=>[110,111,116]::parW (inn true t) t.wds
 | .op b l=>wj (opN b) (Tr.wdss b l)
def Tr.wdss(b:Bool):List Tr→List (List (List Nat))
 |[]=>[]
 |t::l=>parW (inn b t) t.wds::Tr.wdss b l
end
theorem zDe(b:Bool):∀l:List Tr,Tr.wdss b l=l.map fun t=>parW (inn b t) t.wds
 |[]=>rfl
 |t::l=>by rw[Tr.wdss,zDe b l];rfl
structure Wds (l:List Nat) (ws:List (List Nat)):Prop where
 eq:rep2 l=TL.joinL [32] ws
 ne:ws≠[]
 no:∀w∈ws,32∉w
theorem Wds.cat{a b:List Nat}{x y:List (List Nat)} (h:Wds a x) (g:Wds b y):Wds (a++([32]++b)) (x++y) :=
 ⟨by rw[zGF,zGF,h.eq,g.eq,zGU _ h.ne g.ne];rfl,by simp[h.ne],fun w m=>by
  rcases JC.mp m with q|q
  ·exact h.no w q
  ·exact g.no w q⟩
theorem Wds.one{a:List Nat} (h1:40∉a) (h2:41∉a) (h3:32∉a):Wds a [a]:=⟨by rw[zNA h1 h2];rfl,by simp,fun w m=>by
 have:w=a:=by simpa using m
 rw[this];exact h3⟩
theorem Wds.par{a:List Nat}{x:List (List Nat)} (h:Wds a x) (k:Bool):Wds (parN k a) (parW k x):=by
 cases k with
 |false=>exact h
 |true =>
  refine⟨?_,by simp[parW],fun w m=>?_⟩
  ·show rep2 (40::(a++[41]))=TL.joinL [32] ([40]::(x++[[41]]));rw[zOy,h.eq,zBv _ _ (by simp),zGU _ h.ne (by simp)]
   simp[TL.joinL]
  ·have m:w∈[40]::(x++[[41]]):=m;rcases Jr.mp m with q|q
   ·rw[q];decide
   ·rcases JC.mp q with q|q
    ·exact h.no w q
    ·have:w=[41]:=by simpa using q
     rw[this];decide
inductive All2 {α β:Type} (R:α→β→Prop):List α→List β→Prop where
 |nil:All2 R [] []
 |cons {a:α}{b:β}{l₁:List α}{l₂:List β} (h:R a b) (r:All2 R l₁ l₂):All2 R (a::l₁) (b::l₂)
theorem Wds.join{w:List Nat} (h1:40∉w) (h2:41∉w) (h3:32∉w):∀ {l:List (List Nat)}{ws:List (List (List Nat))},l≠[]→All2 Wds l ws→Wds (TL.joinL ([32]++(w++[32])) l) (wj w ws)
 |[],_,h,_=>absurd rfl h
 |[a],_,_,.cons h .nil=>h
 |a::b::l,_,_,.cons (b:=x) h (.cons (b:=y) (l₂:=ys) g r)=>by
  have ih:=Wds.join h1 h2 h3 (l:=b::l) (by simp) (.cons g r)
  have:=h.cat ((Wds.one h1 h2 h3).cat ih)
  rw[zBv _ _ (by simp)]
  simpa[wj]using this
theorem zJj(i:Int):Wds (numN i) [numN i]:=by
 refine Wds.one ?_ ?_ ?_<;>unfold numN<;>split<;>simp<;>omega
theorem zPY{a b c:Int} (h:F3 a b c):Wds (sumN a b c) (sumW a b c) :=
 have q:=zDr h
 ⟨by rw[zNA q.2.2.2.1 q.2.2.2.2.1];exact q.1,q.2.1,fun w m=>(q.2.2.1 w m).1⟩
theorem sg_wd(w:Wd):Wds (sgN w) [sgN w]:=by refine Wds.one ?_ ?_ ?_<;>cases w<;>decide
theorem op_fr(b:Bool):40∉opN b∧41∉opN b∧32∉opN b:=by cases b<;>decide
theorem zNB:∀(n:Nat) (t:Tr),t.depth≤n→t.good→Wds t.txN t.wds
 |0,t,h,_=>by cases t<;>rw[Tr.depth]at h<;>omega
 |n+1,.at w a b c k,_,hg=>by
  rw[Tr.good]at hg;rw[Tr.txN,Tr.wds];exact(zPY hg.1).cat ((sg_wd w).cat (zJj k))
 |n+1,.rest a b c d k,_,hg=>by
  rw[Tr.good]at hg;rw[Tr.txN,Tr.wds]
  have:=(zPY hg.1).cat ((Wds.one (a:=[109,111,100]) (!0) (!0) (!0)).cat ((zJj d).cat ((Wds.one (a:=[61]) (!0) (!0) (!0)).cat (zJj k))))
  simpa using this
 |n+1,.no t,h,hg=>by
  rw[Tr.depth]at h;rw[Tr.good]at hg;rw[Tr.txN,Tr.wds]
  have:=(Wds.one (a:=[110,111,116]) (!0) (!0) (!0)).cat ((zNB n t ∅ hg).par (inn true t))
  simpa using this
 |n+1,.op b l,h,hg=>by
  rw[Tr.depth]at h;rw[Tr.good,zAk]at hg;rw[Tr.txN,Tr.wds,zEc,zDe];have hf:=op_fr b;refine Wds.join hf.1 hf.2.1 hf.2.2 (by intro e;have e:=congrArg List.length e;rw[Jb]at e;have:=hg.1;simp at e;rw[e]at this;simp at this) ?_
  have:∀(l:List Tr),(∀t∈l,t.good∧t.depth≤n)→All2 Wds (l.map fun t=>parN (inn b t) t.txN) (l.map fun t=>parW (inn b t) t.wds):=by
   intro l
   induction l with
   |nil=>intro _;exact .nil
   |cons t l ih =>
    intro q;exact .cons ((zNB n t (q t Jc).2 (q t Jc).1).par _) (ih fun u m=>q u (Jg _ m))
  exact this l fun t m=>⟨hg.2.2 t m,by have:=zAi m;omega⟩
theorem k_op2:Str.ofString "( " = S [40,32]:=by decide +kernel
theorem k_cl2:Str.ofString " )" = S [32,41]:=by decide +kernel
theorem zJ7(l:List Nat):Txt.split (S l) (S [32])=(TL.spl [32] 0 [] l).map S:=SX.split_S (by simp) (!0)
theorem Wds.split{l:List Nat}{ws:List (List Nat)} (h:Wds l ws):TL.spl [32] 0 [] (rep2 l)=ws:=by
 rw[h.eq];exact SX.spl_join h.ne h.no
end
end YS
namespace YZ
open Y
section
variable {σ:Sg}{st:List Cell}{α β:Type}
@[simp]theorem Res.nox_exc(x:Exn):(Res.exc x st:Res α).nox=.no:=rfl
@[simp]theorem Res.to_exc(x:Exn) (k:α→List Cell→SR):(Res.exc x st:Res α).to σ k=.exc x σ st:=rfl
@[simp]theorem SR.then_exc(x:Exn) (k:Sg→List Cell→SR):(SR.exc x σ st).then k=.exc x σ st:=rfl
@[simp]theorem SR.nox_exc(x:Exn):(SR.exc x σ st).nox=.no:=rfl
@[simp]theorem forK_exc(t:Tg) (b:SMm) (l:List W) (x:Exn):forK t b l (.exc x σ st)=.exc x σ st:=rfl
def zHk:SR→Res W
 | .ok .nx _ st=>.ok (.p .non) st
 | .ok (.rt w) _ st=>.ok w st
 | .exc x _ st=>.exc x st
 |_=>.no
@[simp]theorem runRX_nx:zHk (.ok .nx σ st)=.ok (.p .non) st:=rfl
@[simp]theorem runRX_rt(w:W):zHk (.ok (.rt w) σ st)=.ok w st:=rfl
@[simp]theorem runRX_exc(x:Exn):zHk (.exc x σ st)=.exc x st:=rfl
@[simp]theorem runRX_no:zHk .no=.no:=rfl
@[simp]theorem runRX_ite{c:Prop} [Decidable c] (a b:SR):zHk (if c then a else b)=if c then zHk a else zHk b:=by split<;>rfl
theorem zFm(np N:Nat) (m:SMm) (ws:List W):runX np N m ws st=if ws.length=np then zHk (m (ws.map some++List.replicate (N-np) none) st)else .no:=by
 unfold runX zHk;split<;>rfl
@[simp]theorem sRaise0_e(c:Nat) (T:Str):zGZ c T σ st=.exc ⟨c,[.str T]⟩ σ st:=rfl
def zMQ(c:Nat) (T:Str) (σ:Sg) (w:W) (st1:List Cell):SR:=match w with
 | .p x=>.exc ⟨c,[x,.str T]⟩ σ st1
 |_=>.no
@[simp]theorem raiseK_e(c:Nat) (T:Str) (x:P):zMQ c T σ (.p x) st=.exc ⟨c,[x,.str T]⟩ σ st:=rfl
@[simp]theorem sRaise1_e(c:Nat) (m:EM) (T:Str):zHf c m T σ st=(m σ st).to σ (zMQ c T σ):=by
 unfold zHf zMQ;rfl
def zOX(F:FM) (w:W) (st1:List Cell) (ok:Bool):Res W:=if ok=true then(zAP F [w] st1).nox else .no
@[simp]theorem propR_e(F:FM) (w:W):zOX F w st true=(zAP F [w] st).nox:=rfl
def zLw(c:Nat) (F:FM) (w:W) (st1:List Cell):Res W:=zOX F w st1 (decide (clsOf st1 w=some c))
@[simp]theorem propK2_e(c:Nat) (F:FM) (w:W):zLw c F w st=zOX F w st (decide (clsOf st w=some c)):=rfl
@[simp]theorem mProp_e(c:Nat) (F:FM) (o:EM):zPD c F o σ st=(o σ st).bind (zLw c F):=by
 unfold zPD zLw zOX
 congr 1
 funext w st1
 by_cases h:clsOf st1 w=some c<;>simp[h]
def tryO(o:Option P) (st:List Cell):Res W:=match o with
 |some p=>.ok (.p p) st
 |none=>.no
@[simp]theorem tryO_e(p:P):tryO (some p) st=.ok (.p p) st:=rfl
def tryK(tb:List (Nat×Str×Option Str)):Res W→Res W
 | .ok (.p x) st1=>.ok (.p (.tup [.str "value",x])) st1
 | .ok (.r _) _=>.no
 | .exc x st1=>tryO (tryE tb x) st1
 | .no=>.no
@[simp]theorem tryK_ok(tb:List (Nat×Str×Option Str)) (x:P):tryK tb (.ok (.p x) st)=.ok (.p (.tup [.str "value",x])) st:=rfl
@[simp]theorem tryK_exc(tb:List (Nat×Str×Option Str)) (x:Exn):tryK tb (.exc x st)=tryO (tryE tb x) st:=rfl
@[simp]theorem tryK_no(tb:List (Nat×Str×Option Str)):tryK tb .no=.no:=rfl
@[simp]theorem tryK_ite(tb:List (Nat×Str×Option Str)){c:Prop} [Decidable c] (a b:Res W):tryK tb (if c then a else b)=if c then tryK tb a else tryK tb b:=by split<;>rfl
@[simp]theorem mTryL_e(tb:List (Nat×Str×Option Str)) (m:EM):zDB tb m σ st=tryK tb (m σ st):=by
 unfold zDB tryK;split<;>first|rfl|(rename_i e;rw[e])|skip
 all_goals first|rfl|(simp_all [tryO];done)|(simp_all [tryO];split<;>simp_all)
def zLG(o:Option (Str×Option Str)) (l:List P):Option P:=match o with
 |some (T,none)=>(match l with|[.str T']=>if T=T' then some (.tup [.str T,.non])else none|_=>none)
 |some (T,some _)=>(match l with|[y,.str T']=>if T=T' then some (.tup [.str T,y])else none|_=>none)
 |none=>none
@[simp]theorem tryE_e(tb:List (Nat×Str×Option Str)) (c:Nat) (l:List P):tryE tb ⟨c,l⟩=zLG (tb.lookup c) l:=by
 unfold tryE zLG;rfl
@[simp]theorem tryEr_0(T:Str):zLG (some (T,none)) [.str T]=some (.tup [.str T,.non]):=by simp[zLG]
@[simp]theorem tryEr_1(T f:Str) (y:P):zLG (some (T,some f)) [y,.str T]=some (.tup [.str T,y]):=by simp[zLG]
@[simp]theorem clsOf_non:clsOf st (.p .non)=none:=rfl
@[simp]theorem clsOf_bl(b:Bool):clsOf st (.p (.bl b))=none:=rfl
@[simp]theorem clsOf_int(b:Int):clsOf st (.p (.int b))=none:=rfl
@[simp]theorem clsOf_str(b:Str):clsOf st (.p (.str b))=none:=rfl
@[simp]theorem clsOf_tup(b:List P):clsOf st (.p (.tup b))=none:=rfl
@[simp]theorem clsOf_lst(b:List P):clsOf st (.p (.lst b))=none:=rfl
end
section
variable {st:List Cell}
def Ge(e:Exn) (r:Res W):Prop:=match r with
 | .exc e' _=>e'=e
 |_=>False
@[simp]theorem Ge_exc(e e':Exn):Ge e (.exc e' st)=(e'=e):=rfl
@[simp]theorem Ge_ok(e:Exn) (w:W):Ge e (.ok w st)=False:=rfl
@[simp]theorem Ge_no(e:Exn):Ge e .no=False:=rfl
@[simp]theorem Ge_ite(e:Exn){c:Prop} [Decidable c] (a b:Res W):Ge e (if c then a else b)=if c then Ge e a else Ge e b:=by split<;>rfl
theorem Ge.ex{e:Exn}{r:Res W} (h:Ge e r):∃st,r=.exc e st:=by
 unfold Ge at h;split at h
 ·subst h;exact⟨_,rfl⟩
 ·exact h.elim
theorem Ge.call{F:FM}{xs:List P}{e:Exn} (h:Ge e (F (xs.map W.p) [])) (st:List Cell):zAP F (xs.map W.p) st=.exc e st:=by
 obtain⟨st',h⟩:=Ge.ex h;unfold zAP;rw[zCJ,zC6,Jm YI];show Y.callEnd 0 [] st (F (xs.map W.p) [])=_;rw[h];simp[Y.callEnd,Y.putCells]
theorem Ge.call1{F:FM}{x:P}{e:Exn} (h:Ge e (F [.p x] [])) (st:List Cell):zAP F [.p x] st=.exc e st:=Ge.call (xs:=[x]) h st
theorem Ge.call2{F:FM}{x y:P}{e:Exn} (h:Ge e (F [.p x,.p y] [])) (st:List Cell):zAP F [.p x,.p y] st=.exc e st:=Ge.call (xs:=[x,y]) h st
theorem Ge.call3{F:FM}{x y z:P}{e:Exn} (h:Ge e (F [.p x,.p y,.p z] [])) (st:List Cell):zAP F [.p x,.p y,.p z] st=.exc e st:=Ge.call (xs:=[x,y,z]) h st
theorem zK5{c n:Nat}{F:FM}{xs m:List P} (h:Gm c m (F (.r 0::xs.map W.p) [.ins c []])) (hm:m.length=n) (st:List Cell):zJq c n F (xs.map W.p) st=.ok (.p (.obj c m)) st:=by
 unfold Gm at h;split at h
 ·rename_i c' l r e
  obtain⟨rfl,rfl⟩:=h;unfold zJq;rw[zCJ,zC6];simp[Y.getCells,e,hm,Y.putCells]
 ·exact h.elim
@[simp]theorem sWhile_e(n:Nat) (c:TM) (b:SMm) (σ:Sg) (st:List Cell):zDa n c b σ st=zBh c b n σ st:=rfl
theorem zJx{c:TM}{b:SMm} (F:SR→Prop) (I:Nat→Sg→List Cell→Prop){n:Nat} (m:Nat){σ:Sg}{st:List Cell} (hn:m<n) (h:I m σ st)
  (hs:∀m σ st,I m σ st→(∃st1,c σ st=.ok false st1∧F (.ok .nx σ st1))∨∃st1 m',c σ st=.ok true st1∧m'<m∧Sq (I m') F (b σ st1)):F (zBh c b n σ st):=by
 induction n generalizing m σ st with
 |zero=>omega
 |succ n ih =>
  rw[zBh];rcases hs m σ st h with⟨st1,e,hF⟩|⟨st1,m',e,hm,hb⟩
  ·rw[e];exact hF
  ·rw[e];have go:∀ {σ2:Sg}{st2:List Cell},I m' σ2 st2→F (zBh c b n σ2 st2):=fun h2=>ih m' ∅ h2
   show F (Res.to (.ok true st1) σ _);rw[Y.Res.to];simp only[VG];cases er:b σ st1 with
   |ok f σ2 st2 =>
    rw[er]at hb;cases f with
    |nx=>exact go hb
    |ct=>exact go hb
    |bk=>exact hb
    |rt v=>exact hb
   |exc _ _ _=>rw[er]at hb;exact hb.elim
   |no=>rw[er]at hb;exact hb.elim
end
section
variable {σ:Sg}{st:List Cell}
def zRL(j:Nat) (c:Option Cell):Option Src:=match c with
 |some (.lst l)=>some (srcC j l.length)
 |_=>none
@[simp]theorem srcCO_e(j:Nat) (l:List W):zRL j (some (.lst l))=some (srcC j l.length):=rfl
@[simp]theorem vSrc_r(j:Nat):vSrc st (.r j)=zRL j st[j]?:=by
 show(match st[j]? with|some (.lst l)=>some (srcC j l.length)|_=>none)=_
 unfold zRL;rfl
theorem zJ4{j n i:Nat}{l:List W} (h:st[j]?=some (.lst l)):(srcC j n).get st i=some l[i]?:=by
 show(match st[j]? with|some (.lst l)=>some l[i]?|_=>none)=_
 rw[h]
theorem zIH{t:Tg}{b:SMm} (F:SR→Prop) (I:Nat→Sg→List Cell→Prop){j m:Nat}{l:List W}{σ:Sg}{st:List Cell} (hm:m=l.length) (hc:∀i σ st,i≤l.length→I i σ st→st[j]?=some (.lst l)) (h:I 0 σ st)
  (hs:∀(i:Nat) (w:W) σ st,l[i]?=some w→I i σ st→Sq (I (i+1)) F (zFu t b w σ st)) (he:∀σ st,I l.length σ st→F (.ok .nx σ st)):F (zLR t b σ (srcC j m) st):=by
 subst hm;rw[zJE]
 have go:∀(n i:Nat) (σ:Sg) (st:List Cell),i≤l.length→l.length-i<n→I i σ st→F (forF (srcC j l.length) t b n i σ st):=by
  intro n
  induction n with
  |zero=>intro i σ st _ h;omega
  |succ n ih =>
   intro i σ st hi hn h;rw[forF,zJ4 (hc i σ st hi h)]
   by_cases hl:i<l.length
   ·rw[Jf hl];have s0:=hs i l[i] σ st (Jf hl) h;unfold zFu at s0;simp only;cases ep:t.put l[i] σ with
    |none=>rw[ep]at s0;exact s0.elim
    |some σ1 =>
     rw[ep,zNE]at s0;simp only;cases hr:b σ1 st with
     |ok f σ2 st2 =>
      rw[hr]at s0;cases f with
      |nx=>exact ih (i+1) σ2 st2 ∅ ∅ s0
      |ct=>exact ih (i+1) σ2 st2 ∅ ∅ s0
      |bk=>exact s0
      |rt v=>exact s0
     |exc _ _ _=>rw[hr]at s0;exact s0.elim
     |no=>rw[hr]at s0;exact s0.elim
   ·rw[Jw ∅];obtain rfl:i=l.length:=by omega
    exact he σ st h
 exact go (l.length+1) 0 σ st (JI _) ∅ h
def srtR(o:Option (List P)) (st1:List Cell):Res W:=match o with
 |some l=>.ok (.p (.lst l)) st1
 |none=>.no
@[simp]theorem srtR_e(l:List P):srtR (some l) st=.ok (.p (.lst l)) st:=rfl
def srtT(l:List P):Option (List P):=match pairsOf l with
 |some m=>if m.length<1000 then some ((zRx m).map tupP)else none
 |none=>none
@[simp]theorem zQZ(l:List P):zEN [.p (.tup l)] st=srtR (srtT l) st:=by
 unfold zEN srtT;simp only;cases pairsOf l with
 |none=>rfl
 |some m=>simp only;split<;>rfl
def srtK(o:Option (List P)) (st1:List Cell):Res W:=srtR (o.bind srtL) st1
@[simp]theorem srtK_e(l:List P):srtK (some l) st=srtR (srtL l) st:=rfl
@[simp]theorem zQs(l:List P):zEN [.p (.lst l)] st=srtR (srtL l) st:=by
 unfold zEN;simp only[zHS];cases srtL l<;>rfl
@[simp]theorem vSorted_r(i:Nat):zEN [.r i] st=srtK (seqC st[i]?) st:=by
 unfold zEN;simp only[zKw];unfold srtK;cases seqC st[i]? with
 |none=>rfl
 |some l=>simp only[V2];cases srtL l<;>rfl
theorem zIs(l:List Int):srtL (l.map P.int)=some ((sortI l).map P.int):=by
 unfold srtL;rw[zEX]
@[simp]theorem vCount_e(a b:Str):zKN (.p (.str a)) [.p (.str b)] st=.ok (.p (.int (Txt.count a b))) st:=rfl
@[simp]theorem keyP_int(i:Int):keyP (.int i)=some (.inl i):=rfl
@[simp]theorem keyP_str(z:Str):keyP (.str z)=some (.inr z):=rfl
def keysC(c:Option Cell):Option (List Key):=match c with
 |some (.dk ks _)=>some ks
 |_=>none
@[simp]theorem keysC_e(ks:List Key) (l:List W):keysC (some (.dk ks l))=some ks:=rfl
@[simp]theorem keysW_r(i:Nat):zJi st (.r i)=keysC st[i]?:=rfl
@[simp]theorem keysW_dk(ks:List Key) (l:List P):zJi st (.p (.dk ks l))=some ks:=rfl
def inKR(neg:Bool) (o:Option Key) (ks:Option (List Key)) (st1:List Cell):Res W:=match o,ks with
 |some k,some ks=>.ok (.p (.bl (hasK ks k != neg))) st1
 |_,_=>.no
@[simp]theorem inKR_e(neg:Bool) (k:Key) (ks:List Key):inKR neg (some k) (some ks) st=.ok (.p (.bl (hasK ks k != neg))) st:=rfl
@[simp]theorem vInK_e(neg:Bool) (z:P) (y:W):vInK neg (.p z) y st=inKR neg (keyP z) (zJi st y) st:=by
 unfold vInK inKR
 first
  |(cases keyP z<;>cases zJi st y<;>rfl)
  |(simp only;cases keyP z<;>cases zJi st y<;>rfl)
  |simp only
end
section
theorem zNH{α:Type}{l:List α}{f:α→W}{t:Tg}{c:TM}{e:EM}{σ0:Sg}{st:List Cell} (p:α→Bool) (g:α→P) (H:∀x∈l,∃σ1,t.put (f x) σ0=some σ1∧c σ1 st=.ok (p x) st∧(p x=true→e σ1 st=.ok (.p (g x)) st)) :
  lcL t c e σ0 (l.map f) st=.ok (((l.filter p).map g).map W.p) st:=by
 induction l with
 |nil=>rfl
 |cons x l ih =>
  obtain⟨σ1,e1,e2,e3⟩:=H x Jc;have ih:=ih fun y m=>H y (Jg _ m)
  rw[Jk,zBH,e1,zP7,e2];simp only[Res.nox_ok,Res.bind_ok,zQ4]
  by_cases hp:p x=true
  ·rw[Jm hp,e3 hp];simp only[Res.nox_ok,Res.bind_ok,zNF,ih,zOF,Yq,hp,VG,Jk]
  ·rw[Js hp,ih,Yq,Js hp]
theorem zD8{α:Type}{l:List α}{f:α→W}{t:Tg}{e:EM}{σ0:Sg}{st:List Cell} (g:α→P) (H:∀x∈l,∃σ1,t.put (f x) σ0=some σ1∧e σ1 st=.ok (.p (g x)) st):lcL t mYes e σ0 (l.map f) st=.ok ((l.map g).map W.p) st:=by
 rw[zCw g H,Jy];rfl
@[simp]theorem put_tp2(i j:Nat) (x y:P) (σ:Sg):(Tg.tp [.nm i,.nm j]).put (.p (.tup [x,y])) σ=some ((σ.set i (some (.p x))).set j (some (.p y))):=by simp
theorem zGg(n:Bool) (i j:Str) (st:List Cell):vInB n (.p (.str i)) (.p (.str j)) st=.ok (.p (.bl (if n=true then !occ i j else occ i j))) st:=rfl
theorem zQS(c:Nat) (z:Str):occ ⟨#[c]⟩ z=decide (c∈z.cps.toList):=StrLaws.found_one z c
theorem lcC_fl{α:Type}{l:List α}{f:α→W}{t:Tg}{vs:List Nat}{c:TM}{e:EM}{fin:List W→List Cell→Res W}{j m:Nat}{σ:Sg}{st:List Cell} (p:α→Bool) (g:α→P) (hm:m=l.length) (hc:st[j]?=some (.lst (l.map f))) (hl:l.length≤1000000)
  (H:∀x∈l,∃σ1,t.put (f x) (zBR σ vs)=some σ1∧c σ1 st=.ok (p x) st∧(p x=true→e σ1 st=.ok (.p (g x)) st)):lcK t vs c e fin σ (srcC j m) st=fin (((l.filter p).map g).map W.p) st:=by
 subst hm;rw[zRv,Jm (show(srcC j l.length).n≤1000000 from hl)]
 have go:∀(n i:Nat),i≤l.length→l.length-i<n→lcF (srcC j l.length) t c e (zBR σ vs) n i st=.ok ((((l.drop i).filter p).map g).map W.p) st:=by
  intro n
  induction n with
  |zero=>intro i _ h;omega
  |succ n ih =>
   intro i hi hn;rw[lcF,zJ4 hc]
   by_cases hl:i<l.length
   ·rw[Ji,Jf hl,J6 hl];obtain⟨σ1,e1,e2,e3⟩:=H l[i] (Vg hl);have ih2:=ih (i+1) ∅ ∅;simp only[bc];rw[e1]
    by_cases hp:p l[i]=true
    ·rw[Yq,Jm hp];simp[e2,hp,e3 hp,ih2]
    ·rw[Yq,Js hp];simp only[Bool.not_eq_true]at hp;simp[e2,hp,ih2]
   ·rw[Jw (by rw[Jb];omega),JD ∅]
    rfl
 have:=go (l.length+1) 0 (JI _) ∅
 rw[Vr]at this;show(lcF (srcC j l.length) t c e (zBR σ vs) (l.length+1) 0 st).bind fin=_;rw[this];rfl
theorem zQq(n:Nat):rngL 0 n=(List.range n).map fun(i:Nat)=>W.p (.int (i:Int)):=by
 unfold rngL;exact VJ fun i _=>by simp
variable {σ:Sg}{st:List Cell}
@[simp]theorem mLam_e(j i:Nat):mLam j i σ st=.ok (.p (.lam j i)) st:=rfl
def zOf(tb:List (Nat×Str×Option Str)) (o:Option EM) (σ:Sg) (st:List Cell):Res W:=match o with
 |some b=>zDB tb b σ st
 |none=>.no
@[simp]theorem tryVO_e(tb:List (Nat×Str×Option Str)) (b:EM):zOf tb (some b) σ st=zDB tb b σ st:=rfl
def zK2(tb:List (Nat×Str×Option Str)) (J:Nat) (ms:List EM) (σ:Sg) (w:W) (st1:List Cell):Res W:=match w with
 | .p (.lam j i)=>if j=J then zOf tb ms[i]? σ st1 else .no
 |_=>.no
@[simp]theorem tryVK_e(tb:List (Nat×Str×Option Str)) (J i:Nat) (ms:List EM):zK2 tb J ms σ (.p (.lam J i)) st=zOf tb ms[i]? σ st:=by simp[zK2]
@[simp]theorem zQn(tb:List (Nat×Str×Option Str)) (J:Nat) (ms:List EM) (m:EM):zMK tb J ms m σ st=(m σ st).bind (zK2 tb J ms σ):=by
 have e:∀w st1,(match w with
  | .p (.lam j i)=>if j=J then(match ms[i]? with|some b=>zDB tb b σ st1|none=>.no)else .no
  |_=>.no:Res W)=zK2 tb J ms σ w st1:=by
  intro w st1;unfold zK2 zOf;cases w with
  |r i=>rfl
  |p x=>cases x<;>rfl
 show(m σ st).bind _=_;cases m σ st with
 |ok w st1=>exact e w st1
 |exc x st1=>rfl
 |no=>rfl
@[simp]theorem headK_e(x:P) (l:List P):zE7 (.p (.tup (x::l))) st=.ok (.p x) st:=rfl
end
section
variable {σ σ0:Sg}{st:List Cell}
@[simp]theorem tryOo_e(tb:List (Nat×Str×Option Str)) (J:Nat) (ms:List EM) (e:EM):Y.tryO tb J ms e σ0 σ st=(e σ st).bind (zK2 tb J ms σ0):=by
 have h:=zQn (σ:=σ0) (st:=st) tb J ms (fun _ _=>e σ st)
 exact h
@[simp]theorem vMulL_e(l:List P) (n:Int):zJa (.p (.lst l)) (.p (.int n)) st=if 0≤n∧n≤1000∧l.length≤1000 then .ok (.p (.lst (List.replicate n.toNat l).flatten)) st else .no:=rfl
end
section
variable {σ σ0:Sg}{st:List Cell}
def cmR(c:Nat) (F:FM) (dfl:List P) (ws:List W):List Cell→Res W:=fun st1=>zAP F (.p (.cls c)::(ws++dfl.map W.p)) st1
@[simp]theorem mCMeth_e(c:Nat) (F:FM) (dfl:List P) (a:AM):zFg c F dfl a σ st=(a σ st).bind (cmR c F dfl):=rfl
@[simp]theorem cmR_e(c:Nat) (F:FM) (dfl:List P) (ws:List W):cmR c F dfl ws st=zAP F (.p (.cls c)::(ws++dfl.map W.p)) st:=rfl
@[simp]theorem isCls_e(i c:Nat):zN7 i c σ=(match σ[i]? with
 |some (some (.p (.cls d)))=>d==c
 |_=>false):=rfl
@[simp]theorem mMakeL_e(i c n:Nat) (F:FM) (a:AM):zKc i c n F a σ st=if zN7 i c σ=true then(a σ st).bind (fun ws st1=>zJq c n F ws st1)else .no:=rfl
@[simp]theorem vSIndex_e(a b:Str):zEv (.p (.str a)) [.p (.str b)] st=if 0≤Txt.find a b then .ok (.p (.int (Txt.find a b))) st else .no:=rfl
@[simp]theorem keyD_r(z:Str):keyD (.inr z)=.str z:=rfl
@[simp]theorem keyD_l(z:Int):keyD (.inl z)=.int z:=rfl
end
section
variable {σ σ0:Sg}{st:List Cell}{ys:List P}
@[simp]theorem GR.then_nx(k:Sg→List Cell→List P→GR):(GR.ok .nx σ st ys).then k=k σ st ys:=rfl
@[simp]theorem GR.then_rt(w:W) (k:Sg→List Cell→List P→GR):(GR.ok (.rt w) σ st ys).then k=.ok (.rt w) σ st ys:=rfl
@[simp]theorem GR.then_bk(k:Sg→List Cell→List P→GR):(GR.ok .bk σ st ys).then k=.ok .bk σ st ys:=rfl
@[simp]theorem GR.then_ct(k:Sg→List Cell→List P→GR):(GR.ok .ct σ st ys).then k=.ok .ct σ st ys:=rfl
@[simp]theorem GR.then_exc(x:Exn) (k:Sg→List Cell→List P→GR):(GR.exc x σ st).then k=.exc x σ st:=rfl
@[simp]theorem GR.then_no(k:Sg→List Cell→List P→GR):GR.no.then k=.no:=rfl
@[simp]theorem GR.then_ite{c:Prop} [Decidable c] (a b:GR) (k:Sg→List Cell→List P→GR):(if c then a else b).then k=if c then a.then k else b.then k:=by split<;>rfl
@[simp]theorem SR.gr_ok(f:Fl):(SR.ok f σ st).gr ys=.ok f σ st ys:=rfl
@[simp]theorem SR.gr_exc(x:Exn):(SR.exc x σ st).gr ys=.exc x σ st:=rfl
@[simp]theorem SR.gr_no:SR.no.gr ys=.no:=rfl
@[simp]theorem Res.gto_ok{α:Type} (a:α) (k:α→List Cell→GR):(Res.ok a st).gto σ k=k a st:=rfl
@[simp]theorem Res.gto_exc{α:Type} (x:Exn) (k:α→List Cell→GR):(Res.exc x st:Res α).gto σ k=.exc x σ st:=rfl
@[simp]theorem Res.gto_no{α:Type} (k:α→List Cell→GR):(Res.no:Res α).gto σ k=.no:=rfl
@[simp]theorem pj_id(x:P):Pjk.pj .id x=some x:=rfl
@[simp]theorem pj_fst'(a b:P):Pjk.pj .fst (.tup [a,b])=some a:=rfl
end
section
open Y
variable {σ:Sg}{st:List Cell}
theorem zJf{α:Type}{f:α→P}{g:α→PyData} (h:∀a,toD (f a)=some (g a)):∀l:List α,toDs (l.map f)=some (l.map g)
 |[]=>by rw[Vs,toDs];rfl
 |a::l=>by rw[Jk,toDs,h,zJf h l];rfl
theorem zKM{α:Type}{f:α→P}{g:α→PyData} (h:∀a,toD (f a)=some (g a)) (ha:∀a b,PySem.W.alike (g a) (g b)=true) (ht:∀a,zPI (g a)=true) (hd:∀a,(g a).depth≤8) (l:List α):zNP (l.map f)=true:=by
 unfold zNP;rw[zJf h];show zMn _=true;unfold zMn;simp only[List.all_map,Jj,VS];refine⟨Jp.mpr fun a _=>Jp.mpr fun b _=>ha a b,.inl (Jp.mpr fun a _=>ht a),Jp.mpr fun a _=>?_⟩
 simpa using hd a
end
section
open Y NS
variable {σ:Sg}{st:List Cell}
@[simp]theorem mSrtSet_e(a:EM):zLz a σ st=(a σ st).bind zHi:=rfl
theorem zIP{w:W}{l:List P} (e:listOf st w=some l) (h1:setOk l=true) (h2:zNP l=true):zHi w st=.ok (.p (.lst (srtD (ddK l)))) st:=by
 unfold zHi;simp only[e,h1,h2,and_self,VG]
def augE(σ:Sg) (i:Nat) (n:Int) (r:Res W):SR:=match r with
 | .ok z st5=>zFn σ i n z st5
 |_=>.no
def augM(f:W→W→List Cell→Res W) (σ:Sg) (i:Nat) (n:Int) (x y:W) (st4:List Cell):SR:=augE σ i n (f x y st4)
@[simp]theorem augM_e(f:W→W→List Cell→Res W) (i:Nat) (n:Int) (x y:W):augM f σ i n x y st=augE σ i n (f x y st):=rfl
@[simp]theorem augE_ok(i:Nat) (n:Int) (z:W):augE σ i n (.ok z st)=zFn σ i n z st:=rfl
def augG(f:W→W→List Cell→Res W) (m:EM) (σ:Sg) (i:Nat) (n:Int) (st2:List Cell) (o:Option W):SR:=match o with
 |some x=>(m σ st2).to σ (augM f σ i n x)
 |none=>.no
@[simp]theorem augG_some(f:W→W→List Cell→Res W) (m:EM) (i:Nat) (n:Int) (x:W):augG f m σ i n st (some x)=(m σ st).to σ (augM f σ i n x):=rfl
def augI(f:W→W→List Cell→Res W) (m:EM) (σ:Sg) (w k:W) (st2:List Cell):SR:=match w,k with
 | .r i,.p (.int n)=>augG f m σ i n st2 (zGl i n st2)
 |_,_=>.no
@[simp]theorem augI_e(f:W→W→List Cell→Res W) (m:EM) (i:Nat) (n:Int):augI f m σ (.r i) (.p (.int n)) st=augG f m σ i n st (zGl i n st):=rfl
def augO(f:W→W→List Cell→Res W) (ix m:EM) (σ:Sg) (w:W) (st1:List Cell):SR:=(ix σ st1).to σ (augI f m σ w)
@[simp]theorem augO_e(f:W→W→List Cell→Res W) (ix m:EM) (w:W):augO f ix m σ w st=(ix σ st).to σ (augI f m σ w):=rfl
@[simp]theorem sAugIx_e(f:W→W→List Cell→Res W) (o ix m:EM):zIp f o ix m σ st=(o σ st).to σ (augO f ix m σ):=by
 unfold zIp augO augI augG augM augE;rfl
end
section
open Y NS
variable {σ:Sg}{st:List Cell}
@[simp]theorem vSplit_e(a b:Str):zGQ (.p (.str a)) [.p (.str b)] st=if(b.length==0)=false∧a.length+2≤1000000 then .ok (.p (.lst ((Txt.split a b).map P.str))) st else .no:=rfl
@[simp]theorem vStarts_e(a b:Str):zGy (.p (.str a)) [.p (.str b)] st=.ok (.p (.bl (Txt.startswith a b))) st:=rfl
@[simp]theorem vRmPre_e(a b:Str):zKT (.p (.str a)) [.p (.str b)] st=if a.length≤1000000 then .ok (.p (.str (Txt.removeprefix a b))) st else .no:=rfl
def replR(y z:Str) (w:W) (st1:List Cell):Res W:=match w with
 | .p (.str x)=>if x.length+(x.length+1)*z.length≤1000000 then .ok (.p (.str (Txt.replace x y z))) st1 else .no
 |_=>.no
@[simp]theorem replR_e(y z x:Str):replR y z (.p (.str x)) st=if x.length+(x.length+1)*z.length≤1000000 then .ok (.p (.str (Txt.replace x y z))) st else .no:=rfl
@[simp]theorem mRepl_e(y z:Str) (o:EM):zHB y z o σ st=(o σ st).bind (replR y z):=rfl
def afR(c i:Nat) (σ:Sg) (r:Res W):SR:=match r with
 | .ok z st3=>match(st3[0]?:Option Cell)with
  |some (.ins c' l')=>if c'=c∧i<l'.length then .ok .nx σ (st3.set 0 (.ins c (l'.set i z)))else .no
  |_=>.no
 |_=>.no
@[simp]theorem afR_e(c i:Nat) (z:W) (l:List W) (r:List Cell):afR c i σ (.ok z (.ins c l::r))=if i<l.length then .ok .nx σ (.ins c (l.set i z)::r)else .no:=by
 unfold afR;simp
def afM(f:W→W→List Cell→Res W) (c i:Nat) (σ:Sg) (x y:W) (st2:List Cell):SR:=afR c i σ (f x y st2)
@[simp]theorem afM_e(f:W→W→List Cell→Res W) (c i:Nat) (x y:W):afM f c i σ x y st=afR c i σ (f x y st):=rfl
def afO(f:W→W→List Cell→Res W) (c i:Nat) (m:EM) (σ:Sg) (o:Option W) (st1:List Cell):SR:=match o with
 |some x=>(m σ st1).to σ (afM f c i σ x)
 |none=>.no
@[simp]theorem afO_e(f:W→W→List Cell→Res W) (c i:Nat) (m:EM) (x:W):afO f c i m σ (some x) st=(m σ st).to σ (afM f c i σ x):=rfl
def afK(f:W→W→List Cell→Res W) (cs:List (Nat×Nat)) (m:EM) (σ:Sg) (w:W) (st1:List Cell):SR:=match w with
 | .r j=>match st1[j]? with
  |some (.ins c l)=>match cs.lookup c with
   |some i=>match l[i]? with
    |some x=>(m σ st1).to σ fun y st2=>match f x y st2 with
     | .ok z st3=>match st3[j]? with
      |some (.ins c' l')=>if c'=c∧i<l'.length then .ok .nx σ (st3.set j (.ins c (l'.set i z)))else .no
      |_=>.no
     |_=>.no
    |none=>.no
   |none=>.no
  |_=>.no
 |_=>.no
@[simp]theorem sAugF_e(f:W→W→List Cell→Res W) (cs:List (Nat×Nat)) (o m:EM):zFA f cs o m σ st=(o σ st).to σ (afK f cs m σ):=rfl
@[simp]theorem afK_0(f:W→W→List Cell→Res W) (c i:Nat) (m:EM) (l:List W) (r:List Cell):afK f [(c,i)] m σ (.r 0) (.ins c l::r)=afO f c i m σ l[i]? (.ins c l::r):=by
 unfold afK afO;simp only[VI,JE,Y8];cases l[i]? with
 |none=>rfl
 |some x=>rfl
@[simp]theorem mMakeC_e(c n:Nat) (F:FM) (a:AM):zL9 c n F a σ st=(a σ st).bind (zJM c n F):=rfl
@[simp]theorem mItT_e(kvs:List (Str×Str)):mItT kvs σ st=.ok (srcL (zJV kvs)) st:=rfl
theorem zLa(c:Nat) (m:List P):zBS (.ins c (m.map W.p))=true:=by
 show(pures (m.map W.p)).isSome=true;rw[zBI];rfl
theorem zLU{c n:Nat}{F:FM}{xs m:List P}{l:List Cell} (h:F (.r 0::xs.map W.p) [.ins c []]=.ok (.p .non) (.ins c (m.map W.p)::l)) (hn:m.length=n) (st:List Cell):zJM c n F (xs.map W.p) st=.ok (.r st.length) (st++[.ins c (m.map W.p)]):=by
 unfold zJM;rw[zCJ];simp only[YI,VG];rw[Y.getCells];simp only[zC6,h];have e:(m.map W.p).length=n:=by rw[Jb,hn]
 simp[zLa,e,hn,putCells]
def zRX(r:AM) (σ:Sg) (st1:List Cell) (c:Option Cell):Res (List W):=match c with
 |some (.lst l)=>(r σ st1).bind fun ws st2=>.ok (l++ws) st2
 |_=>.no
def zP3(l:List W) (ws:List W) (st2:List Cell):Res (List W):=.ok (l++ws) st2
@[simp]theorem splApp_e(l ws:List W):zP3 l ws st=.ok (l++ws) st:=rfl
@[simp]theorem splCW_e(r:AM) (l:List W):zRX r σ st (some (.lst l))=(r σ st).bind (zP3 l):=rfl
def splCK(r:AM) (σ:Sg) (w:W) (st1:List Cell):Res (List W):=match w with
 | .r i=>zRX r σ st1 st1[i]?
 |_=>.no
@[simp]theorem splCK_e(r:AM) (i:Nat):splCK r σ (.r i) st=zRX r σ st st[i]?:=rfl
@[simp]theorem mSplC_e(a:EM) (r:AM):zOT a r σ st=(a σ st).bind (splCK r σ):=by
 unfold zOT
 congr 1
end
end YZ
namespace YS
open Y YZ
open SX (S S_inj S_len S_cat S_beq S_tl)
theorem zEn(w:List Nat) (lo hi:Option Int):cutS (S w) lo hi=S (cutL w lo hi):=by
 unfold cutS cutL;simp[S_len]
theorem occ_S(c:Nat) (l:List Nat):occ (S [c]) (S l)=decide (c∈l):=by
 have:=zQS c (S l)
 simpa using this
theorem zOH(c:Nat) (w:List Nat):Txt.startswith (S w) (S [c])=(w.head?==some c):=by
 unfold Txt.startswith;cases w with
 |nil=>simp[S_len]
 |cons d r =>
  simp[S_len,Builtin.Str.subAt]
theorem zNC(w:List Nat):L2.atI w (-1)=w.getLast?:=by
 cases w with
 |nil=>rfl
 |cons d r =>
  have e:L2.ixN (d::r).length (-1)=some r.length:=by
   unfold L2.ixN;rw[Js (!0)];simp;omega
  unfold L2.atI;rw[e,List.getLast?_eq_getElem?];simp
theorem zPX(c:Nat):c∈[97,98,99]→Txt.find (S [97,98,99]) (S [c])=((c-97:Nat):Int):=by
 intro h;simp at h;rcases h with rfl|rfl|rfl<;>decide +kernel
def isDg(w:List Nat):Bool:=match w with
 |[d]=>decide (48≤d∧d≤57)
 |_=>false
theorem k_dg:Str.ofString "0123456789" = S [48,49,50,51,52,53,54,55,56,57]:=by decide +kernel
theorem dg10{d:Nat} (h:48≤d∧d≤57):d=48∨d=49∨d=50∨d=51∨d=52∨d=53∨d=54∨d=55∨d=56∨d=57:=by omega
theorem int_S{d:Nat} (h:48≤d∧d≤57):PySem.intText? (S [d])=some ((d-48:Nat):Int):=by
 rcases dg10 h with rfl|rfl|rfl|rfl|rfl|rfl|rfl|rfl|rfl|rfl<;>decide +kernel
theorem int_mS{d:Nat} (h:48≤d∧d≤57):PySem.intText? (S [45,d])=some (-((d-48:Nat):Int)):=by
 rcases dg10 h with rfl|rfl|rfl|rfl|rfl|rfl|rfl|rfl|rfl|rfl<;>decide +kernel
theorem zP8(w:List Nat):Txt.removeprefix (S w) (S [45])=S (if w.head?=some 45 then w.drop 1 else w):=by
 have h:Builtin.Str.subAt (S w) (S [45]) 0=(w.head?==some 45):=by
  cases w with
  |nil=>rfl
  |cons d r=>simp[Builtin.Str.subAt,S_len]
 unfold Txt.removeprefix Txt.affix;rw[h];cases w with
 |nil=>rfl
 |cons d r =>
  by_cases hd:d=45
  ·subst hd;simp[S_len,Builtin.Str.strSub]
  ·simp[hd]
def zB5:FM:=runF 2 2 (sSeq (zIv [(1,0)] (mVar 0) (mBm "str" zGQ (zHB ")" " )" (zHB "(" "( " (mVar 1))) %[(mC (.str " "))|0]))
  (zIv [(1,1)] (mVar 0) (mC (.int 0))))
def zAM:FM:=runF 1 1 (sRet (mIfE (mTst (mBin vLt (mFld [(1,1)] (mVar 0)) (zAJ vLen %[(mFld [(1,0)] (mVar 0))|0]))) (mBin vIx (mFld [(1,0)] (mVar 0)) (mFld [(1,1)] (mVar 0))) (mC (.str ""))))
def zAV:FM:=runF 3 3 (sSeq (sIf (mTst (mBin (vInB false) (mC .non) (mVar 2))) (sRet (mC .non)) sNx)
  (sRet (mIfE (mTst (mBin (vEqB false) (zAJ vLen %[(mVar 2)|0]) (mC (.int 1)))) (mBin vIx (mVar 2) (mC (.int 0))) (mTup (zAB (mVar 1) (zOT (mVar 2) mNil))))))
def zBi(Fpr:FM):FM:=runF 1 2 (sSeq (sSet 1 (zCs %[(zB1 1 Fpr (mVar 0) mNil)|0]))
  (sSeq (zDa 1000 (mTst (mBin (vEqB false) (zB1 1 zAM (mVar 0) mNil) (mC (.str "and")))) (sSeq (zFA zD5 [(1,1)] (mVar 0) (mC (.int 1)))
  (zEG (mBm "list" zBm (mVar 1) %[(zB1 1 Fpr (mVar 0) mNil)|0]))))
  (sRet (zB1 1 zAV (mVar 0) %[(mC (.str "and")),(mVar 1)|0]))))
def zAt(Fpr:FM):FM:=runF 1 2 (sSeq (sSet 1 (zCs %[(zB1 1 (zBi Fpr) (mVar 0) mNil)|0]))
  (sSeq (zDa 1000 (mTst (mBin (vEqB false) (zB1 1 zAM (mVar 0) mNil) (mC (.str "or")))) (sSeq (zFA zD5 [(1,1)] (mVar 0) (mC (.int 1)))
  (zEG (mBm "list" zBm (mVar 1) %[(zB1 1 (zBi Fpr) (mVar 0) mNil)|0]))))
  (sRet (zB1 1 zAV (mVar 0) %[(mC (.str "or")),(mVar 1)|0]))))
def zBN:FM:=runF 1 1 (sRet (zCS (mBin (vEqB false) (zAJ vLen %[(mVar 0)|0]) (mC (.int 1))) (mBin (vInB false) (mVar 0) (mC (.str "0123456789")))))
def zAW:FM:=runF 2 7 (sSeq (sPut (.tp [(.nm 2),(.nm 3)]) (mTup %[(zB1 1 zAM (mVar 0) mNil),(mSl (mFld [(1,0)] (mVar 0)) (zA0 (mBin vAdd (mFld [(1,1)] (mVar 0)) (mC (.int 1)))) (zA0 (mBin vAdd (mFld [(1,1)] (mVar 0)) (mC (.int 4)))))|0]))
  (sSeq (sIf (zDV (mTst (mBin (vEqB false) (mVar 2) (mC (.str "mod")))) (zDV (mTst (mBin (vEqB false) (zAJ vLen %[(mVar 3)|0]) (mC (.int 3)))) (zDV (mTru (zAH zBN %[(mBin vIx (mVar 3) (mC (.int 0)))|0])) (mTru (zAH zBN %[(mBin vIx (mVar 3) (mC (.int 2)))|0]))))) (sSeq (zFA zD5 [(1,1)] (mVar 0) (mC (.int 4)))
  (sRet (mTup %[(mC (.str "rest")),(mVar 1),(zAJ vInt %[(mBin vIx (mVar 3) (mC (.int 0)))|0]),(zAJ vInt %[(mBin vIx (mVar 3) (mC (.int 2)))|0])|0]))) sNx)
  (sSeq (sSet 4 (mLc (mItT zAf) (.tp [(.nm 5),(.nm 6)]) [5,6] (mTst (mBin (vEqB false) (mVar 6) (mVar 2))) (mVar 5) finP))
  (sSeq (sIf (mOrT (mTst (mBin (vEqB false) (mVar 4) (mLst mNil))) (mOrT (mTst (mBin (vEqB false) (mVar 3) (mLst mNil))) (zDK (mTru (zAH zBN %[(mBm "str" zKT (mBin vIx (mVar 3) (mC (.int 0))) %[(mC (.str "-"))|0])|0]))))) (sRet (mC .non)) sNx)
  (sSeq (zFA zD5 [(1,1)] (mVar 0) (mC (.int 2)))
  (sRet (mTup %[(mBin vIx (mVar 4) (mC (.int 0))),(mVar 1),(zAJ vInt %[(mBin vIx (mVar 3) (mC (.int 0)))|0])|0])))))))
def zB4:FM:=runF 1 5 (sSeq (sSet 1 (zCs %[(mC (.int 0)),(mC (.int 0)),(mC (.int 0))|0]))
  (sSeq (sSet 2 (mC (.int 1)))
  (sSeq (zDa 1000 (mTru (mC (.bl true))) (sSeq (sSet 3 (zB1 1 zAM (mVar 0) mNil))
  (sSeq (zFA zD5 [(1,1)] (mVar 0) (mC (.int 1)))
  (sSeq (sIf (zDV (mTru (mBm "str" zGy (mVar 3) %[(mC (.str "-"))|0])) (mTst (mBin (vEqB false) (mVar 1) (mLst %[(mC (.int 0)),(mC (.int 0)),(mC (.int 0))|0])))) (sPar 2 3 %[(mNeg (mC (.int 1))),(mSl (mVar 3) (zA0 (mC (.int 1))) zCi)|0]) sNx)
  (sSeq (sIf (mOrT (mTst (mBin (vEqB false) (mVar 3) (mC (.str "")))) (mTst (mBin (vInB true) (mBin vIx (mVar 3) (mNeg (mC (.int 1)))) (mC (.str "abc"))))) (sRet (mC .non)) sNx)
  (sSeq (sSet 4 (mIfE (mTst (mBin vGt (zAJ vLen %[(mVar 3)|0]) (mC (.int 2)))) (mSl (mVar 3) zCi (zA0 (mNeg (mC (.int 2))))) (mC (.str "1"))))
  (sSeq (sIf (zDK (mTru (zAH zBN %[(mVar 4)|0]))) (sRet (mC .non)) sNx)
  (sSeq (zIp zD5 (mVar 1) (mBm "str" zEv (mC (.str "abc")) %[(mBin vIx (mVar 3) (mNeg (mC (.int 1))))|0]) (mBin zE2 (mVar 2) (zAJ vInt %[(mVar 4)|0])))
  (sSeq (sIf (mTst (mBin (vInB true) (zB1 1 zAM (mVar 0) mNil) (mTup %[(mC (.str "+")),(mC (.str "-"))|0]))) sBrk sNx)
  (sSeq (sSet 2 (mIfE (mTst (mBin (vEqB false) (zB1 1 zAM (mVar 0) mNil) (mC (.str "+")))) (mC (.int 1)) (mNeg (mC (.int 1)))))
  (zFA zD5 [(1,1)] (mVar 0) (mC (.int 1)))))))))))))
  (sRet (zB1 1 zAW (mVar 0) %[(zAJ zCI %[(mVar 1)|0])|0])))))
def zAZ:Nat→FM
 |0=>fun _ _=>.no
 |n+1=>runF 1 2 (sSeq (sIf (mTst (mBin (vEqB false) (zB1 1 zAM (mVar 0) mNil) (mC (.str "not")))) (sSeq (zFA zD5 [(1,1)] (mVar 0) (mC (.int 1)))
  (sSeq (sSet 1 (zB1 1 (zAZ n) (mVar 0) mNil))
  (sRet (mIfE (mTst (mBin (vIsN false) (mVar 1) (mC .non))) (mC .non) (mTup %[(mC (.str "not")),(mVar 1)|0]))))) sNx)
  (sSeq (sIf (mTst (mBin (vEqB false) (zB1 1 zAM (mVar 0) mNil) (mC (.str "(")))) (sSeq (zFA zD5 [(1,1)] (mVar 0) (mC (.int 1)))
  (sSeq (sSet 1 (zB1 1 (zAt (zAZ n)) (mVar 0) mNil))
  (sSeq (zFA zD5 [(1,1)] (mVar 0) (mC (.int 1)))
  (sRet (mVar 1))))) sNx)
  (sRet (zB1 1 zB4 (mVar 0) mNil))))
def rdrC(ws:List (List Nat)) (k:Int):Cell:=.ins 1 [.p (.lst (ws.map fun w=>P.str (S w))),.p (.int k)]
def nx(ws:List (List Nat)) (k:Nat):List Nat:=ws.getD k []
theorem zIB(ws:List (List Nat)) (k:Int):zBS (rdrC ws k)=true:=rfl
def Gr(ws:List (List Nat)) (r:P) (j:Int) (x:Res W):Prop:=match x with
 | .ok w (c::_)=>w=.p r∧c=rdrC ws j
 |_=>False
@[simp]theorem Gr_ok(ws:List (List Nat)) (r:P) (j:Int) (w:W) (c:Cell) (l:List Cell):Gr ws r j (.ok w (c::l))=(w=.p r∧c=rdrC ws j):=rfl
@[simp]theorem Gr_no(ws:List (List Nat)) (r:P) (j:Int):Gr ws r j .no=False:=rfl
@[simp]theorem Gr_ite(ws:List (List Nat)) (r:P) (j:Int){c:Prop} [Decidable c] (a b:Res W):Gr ws r j (if c then a else b)=if c then Gr ws r j a else Gr ws r j b:=by split<;>rfl
def Rds(F:FM) (ws:List (List Nat)) (k:Int) (r:P) (j:Int):Prop:=∀rest,zAP F [.r 0] (rdrC ws k::rest)=.ok (.p r) (rdrC ws j::rest)
theorem Rds.of{F:FM}{ws:List (List Nat)}{k j:Int}{r:P} (h:Gr ws r j (F [.r 0] [rdrC ws k])):Rds F ws k r j:=by
 intro rest;unfold Gr at h;split at h
 ·rename_i w c l e
  obtain⟨rfl,rfl⟩:=h;unfold zAP;simp[zAU,zC9,Y.getCells,zIB,e,Y.callEnd,Y.putCells]
 ·exact h.elim
theorem Rds.of1{F:FM}{ws:List (List Nat)}{k j:Int}{r x:P} (h:Gr ws r j (F [.r 0,.p x] [rdrC ws k])) (rest:List Cell):zAP F [.r 0,.p x] (rdrC ws k::rest)=.ok (.p r) (rdrC ws j::rest):=by
 unfold Gr at h;split at h
 ·rename_i w c l e
  obtain⟨rfl,rfl⟩:=h;unfold zAP;simp[zAU,zC9,Y.getCells,zIB,e,Y.callEnd,Y.putCells]
 ·exact h.elim
section
variable {σ:Sg}{st:List Cell}
@[simp]theorem fldR_rd0(ws:List (List Nat)) (k:Int) (r:List Cell):fldR [(1,0)] (.r 0) (rdrC ws k::r)=.ok (.p (.lst (ws.map fun w=>P.str (S w)))) (rdrC ws k::r):=rfl
@[simp]theorem fldR_rd1(ws:List (List Nat)) (k:Int) (r:List Cell):fldR [(1,1)] (.r 0) (rdrC ws k::r)=.ok (.p (.int k)) (rdrC ws k::r):=rfl
@[simp]theorem clsOf_rd(ws:List (List Nat)) (k:Int) (r:List Cell):clsOf (rdrC ws k::r) (.r 0)=some 1:=rfl
@[simp]theorem afK_rd(f:W→W→List Cell→Res W) (m:EM) (ws:List (List Nat)) (k:Int) (r:List Cell):afK f [(1,1)] m σ (.r 0) (rdrC ws k::r)=(m σ (rdrC ws k::r)).to σ (afM f 1 1 σ (.p (.int k))):=by
 unfold rdrC;rw[afK_0];rfl
@[simp]theorem afR_rd(ws:List (List Nat)) (k j:Int) (r:List Cell):afR 1 1 σ (.ok (.p (.int j)) (rdrC ws k::r))=.ok .nx σ (rdrC ws j::r):=by
 unfold rdrC;rw[afR_e];rfl
end
theorem zEy{ws:List (List Nat)}{k:Nat} (h:k<ws.length):ws[k]?=some (nx ws k):=by
 unfold nx;rw[Vh,Jf h];rfl
theorem zDT{ws:List (List Nat)}{k:Nat} (h:¬k<ws.length):nx ws k=[]:=by
 unfold nx;rw[Vh,Jw ∅];rfl
theorem zG0{ws:List (List Nat)}{K:Int}{k:Nat} (hK:K=k):Rds zAM ws K (.str (S (nx ws k))) K:=by
 refine Rds.of ?_
 by_cases h:k<ws.length
 ·have e:L2.atI (ws.map fun w=>P.str (S w)) K=some (.str (S (nx ws k))):=by
   subst hK;exact L2.atI_nat (by rw[Ji,zEy h];rfl)
  have h2:K<(ws.length:Int):=by omega
  simp[zAM,zAG,h2,e]
 ·have h2:¬K<(ws.length:Int):=by omega
  simp[zAM,zAG,h2,zDT h,k_e]
def isNon:P→Bool
 | .non=>true
 |_=>false
def zDN(l:List P):Bool:=l.any isNon
theorem zRu(x:P):pEq x .non=isNon x:=by cases x<;>rw[pEq]<;>simp[isNon]
theorem zM0{l:List P}{j:Nat}{st:List Cell} (h:st[j]?=some (.lst (l.map W.p))) (ok:∀x∈l,okP 63 x=true):vInB false (.p .non) (.r j) st=.ok (.p (.bl (zDN l))) st:=by
 have e:seqP st (.r j)=some l:=by
  unfold seqP unC;simp[h,zBI]
 have u:unD st (.r j)=toD (.lst l):=by
  unfold unD unC;simp[h,zBI]
 unfold vInB;simp only[e]
 by_cases hf:zD7 .non=true∧l.all zD7=true
 ·rw[Jm hf]
  have:inP .non l=zDN l:=by
   unfold inP zDN
   congr 1
   funext y
   cases y<;>rfl
  simp[this]
 ·rw[Js hf];have oa:l.all (okP 63)=true:=Jp.mpr ok;have sh:okP 64 (.lst l)=true:=by rw[zIC (!0)];exact oa
  obtain⟨d,d1,d2⟩:=zC5 (Jq _) sh;rw[u];have dn:toD .non=some .none:=by rw[toD]
  rw[dn];rw[toD]at d1;rw[toD];split at d1
  ·rename_i ds eds
   cases d1
   have an:∀(l:List P) (ds:List PyData),toDs l=some ds→(ds.any fun z=>PyData.eqv z .none)=zDN l:=by
    intro l
    induction l with
    |nil=>intro ds h;rw[toDs]at h;cases h;rfl
    |cons x l ih =>
     intro ds h;rw[toDs]at h;split at h
     ·rename_i d ds' e1 e2
      cases h;rw[Vp,ih _ e2,zHx e1 dn,zRu];rfl
     ·cases h
   dsimp only;rw[Jm ⟨by rfl,d2⟩,an l ds eds]
   rfl
  ·cases d1
def rJoin(w:List Nat) (l:List P):P:=if zDN l=true then .non else if l.length=1 then l.headD .non else .tup (.str (S w)::l)
theorem zMB{ws:List (List Nat)}{K:Int}{w:List Nat}{l:List P} (ne:l≠[]) (hl:l.length≤1000) (ok:∀x∈l,okP 63 x=true) (rest:List Cell) :
  zAP zAV [.r 0,.p (.str (S w)),.r 1] (rdrC ws K::Cell.lst (l.map W.p)::rest)=.ok (.p (rJoin w l)) (rdrC ws K::Cell.lst (l.map W.p)::rest):=by
 have e:zAV [.r 0,.p (.str (S w)),.r 1] [rdrC ws K,Cell.lst (l.map W.p)]=.ok (.p (rJoin w l)) [rdrC ws K,Cell.lst (l.map W.p)]:=by
  have ni:=zM0 (l:=l) (j:=1) (st:=[rdrC ws K,Cell.lst (l.map W.p)]) rfl ok
  by_cases h1:l.length=1
  ·match l,h1 with
   |[x],_ =>
    by_cases hn:zDN [x]=true
    ·rw[Jk,Vs,hn]at ni;simp[zAV,zAG,ni,hn,rJoin]
    ·have hn':zDN [x]=false:=by simpa using hn
     rw[Jk,Vs,hn']at ni;simp[zAV,zAG,ni,hn,rJoin]
  ·have m1:(l.map W.p).length=l.length:=Jb ..;have m3:=zBI l;have h1':¬(l.length:Int)=1:=by omega
   generalize l.map W.p=m at ni m1 m3 ⊢
   by_cases hn:zDN l=true
   ·simp[zAV,zAG,ni,hn,rJoin]
   ·simp[zAV,zAG,ni,hn,rJoin,h1,h1',m1,m3];omega
 have pl:zBS (Cell.lst (l.map W.p))=true:=by
  show(pures (l.map W.p)).isSome=true;rw[zBI];rfl
 unfold zAP;simp[zAU,zC9,Y.getCells,zIB,pl,e,Y.callEnd,Y.putCells]
theorem zEu(w:List Nat) (hl:w.length≤1000000) (st:List Cell):zAP zBN [.p (.str (S w))] st=.ok (.p (.bl (isDg w))) st:=by
 refine Pu.call1 (Pu.of1 ?_) st;cases w with
 |nil=>simp[zBN,zAG,S_len,isDg]
 |cons d r =>
  cases r with
  |nil =>
   have e:decide (d∈[48,49,50,51,52,53,54,55,56,57])=isDg [d]:=decide_eq_decide.mpr (by simp;omega)
   simp[zBN,zAG,S_len,zGg,k_dg,occ_S,-List.mem_cons,e]
  |cons e r =>
   simp[zBN,zAG,S_len,isDg,hl];simp at hl;omega
theorem zH0{α:Type} (l:List α){a b:Int}{i j:Nat} (ha:a=i) (hb:b=j) (hij:i≤j):cutL l (some a) (some b)=(l.drop i).take (j-i):=by
 subst ha hb;unfold cutL;rw[bB,bB];rcases bh i l.length with h|h
 ·rw[Yy h];rcases bh j l.length with h2|h2
  ·rw[Yy h2]
  ·rw[V1 h2,J0 (by simp),J0 (by simp;omega)]
 ·rw[V1 h,V1 (Jt h hij),JD (Jq _),JD h];simp
def zBz(w:List Nat):Option Str:=if w=[62,61]then some (Str.ofString "at least")else if w=[60,61]then some (Str.ofString "at most")else if w=[61]then some (Str.ofString "equal")else none
def dV(d:Nat):Int:=((d-48:Nat):Int)
def wV(w:List Nat):Int:=match w with
 |[d]=>dV d
 |[45,d] => -dV d
 |_=>0
def rmM(w:List Nat):List Nat:=if w.head?=some 45 then w.drop 1 else w
def rEnd(ws:List (List Nat)) (k:Nat) (fac:P):P×Nat :=
 if nx ws k=[109,111,100]∧k+4≤ws.length∧isDg (nx ws (k+1))=true∧isDg (nx ws (k+3))=true then(.tup [.str (Str.ofString "rest"),fac,.int (wV (nx ws (k+1))),.int (wV (nx ws (k+3)))],k+4)
 else match zBz (nx ws k)with
  |some n=>if k+2≤ws.length∧isDg (rmM (nx ws (k+1)))=true then(.tup [.str n,fac,.int (wV (nx ws (k+1)))],k+2)else(.non,k)
  |none=>(.non,k)
theorem zJv{w:List Nat} (h:isDg w=true):∃d,w=[d]∧48≤d∧d≤57:=by
 unfold isDg at h;split at h
 ·rename_i d
  exact⟨d,rfl,Jv h⟩
 ·cases h
theorem int_w{w:List Nat} (h:isDg (rmM w)=true):PySem.intText? (S w)=some (wV w)∧w.length≤2:=by
 obtain⟨d,e,hd⟩:=zJv h;unfold rmM at e;split at e
 ·rename_i hh
  match w,hh,e with
  |_::r,hh,e =>
   simp at hh e;subst hh e;exact⟨int_mS hd,by simp⟩
 ·subst e;exact⟨int_S hd,by simp⟩
theorem zD1{w:List Nat} (h:isDg (rmM w)=true) (st:List Cell):Y.vInt [.p (.str (S w))] st=.ok (.p (.int (wV w))) st:=by
 obtain⟨h1,h2⟩:=int_w h;unfold Y.vInt;dsimp only;rw[h1];dsimp only;rw[Jm (by rw[S_len];omega)]
theorem zIe{w:List Nat} (h:isDg w=true):rmM w=w:=by
 obtain⟨d,rfl,hd⟩:=zJv h;unfold rmM;rw[Js];simp;omega
theorem zHp:zJV zAf=[W.p (.tup [.str (Str.ofString "at least"),.str (S [62,61])]),W.p (.tup [.str (Str.ofString "at most"),.str (S [60,61])]),W.p (.tup [.str (Str.ofString "equal"),.str (S [61])])]:=by
 unfold zJV zAf;simp[k_ge,k_le,zGV]
theorem zN6(v:List Nat){σ:Sg}{st:List Cell} (h2:σ[2]?=some (some (.p (.str (S v))))) (hl:σ.length=7) :
  mLc (mItT zAf) (.tp [(.nm 5),(.nm 6)]) [5,6] (mTst (mBin (vEqB false) (mVar 6) (mVar 2))) (mVar 5) finP σ st=.ok (.p (.lst (match zBz v with|some n=>[.str n]|none=>[]))) st:=by
 match σ,hl with
 |[s0,s1,s2,s3,s4,s5,s6],_ =>
  simp at h2;subst h2
  by_cases h1:v=[62,61]
  ·simp[zHp,zBH,zCQ,S_eq,zBz,h1]
  ·by_cases h3:v=[60,61]
   ·simp[zHp,zBH,zCQ,S_eq,zBz,h3]
   ·by_cases h4:v=[61]
    ·simp[zHp,zBH,zCQ,S_eq,zBz,h4]
    ·have e1:=Vl h1;have e3:=Vl h3;have e4:=Vl h4;simp[zHp,zBH,zCQ,S_eq,zBz,h1,h3,h4,e1,e3,e4]
theorem zJw(ws:List (List Nat)) (k i:Nat):nx ws (k+i)=(ws.drop k).getD i []:=by
 unfold nx;rw[Vh,Vh,YC]
def okW(w:List Nat):Bool:=decide (w.length≤1000)&&w.all fun c=>decide (c<1114112)
theorem okW.len{w:List Nat} (h:okW w=true):w.length≤1000:=by
 unfold okW at h;rw[Jj]at h;exact Jv h.1
theorem okW.str{w:List Nat} (h:okW w=true):PyData.strOk (S w)=true:=by
 unfold okW at h;rw[Jj]at h
 have:=h.2
 unfold PyData.strOk;simpa using this
theorem zPt{l:List P} (h:l.all (okP 63)=true) (st:List Cell):vEqB false (.p (.lst l)) (.p (.lst [])) st=.ok (.p (.bl l.isEmpty)) st:=by
 rw[zDC (by rw[zIC (!0)];exact h) (by rw[zIC (!0)];rfl)]
 cases l<;>simp
theorem zDF(st:List Cell):vEqB false (.p (.lst [])) (.p (.lst [])) st=.ok (.p (.bl true)) st:=zPt rfl st
theorem zJb{x:P}{l:List P} (h:(x::l).all (okP 63)=true) (st:List Cell):vEqB false (.p (.lst (x::l))) (.p (.lst [])) st=.ok (.p (.bl false)) st:=zPt h st
theorem zIx{v:List Nat}{n:Str} (h:zBz v=some n):PyData.strOk n=true:=by
 unfold zBz at h;split at h
 ·cases h;exact zFE _
 ·split at h
  ·cases h;exact zFE _
  ·split at h
   ·cases h;exact zFE _
   ·cases h
theorem zMz{ws:List (List Nat)}{K:Int}{k:Nat} (hK:K=k) (fac:P) (hw:∀w∈ws,okW w=true) (rest:List Cell) :
  zAP zAW [.r 0,.p fac] (rdrC ws K::rest)=.ok (.p (rEnd ws k fac).1) (rdrC ws (((rEnd ws k fac).2:Nat):Int)::rest):=by
 refine Rds.of1 ?_ rest;have hn:=zG0 (ws:=ws) hK;have hn':∀rest,zAP zAM [.r 0] (rdrC ws K::rest)=.ok (.p (.str (S (nx ws k)))) (rdrC ws K::rest):=hn
 have hcut:cutL (ws.map fun w=>P.str (S w)) (some (K+1)) (some (K+4))=((ws.drop (k+1)).take 3).map fun w=>P.str (S w):=by
  rw[zH0 _ (i:=k+1) (j:=k+4) ∅ ∅ ∅,←YW,←YV]
  congr 2
  omega
 have dg:=fun(w:List Nat) (h:w.length≤1000) st=>zEu w ∅ st
 have nm:=fun(σ:Sg) (st:List Cell) h2 hl=>zN6 (nx ws k) (σ:=σ) (st:=st) h2 hl
 have n1:=zJw ws (k+1);have hl:(ws.drop (k+1)).length=ws.length-(k+1):=Vz ..;have hd:∀w∈ws.drop (k+1),okW w=true:=fun w m=>hw w (Yu m)
 generalize ws.drop (k+1)=L at hcut n1 hl hd;have a1:=n1 0;have a3:=n1 2;rw[show k+1+2=k+3 by omega]at a3
 rw[show k+1+0=k+1 by omega]at a1
 unfold rEnd;rw[a1,a3];clear n1 a1 a3
 by_cases hm:nx ws k=[109,111,100]
 ·have hmS:S (nx ws k)=Str.ofString "mod" := by rw[k_mo,hm]
  have hs:zBz (nx ws k)=none:=by rw[hm];rfl
  rw[hs]at nm;cases L with
  |nil =>
   simp at hl hcut;have h0:¬k+4≤ws.length:=by omega
   rw[Js (fun z=>h0 z.2.1),hs]
   simp[zAW,zAG,hn',hcut,hmS,nm,-zCp,zDF];rw[hK]
  |cons x r =>
   cases r with
   |nil =>
    simp at hl hcut;have h0:¬k+4≤ws.length:=by omega
    rw[Js (fun z=>h0 z.2.1),hs]
    simp[zAW,zAG,hn',hcut,hmS,nm,-zCp,zDF];rw[hK]
   |cons y r =>
    cases r with
    |nil =>
     simp at hl hcut;have h0:¬k+4≤ws.length:=by omega
     rw[Js (fun z=>h0 z.2.1),hs]
     simp[zAW,zAG,hn',hcut,hmS,nm,-zCp,zDF];rw[hK]
    |cons z r =>
     have h0:k+4≤ws.length:=by simp at hl;omega
     have hcut:cutL (List.map (fun w=>P.str (S w)) ws) (some (K+1)) (some (K+4))=[P.str (S x),.str (S y),.str (S z)]:=hcut
     have dgx:=fun st=>dg x (okW.len (hd x (by simp))) st
     have dgz:=fun st=>dg z (okW.len (hd z (by simp))) st
     have g1:([x,y,z]:List (List Nat)).getD 0 []=x:=rfl
     by_cases hx:isDg x=true
     ·have ix:=fun st=>zD1 (w:=x) (by rw[zIe hx];exact hx) st
      by_cases hz:isDg z=true
      ·have iz:=fun st=>zD1 (w:=z) (by rw[zIe hz];exact hz) st
       rw[Jm ⟨hm,h0,hx,hz⟩];simp[zAW,zAG,hn',hcut,hmS,nm,-zCp,zDF,dgx,dgz,hx,hz,ix,iz];rw[hK]
      ·rw[Js (fun q=>hz q.2.2.2),hs]
       simp[zAW,zAG,hn',hcut,hmS,nm,-zCp,zDF,dgx,dgz,hx,hz];rw[hK]
     ·rw[Js (fun q=>hx q.2.2.1),hs]
      simp[zAW,zAG,hn',hcut,hmS,nm,-zCp,zDF,dgx,dgz,hx];rw[hK]
 ·have hmS:¬S (nx ws k)=Str.ofString "mod" := by rw[k_mo,S_eq];exact hm
  cases L with
  |nil =>
   simp at hl hcut;have h0:¬k+2≤ws.length:=by omega
   cases hs:zBz (nx ws k)with
   |none =>
    rw[hs]at nm;simp[zAW,zAG,hn',hcut,hmS,nm,hm,-zCp,zDF];rw[hK]
   |some n =>
    rw[hs]at nm;have e1:=fun st=>zJb (x:=.str n) (l:=[]) (by simp[zIx hs]) st
    simp[zAW,zAG,hn',hcut,hmS,nm,hm,-zCp,h0,zDF,e1];rw[hK]
  |cons x r =>
   have h0:k+2≤ws.length:=by simp at hl;omega
   have hx:=hd x Jc;have hx2:=okW.len hx
   have hM:((r.take 2).map fun w=>P.str (S w)).all (okP 63)=true:=Jp.mpr fun y m=>by
    obtain⟨w,mw,rfl⟩:=Jx.mp m;rw[zNO];exact okW.str (hd w (Jg _ (Yt mw)))
   have e2:List.map (fun w=>P.str (S w)) (List.take 3 (x::r))=P.str (S x)::(r.take 2).map fun w=>P.str (S w):=rfl
   rw[e2]at hcut;have e3:=fun st=>zJb (x:=.str (S x)) (l:=(r.take 2).map fun w=>P.str (S w)) (by rw[VW,hM,zNO,okW.str hx];rfl) st
   generalize ((r.take 2).map fun w=>P.str (S w))=M at hcut e3
   have rm:Txt.removeprefix (S x) (S [45])=S (rmM x):=zP8 x
   have hrl:(rmM x).length≤1000:=by
    unfold rmM;split
    ·rw[Vz];omega
    ·exact hx2
   cases hs:zBz (nx ws k)with
   |none =>
    rw[hs]at nm;simp[zAW,zAG,hn',hcut,hmS,nm,hm,-zCp,zDF];rw[hK]
   |some n =>
    rw[hs]at nm;have e1:=fun st=>zJb (x:=.str n) (l:=[]) (by simp[zIx hs]) st
    have dgx:=fun st=>dg (rmM x) hrl st
    by_cases hdg:isDg (rmM x)=true
    ·have iw:=fun st=>zD1 hdg st
     simp[zAW,zAG,hn',hcut,hmS,nm,hm,-zCp,h0,zDF,e1,e3,k_mi,rm,dgx,hdg,S_len,show x.length≤1000000 by omega,iw]
     rw[hK]
    ·simp[zAW,zAG,hn',hcut,hmS,nm,hm,-zCp,h0,zDF,e1,e3,k_mi,rm,dgx,hdg,S_len,show x.length≤1000000 by omega]
     rw[hK]
theorem zNR{n:Bool}{l m:List P}{j:Nat}{st:List Cell} (h:st[j]?=some (.lst (l.map W.p))):vEqB n (.r j) (.p (.lst m)) st=vEqB n (.p (.lst l)) (.p (.lst m)) st:=by
 have u:unD st (.r j)=unD st (.p (.lst l)):=by
  unfold unD unC;simp[h,zBI]
 have e1:Y.eqW (.r j) (.p (.lst m))=none:=rfl;have e2:Y.eqW (.p (.lst l)) (.p (.lst m))=none:=rfl;unfold vEqB;rw[e1,e2,u]
theorem zRt{a b c:Int}{st:List Cell} (h:st[1]?=some (.lst [.p (.int a),.p (.int b),.p (.int c)])):vEqB false (.r 1) (.p (.lst [.int 0,.int 0,.int 0])) st=.ok (.p (.bl (decide (a=0∧b=0∧c=0)))) st:=by
 rw[zNR (l:=[.int a,.int b,.int c]) h,zDC (by simp) (by simp)]
 simp
 by_cases h1:a=0<;>by_cases h2:b=0<;>by_cases h3:c=0<;>simp[h1,h2,h3]
theorem cut_m2(v:List Nat) (h:2<v.length):cutL v none (some (-2))=v.take (v.length-2):=by
 have e:HT.sIx v.length v.length (some (-2))=v.length-2:=by
  unfold HT.sIx;simp;omega
 unfold cutL;rw[Y3,e];simp
theorem zIJ:Str.ofString "abc" = S [97,98,99]:=by decide +kernel
def zOs(z:Bool) (w:List Nat):Option (Bool×Nat×Int) :=
 let m:=z&&(w.head?==some 45)
 let v:=if m=true then w.drop 1 else w
 match v.getLast? with
 |some c=>if c∈[97,98,99]then
   let q:=if 2<v.length then v.take (v.length-2)else[49]
   if isDg q=true then some (m,c-97,wV q)else none
  else none
 |none=>none
def rAtm(ws:List (List Nat)):Nat→Nat→Int→Int→Int→Int→Option (P×Nat)
 |0,_,_,_,_,_=>none
 |n+1,k,sg,a,b,c=>match zOs (decide (a=0∧b=0∧c=0)) (nx ws k)with
  |none=>some (.non,k+1)
  |some (m,l,d) =>
   let s:=if m=true then -1 else sg
   let a':=if l=0 then a+s*d else a
   let b':=if l=1 then b+s*d else b
   let c':=if l=2 then c+s*d else c
   if nx ws (k+1)=[43]then rAtm ws n (k+2) 1 a' b' c'
   else if nx ws (k+1)=[45]then rAtm ws n (k+2) (-1) a' b' c'
   else some (rEnd ws (k+1) (T3 a' b' c'))
def zK7(ws:List (List Nat)) (k:Nat):Option (P×Nat):=rAtm ws 1000 k 1 0 0 0
def atR3:SMm:=(sSeq (sIf (mTst (mBin (vInB true) (zB1 1 zAM (mVar 0) mNil) (mTup %[(mC (.str "+")),(mC (.str "-"))|0]))) sBrk sNx) (sSeq (sSet 2 (mIfE (mTst (mBin (vEqB false) (zB1 1 zAM (mVar 0) mNil) (mC (.str "+")))) (mC (.int 1)) (mNeg (mC (.int 1))))) (zFA zD5 [(1,1)] (mVar 0) (mC (.int 1)))))
def atR2:SMm:=(sSeq (zIp zD5 (mVar 1) (mBm "str" zEv (mC (.str "abc")) %[(mBin vIx (mVar 3) (mNeg (mC (.int 1))))|0]) (mBin zE2 (mVar 2) (zAJ vInt %[(mVar 4)|0]))) atR3)
def atR1:SMm:=(sSeq (sIf (mOrT (mTst (mBin (vEqB false) (mVar 3) (mC (.str "")))) (mTst (mBin (vInB true) (mBin vIx (mVar 3) (mNeg (mC (.int 1)))) (mC (.str "abc"))))) (sRet (mC .non)) sNx) (sSeq (sSet 4 (mIfE (mTst (mBin vGt (zAJ vLen %[(mVar 3)|0]) (mC (.int 2)))) (mSl (mVar 3) zCi (zA0 (mNeg (mC (.int 2))))) (mC (.str "1")))) (sSeq (sIf (zDK (mTru (zAH zBN %[(mVar 4)|0]))) (sRet (mC .non)) sNx) atR2)))
def zE8:SMm:=(sSeq (sSet 3 (zB1 1 zAM (mVar 0) mNil)) (sSeq (zFA zD5 [(1,1)] (mVar 0) (mC (.int 1))) (sSeq (sIf (zDV (mTru (mBm "str" zGy (mVar 3) %[(mC (.str "-"))|0])) (mTst (mBin (vEqB false) (mVar 1) (mLst %[(mC (.int 0)),(mC (.int 0)),(mC (.int 0))|0])))) (sPar 2 3 %[(mNeg (mC (.int 1))),(mSl (mVar 3) (zA0 (mC (.int 1))) zCi)|0]) sNx) atR1)))
def atEnd:SMm:=(sRet (zB1 1 zAW (mVar 0) %[(zAJ zCI %[(mVar 1)|0])|0]))
theorem zQo:zB4=runF 1 5 (sSeq (sSet 1 (zCs %[(mC (.int 0)),(mC (.int 0)),(mC (.int 0))|0])) (sSeq (sSet 2 (mC (.int 1))) (sSeq (zDa 1000 (mTru (mC (.bl true))) zE8) atEnd))):=rfl
def atSt(ws:List (List Nat)) (K a b c:Int):List Cell:=[rdrC ws K,Cell.lst [.p (.int a),.p (.int b),.p (.int c)]]
def atSg(sg:Int) (x y:Option W):Sg:=[some (.r 0),some (.r 1),some (.p (.int sg)),x,y]
theorem at_A{ws:List (List Nat)}{K sg a b c:Int}{x y:Option W}{w:List Nat} (nxt:∀rest,zAP zAM [.r 0] (rdrC ws K::rest)=.ok (.p (.str (S w))) (rdrC ws K::rest)) (lw:w.length≤1000) :
  zE8 (atSg sg x y) (atSt ws K a b c)=if(decide (a=0∧b=0∧c=0)&&(w.head?==some 45))=true then atR1 (atSg (-1) (some (.p (.str (S (w.drop 1))))) y) (atSt ws (K+1) a b c)else atR1 (atSg sg (some (.p (.str (S w)))) y) (atSt ws (K+1) a b c):=by
 have z:=fun(st:List Cell) h=>zRt (a:=a) (b:=b) (c:=c) (st:=st) h
 have ss:=zOH 45 w;have cs:cutS (S w) (some 1) none=S (w.drop 1):=by rw[zEn,zGJ (!0)];rfl
 by_cases hh:w.head?=some 45
 ·by_cases hz:a=0∧b=0∧c=0
  ·simp[zE8,atSg,atSt,nxt,k_mi,ss,hh,z,hz,cs,S_len,show w.length≤1000000 by omega]
  ·simp[zE8,atSg,atSt,nxt,k_mi,ss,hh,z,hz]
 ·simp[zE8,atSg,atSt,nxt,k_mi,ss,hh]
theorem at_B{ws:List (List Nat)}{K sg a b c:Int}{y:Option W}{v:List Nat} (lv:v.length≤1000) :
  atR1 (atSg sg (some (.p (.str (S v)))) y) (atSt ws K a b c)=match v.getLast? with
   |some d=>if d∈[97,98,99]then(if isDg (if 2<v.length then v.take (v.length-2)else[49])=true then atR2 (atSg sg (some (.p (.str (S v)))) (some (.p (.str (S (if 2<v.length then v.take (v.length-2)else[49])))))) (atSt ws K a b c)else .ok (.rt (.p .non)) (atSg sg (some (.p (.str (S v)))) (some (.p (.str (S (if 2<v.length then v.take (v.length-2)else[49])))))) (atSt ws K a b c))else .ok (.rt (.p .non)) (atSg sg (some (.p (.str (S v)))) y) (atSt ws K a b c)
   |none=>.ok (.rt (.p .non)) (atSg sg (some (.p (.str (S v)))) y) (atSt ws K a b c):=by
 cases hl:v.getLast? with
 |none =>
  have:v=[]:=by simpa using hl
  subst this;simp[atR1,atSg,atSt,k_e,S_eq]
 |some d =>
  have hv:¬v=[]:=fun e=>by rw[e]at hl;cases hl
  have li:L2.atI v (-1)=some d:=by rw[zNC,hl]
  have oc:=occ_S d [97,98,99];have sd:(⟨#[d]⟩:Str)=S [d]:=rfl;dsimp only
  by_cases hd:d∈[97,98,99]
  ·rw[Jm hd];rw[JO hd]at oc
   by_cases h2:2<v.length
   ·have cs:cutS (S v) none (some (-2))=S (v.take (v.length-2)):=by rw[zEn,cut_m2 v h2]
    have dg:=fun st=>zEu (v.take (v.length-2)) (by simp;omega) st
    rw[Jm h2]
    by_cases hg:isDg (v.take (v.length-2))=true
    ·rw[Jm hg];simp[atR1,atSg,atSt,k_e,S_eq,hv,S_len,show v.length≤1000000 by omega,li,zIJ,zGg,sd,oc,h2,cs,dg,hg]
     intro hq;omega
    ·rw[Js hg];simp[atR1,atSg,atSt,k_e,S_eq,hv,S_len,show v.length≤1000000 by omega,li,zIJ,zGg,sd,oc,h2,cs,dg,hg]
     intro hq;omega
   ·have k1:Str.ofString "1" = S [49]:=by decide +kernel
    have dg:=fun st=>zEu [49] (by simp) st
    have h2':¬(2<(v.length:Int)):=by omega
    rw[Js h2,Jm (by rfl)]
    simp[atR1,atSg,atSt,k_e,S_eq,hv,S_len,show v.length≤1000000 by omega,li,zIJ,zGg,sd,oc,h2,k1,dg,show isDg [49]=true from rfl]
    intro hq;omega
  ·rw[Js hd];rw[JS hd]at oc;simp[atR1,atSg,atSt,k_e,S_eq,hv,S_len,show v.length≤1000000 by omega,li,zIJ,zGg,sd,oc]
theorem zO1{q:List Nat} (h:isDg q=true):0≤wV q∧wV q≤9:=by
 obtain⟨d,rfl,hd⟩:=zJv h;show 0≤dV d∧dV d≤9;unfold dV;omega
theorem at_C{ws:List (List Nat)}{K s a b c:Int}{v q:List Nat}{d:Nat} (lv:v.length≤1000) (hl:v.getLast?=some d) (hd:d∈[97,98,99]) (hq:isDg q=true) (hs:s=1∨s = -1) :
  atR2 (atSg s (some (.p (.str (S v)))) (some (.p (.str (S q))))) (atSt ws K a b c)=atR3 (atSg s (some (.p (.str (S v)))) (some (.p (.str (S q))))) (atSt ws K (if d-97=0 then a+s*wV q else a) (if d-97=1 then b+s*wV q else b) (if d-97=2 then c+s*wV q else c)):=by
 have li:L2.atI v (-1)=some d:=by rw[zNC,hl]
 have sd:(⟨#[d]⟩:Str)=S [d]:=rfl;have fi:=zPX d hd;have iq:=fun st=>zD1 (w:=q) (by rw[zIe hq];exact hq) st
 have dl:=zO1 hq;have mo:zDS s (wV q)=true:=mulOk_of (Sm.small ∅) (Sm.small ∅);have hd':d=97∨d=98∨d=99:=by simpa using hd
 rcases hd' with rfl|rfl|rfl
 ·simp[atR2,atSg,atSt,S_len,show v.length≤1000000 by omega,li,zIJ,sd,fi,iq,mo,zGl,zFn]
 ·simp[atR2,atSg,atSt,S_len,show v.length≤1000000 by omega,li,zIJ,sd,fi,iq,mo,zGl,zFn]
 ·simp[atR2,atSg,atSt,S_len,show v.length≤1000000 by omega,li,zIJ,sd,fi,iq,mo,zGl,zFn]
theorem at_D{ws:List (List Nat)}{K sg a b c:Int}{x y:Option W}{u:List Nat} (nxt:∀rest,zAP zAM [.r 0] (rdrC ws K::rest)=.ok (.p (.str (S u))) (rdrC ws K::rest)) :
  atR3 (atSg sg x y) (atSt ws K a b c)=if u=[43]then .ok .nx (atSg 1 x y) (atSt ws (K+1) a b c)else if u=[45]then .ok .nx (atSg (-1) x y) (atSt ws (K+1) a b c)else .ok .bk (atSg sg x y) (atSt ws K a b c):=by
 by_cases h1:u=[43]
 ·subst h1;simp[atR3,atSg,atSt,nxt,k_pl,k_mi,inP,eqF,S_beq]
 ·by_cases h2:u=[45]
  ·subst h2;simp[atR3,atSg,atSt,nxt,k_pl,k_mi,inP,eqF,S_beq,S_eq]
  ·simp[atR3,atSg,atSt,nxt,k_pl,k_mi,inP,eqF,S_beq,h1,h2,Vl h1,Vl h2]
theorem zFQ{c:TM}{b:SMm}{n:Nat}{σ σ2:Sg}{st st2:List Cell} (hc:c σ st=.ok true st) (hb:b σ st=.ok .nx σ2 st2):zBh c b (n+1) σ st=zBh c b n σ2 st2:=by
 rw[zBh,hc,Res.to_ok];simp only[VG,hb]
theorem zKY{c:TM}{b:SMm}{n:Nat}{σ σ2:Sg}{st st2:List Cell} (hc:c σ st=.ok true st) (hb:b σ st=.ok .bk σ2 st2):zBh c b (n+1) σ st=.ok .nx σ2 st2:=by
 rw[zBh,hc,Res.to_ok];simp only[VG,hb]
theorem zJ5{c:TM}{b:SMm}{n:Nat}{σ σ2:Sg}{st st2:List Cell}{w:W} (hc:c σ st=.ok true st) (hb:b σ st=.ok (.rt w) σ2 st2):zBh c b (n+1) σ st=.ok (.rt w) σ2 st2:=by
 rw[zBh,hc,Res.to_ok];simp only[VG,hb]
theorem zER(σ:Sg) (st:List Cell):mTru (mC (.bl true)) σ st=.ok true st:=rfl
theorem at_end{ws:List (List Nat)} (hw:∀w∈ws,okW w=true){K a b c sg:Int}{k:Nat} (hK:K=k) (x y:Option W):Gr ws (rEnd ws k (T3 a b c)).1 (((rEnd ws k (T3 a b c)).2:Nat):Int) (runR (atEnd (atSg sg x y) (atSt ws K a b c))):=by
 have e:=fun rest=>zMz hK (T3 a b c) hw rest
 simp[atEnd,atSg,atSt,e]
theorem zNq{ws:List (List Nat)} (hw:∀w∈ws,okW w=true):∀(m n k:Nat) (K sg a b c:Int) (r:P×Nat) (x y:Option W),m≤n→K=k→(sg=1∨sg = -1)→rAtm ws m k sg a b c=some r →
  Gr ws r.1 ((r.2:Nat):Int) (runR ((zBh (mTru (mC (.bl true))) zE8 n (atSg sg x y) (atSt ws K a b c)).then atEnd)):=by
 intro m
 induction m with
 |zero=>intro n k K sg a b c r x y _ _ _ h;cases h
 |succ m ih =>
  intro n k K sg a b c r x y hn hK hsg h;obtain⟨n,rfl⟩:∃j,n=j+1:=⟨n-1,∅⟩;have nxt:∀rest,zAP zAM [.r 0] (rdrC ws K::rest)=.ok (.p (.str (S (nx ws k)))) (rdrC ws K::rest):=zG0 (ws:=ws) hK;have nxt2:∀rest,zAP zAM [.r 0] (rdrC ws (K+1)::rest)=.ok (.p (.str (S (nx ws (k+1))))) (rdrC ws (K+1)::rest):=zG0 (ws:=ws) (K:=K+1) (k:=k+1) ∅
  have okk:okW (nx ws k)=true:=by
   by_cases hk:k<ws.length
   ·exact hw _ (Jn (zEy hk))
   ·rw[zDT hk];rfl
  have lk:=okW.len okk;rw[rAtm]at h;have hA:=at_A (ws:=ws) (K:=K) (sg:=sg) (a:=a) (b:=b) (c:=c) (x:=x) (y:=y) nxt lk;unfold zOs at h;generalize hz:(decide (a=0∧b=0∧c=0)&&(nx ws k).head?==some 45)=z at h hA
  have hA:zE8 (atSg sg x y) (atSt ws K a b c)=atR1 (atSg (if z=true then -1 else sg) (some (.p (.str (S (if z=true then(nx ws k).drop 1 else nx ws k))))) y) (atSt ws (K+1) a b c):=by
   rw[hA];cases z<;>rfl
  have hs:(if z=true then(-1:Int)else sg)=1∨(if z=true then(-1:Int)else sg) = -1:=by
   cases z
   ·exact hsg
   ·exact .inr rfl
  have lv:(if z=true then(nx ws k).drop 1 else nx ws k).length≤1000:=by
   cases z
   ·exact lk
   ·show((nx ws k).drop 1).length≤1000;rw[Vz];omega
  dsimp only at h;generalize (if z=true then(nx ws k).drop 1 else nx ws k)=v at h hA lv
  have hB:=at_B (ws:=ws) (K:=K+1) (sg:=if z=true then -1 else sg) (a:=a) (b:=b) (c:=c) (y:=y) lv
  rw[←hA]at hB
  have fail:∀(σ:Sg),zE8 (atSg sg x y) (atSt ws K a b c)=.ok (.rt (.p .non)) σ (atSt ws (K+1) a b c)→some (P.non,k+1)=some r→Gr ws r.1 ((r.2:Nat):Int) (runR ((zBh (mTru (mC (.bl true))) zE8 (n+1) (atSg sg x y) (atSt ws K a b c)).then atEnd)):=fun σ e q=>by
   cases q;rw[zJ5 (zER _ _) e];have e2:(((k+1:Nat)):Int)=K+1:=by omega
   show Gr ws .non ((k+1:Nat):Int) _;rw[e2];exact⟨rfl,rfl⟩
  cases hl:v.getLast? with
  |none =>
   rw[hl]at h hB;exact fail _ hB h
  |some d =>
   rw[hl]at h hB;dsimp only at h hB
   by_cases hd:d∈[97,98,99]
   ·rw[Jm hd]at h hB
    by_cases hq:isDg (if 2<v.length then v.take (v.length-2)else[49])=true
    ·rw[Jm hq]at h hB;dsimp only at h;generalize (if 2<v.length then v.take (v.length-2)else[49])=q at h hB hq
     generalize (if z=true then(-1:Int)else sg)=s at h hB hs
     rw[at_C lv hl hd hq hs,at_D nxt2]at hB;generalize (if d-97=0 then a+s*wV q else a)=a' at h hB
     generalize (if d-97=1 then b+s*wV q else b)=b' at h hB
     generalize (if d-97=2 then c+s*wV q else c)=c' at h hB
     by_cases h1:nx ws (k+1)=[43]
     ·rw[Jm h1]at h hB;rw[zFQ (zER _ _) hB];exact ih n (k+2) (K+1+1) 1 a' b' c' r _ _ ∅ ∅ (.inl rfl) h
     ·rw[Js h1]at h hB
      by_cases h2:nx ws (k+1)=[45]
      ·rw[Jm h2]at h hB;rw[zFQ (zER _ _) hB];exact ih n (k+2) (K+1+1) (-1) a' b' c' r _ _ ∅ ∅ (.inr rfl) h
      ·rw[Js h2]at h hB;rw[zKY (zER _ _) hB];cases h;exact at_end hw ∅ _ _
    ·rw[Js hq]at h hB;exact fail _ hB h
   ·rw[Js hd]at h hB;exact fail _ hB h
theorem zQF{ws:List (List Nat)} (hw:∀w∈ws,okW w=true){K:Int}{k:Nat} (hK:K=k){r:P×Nat} (h:zK7 ws k=some r):Rds zB4 ws K r.1 ((r.2:Nat):Int):=by
 refine Rds.of ?_
 have:=zNq hw 1000 1000 k K 1 0 0 0 r none none (Jq _) hK (.inl rfl) h
 rw[zQo];simpa[zAG,atSg,atSt]using this
def zM9(W:Str):TM:=mTst (mBin (vEqB false) (zB1 1 zAM (mVar 0) mNil) (mC (.str W)))
def zPB(G:FM):SMm:=sSeq (zFA zD5 [(1,1)] (mVar 0) (mC (.int 1))) (zEG (mBm "list" zBm (mVar 1) %[(zB1 1 G (mVar 0) mNil)|0]))
def zOO(W:Str):SMm:=sRet (zB1 1 zAV (mVar 0) %[(mC (.str W)),(mVar 1)|0])
def zM5(G:FM) (W:Str):FM:=runF 1 2 (sSeq (sSet 1 (zCs %[(zB1 1 G (mVar 0) mNil)|0])) (sSeq (zDa 1000 (zM9 W) (zPB G)) (zOO W)))
theorem all_eq(G:FM):zBi G=zM5 G (Str.ofString "and"):=rfl
theorem any_eq(G:FM):zAt G=zM5 (zBi G) (Str.ofString "or"):=rfl
def zDD(F:Nat→Option (P×Nat)) (w:List Nat) (ws:List (List Nat)):Nat→Nat→Option (List P×Nat)
 |0,_=>none
 |m+1,k=>match F k with
  |none=>none
  |some (r,j)=>if okP 63 r=true then(if nx ws j=w then(match zDD F w ws m (j+1)with
    |some (l,e)=>some (r::l,e)
    |none=>none)else some ([r],j))else none
def zCT(F:Nat→Option (P×Nat)) (w:List Nat) (ws:List (List Nat)) (k:Nat):Option (P×Nat):=match zDD F w ws 900 k with
 |some (l,e)=>some (rJoin w l,e)
 |none=>none
def RdF(G:FM) (ws:List (List Nat)) (F:Nat→Option (P×Nat)):Prop:=∀(k:Nat) (K:Int) (r:P) (j:Nat),K=k→F k=some (r,j)→Rds G ws K r (j:Int)
def mSg:Sg:=[some (.r 0),some (.r 1)]
def mSt(ws:List (List Nat)) (K:Int) (M:List W):List Cell:=[rdrC ws K,Cell.lst M]
theorem zMt{ws:List (List Nat)}{K:Int}{k:Nat} (hK:K=k) (w:List Nat) (M:List W):zM9 (S w) mSg (mSt ws K M)=.ok (decide (nx ws k=w)) (mSt ws K M):=by
 have nxt:∀rest,zAP zAM [.r 0] (rdrC ws K::rest)=.ok (.p (.str (S (nx ws k)))) (rdrC ws K::rest):=zG0 (ws:=ws) hK
 by_cases h:nx ws k=w
 ·simp[zM9,mSg,mSt,nxt,S_eq,h]
 ·simp[zM9,mSg,mSt,nxt,S_eq,h]
theorem many_B{G:FM}{ws:List (List Nat)}{F:Nat→Option (P×Nat)} (hG:RdF G ws F){K:Int}{k:Nat} (hK:K=k){M:List W}{r:P}{j:Nat} (hF:F (k+1)=some (r,j)) (hM:M.length<1000):zPB G mSg (mSt ws K M)=.ok .nx mSg (mSt ws (j:Int) (M++[.p r])):=by
 have e:∀rest,zAP G [.r 0] (rdrC ws (K+1)::rest)=.ok (.p r) (rdrC ws (j:Int)::rest):=hG (k+1) (K+1) r j ∅ hF;simp[zPB,mSg,mSt,e,show M.length<1000000 by omega]
theorem zPn{ws:List (List Nat)}{K:Int}{w:List Nat}{l:List P} (ne:l≠[]) (hl:l.length≤1000) (ok:∀x∈l,okP 63 x=true):Gr ws (rJoin w l) K (runR (zOO (S w) mSg (mSt ws K (l.map W.p)))):=by
 have e:=zMB (ws:=ws) (K:=K) (w:=w) ne hl ok [];generalize l.map W.p=M at e;simp[zOO,mSg,mSt,e]
theorem zHl{c:TM}{b:SMm}{n:Nat}{σ:Sg}{st:List Cell} (hc:c σ st=.ok false st):zBh c b (n+1) σ st=.ok .nx σ st:=by
 rw[zBh,hc,Res.to_ok];simp
theorem zL1{G:FM}{ws:List (List Nat)}{F:Nat→Option (P×Nat)} (hG:RdF G ws F) (w:List Nat):∀(m n j:Nat) (J:Int) (acc l:List P) (e:Nat) (M:List W),m<n→J=j→acc≠[]→(∀x∈acc,okP 63 x=true)→M=acc.map W.p→acc.length+m≤1000 →
  (if nx ws j=w then zDD F w ws m (j+1)else some ([],j))=some (l,e) →
  Gr ws (rJoin w (acc++l)) (e:Int) (runR ((zBh (zM9 (S w)) (zPB G) n mSg (mSt ws J M)).then (zOO (S w)))):=by
 intro m
 induction m with
 |zero =>
  intro n j J acc l e M hn hJ ne ok hM hl h;obtain⟨n,rfl⟩:∃i,n=i+1:=⟨n-1,∅⟩
  by_cases hw:nx ws j=w
  ·rw[Jm hw]at h;cases h
  ·rw[Js hw]at h;cases h;rw[zHl (by rw[zMt hJ,JS hw])]
   subst hM hJ;rw[JK];exact zPn ne ∅ ok
 |succ m ih =>
  intro n j J acc l e M hn hJ ne ok hM hl h;obtain⟨n,rfl⟩:∃i,n=i+1:=⟨n-1,∅⟩
  by_cases hw:nx ws j=w
  ·rw[Jm hw,zDD]at h;split at h
   ·cases h
   ·rename_i r j2 hF
    split at h
    ·rename_i okr
     have hb:=many_B (M:=M) hG hJ hF (by rw[hM,Jb];omega)
     rw[zFQ (by rw[zMt hJ,JO hw]) hb]
     have ok2:∀x∈acc++[r],okP 63 x=true:=fun x mx=>by
      rcases JC.mp mx with q|q
      ·exact ok x q
      ·have:x=r:=by simpa using q
       rw[this];exact okr
     have go:=fun(l2:List P) (e2:Nat) (h2:(if nx ws j2=w then zDD F w ws m (j2+1)else some ([],j2))=some (l2,e2)) =>
      ih n j2 (j2:Int) (acc++[r]) l2 e2 (M++[.p r]) ∅ rfl (by simp) ok2 (by rw[hM];simp) (by simp;omega) h2
     by_cases hw2:nx ws j2=w
     ·rw[Jm hw2]at h;split at h
      ·rename_i l2 e2 h2
       cases h
       have:=go l2 e (by rw[Jm hw2];exact h2)
       simpa using this
      ·cases h
     ·rw[Js hw2]at h;cases h
      have:=go [] _ (by rw[Js hw2])
      simpa using this
    ·cases h
  ·rw[Js hw]at h;cases h;rw[zHl (by rw[zMt hJ,JS hw])]
   subst hM hJ;rw[JK];exact zPn ne ∅ ok
theorem zNN{G:FM}{ws:List (List Nat)}{F:Nat→Option (P×Nat)} (hG:RdF G ws F) (w:List Nat){W0:Str} (hW:W0=S w):RdF (zM5 G W0) ws (zCT F w ws):=by
 intro k K r j hK h;unfold zCT at h;rw[zDD]at h;cases hF:F k with
 |none=>rw[hF]at h;cases h
 |some q =>
  obtain⟨r0,j0⟩:=q;rw[hF]at h;dsimp only at h
  by_cases okr:okP 63 r0=true
  ·rw[Jm okr]at h;have e0:∀rest,zAP G [.r 0] (rdrC ws K::rest)=.ok (.p r0) (rdrC ws (j0:Int)::rest):=hG k K r0 j0 hK hF
   have go:=fun(l:List P) (e:Nat) (h2:(if nx ws j0=w then zDD F w ws 899 (j0+1)else some ([],j0))=some (l,e)) =>
    zL1 hG w 899 1000 j0 (j0:Int) [r0] l e [.p r0] (!0) rfl (by simp) (by simpa using okr) rfl (by simp) h2
   have fin:∀(l:List P) (e:Nat),(if nx ws j0=w then zDD F w ws 899 (j0+1)else some ([],j0))=some (l,e)→Rds (zM5 G W0) ws K (rJoin w (r0::l)) (e:Int):=fun l e h2=>by
    refine Rds.of ?_
    have:=go l e h2
    subst hW;simpa[zM5,zAG,e0,mSg,mSt]using this
   by_cases hw:nx ws j0=w
   ·rw[Jm hw]at h;split at h
    ·rename_i l e h2
     cases h;split at h2
     ·rename_i l2 e2 h3
      cases h2;exact fin l2 _ (by rw[Jm hw];exact h3)
     ·cases h2
    ·cases h
   ·rw[Js hw]at h;cases h;exact fin [] _ (by rw[Js hw])
  ·rw[Js okr]at h;cases h
def zDw(ws:List (List Nat)):Nat→Nat→Option (P×Nat)
 |0,_=>none
 |n+1,k=>if nx ws k=[110,111,116]then(match zDw ws n (k+1)with
   |some (r,j)=>some (if isNon r=true then .non else .tup [.str (Str.ofString "not"),r],j)
   |none=>none)
  else if nx ws k=[40]then(match zCT (zCT (zDw ws n) [97,110,100] ws) [111,114] ws (k+1)with
   |some (r,j)=>some (r,j+1)
   |none=>none)
  else zK7 ws k
def rAny(ws:List (List Nat)) (n:Nat):Nat→Option (P×Nat):=zCT (zCT (zDw ws n) [97,110,100] ws) [111,114] ws
theorem zMA{ws:List (List Nat)}{n:Nat} (h:RdF (zAZ n) ws (zDw ws n)):RdF (zAt (zAZ n)) ws (rAny ws n):=by
 rw[any_eq,all_eq];exact zNN (zNN h _ zI8) _ k_or
theorem zKb(x:P) (st:List Cell):vIsN false (.p x) (.p .non) st=.ok (.p (.bl (isNon x))) st:=by
 cases x<;>rfl
theorem zMj{ws:List (List Nat)} (hw:∀w∈ws,okW w=true):∀n:Nat,RdF (zAZ n) ws (zDw ws n):=by
 intro n
 induction n with
 |zero=>intro k K r j _ h;cases h
 |succ n ih =>
  intro k K r j hK h;have nxt:∀rest,zAP zAM [.r 0] (rdrC ws K::rest)=.ok (.p (.str (S (nx ws k)))) (rdrC ws K::rest):=zG0 (ws:=ws) hK;refine Rds.of ?_
  rw[zDw]at h
  by_cases h1:nx ws k=[110,111,116]
  ·rw[Jm h1]at h;split at h
   ·rename_i r2 j2 h2
    cases h;have e:∀rest,zAP (zAZ n) [.r 0] (rdrC ws (K+1)::rest)=.ok (.p r2) (rdrC ws (j:Int)::rest):=ih (k+1) (K+1) r2 j ∅ h2;have inn:=fun st=>zKb r2 st
    by_cases hn:isNon r2=true
    ·simp[zAZ,zAG,nxt,h1,k_nt,e,inn,hn]
    ·simp[zAZ,zAG,nxt,h1,k_nt,e,inn,hn]
   ·cases h
  ·rw[Js h1]at h
   by_cases h3:nx ws k=[40]
   ·rw[Jm h3]at h;split at h
    ·rename_i r2 j2 h2
     cases h;have e:∀rest,zAP (zAt (zAZ n)) [.r 0] (rdrC ws (K+1)::rest)=.ok (.p r) (rdrC ws (j2:Int)::rest):=zMA ih (k+1) (K+1) r j2 ∅ h2;simp[zAZ,zAG,nxt,h3,k_nt,k_op,S_eq,e]
    ·cases h
   ·rw[Js h3]at h;have e:∀rest,zAP zB4 [.r 0] (rdrC ws K::rest)=.ok (.p r) (rdrC ws (j:Int)::rest):=zQF hw hK h;simp[zAZ,zAG,nxt,h1,h3,k_nt,k_op,S_eq,e]
def HasW(ws:List (List Nat)) (k:Nat) (l:List (List Nat)):Prop:=∃rest,ws.drop k=l++rest
theorem HasW.cons{ws:List (List Nat)}{k:Nat}{x:List Nat}{l:List (List Nat)} (h:HasW ws k (x::l)):nx ws k=x∧k<ws.length∧HasW ws (k+1) l:=by
 obtain⟨r,e⟩:=h
 have hk:k<ws.length:=by
  by_cases hk:k<ws.length
  ·exact hk
  ·rw[JD ∅]at e;simp at e
 have e1:=zJw ws k 0;rw[e]at e1;refine⟨by simpa using e1,hk,r,?_⟩
 have:ws.drop (k+1)=(ws.drop k).drop 1:=by rw[br]
 rw[this,e];rfl
theorem HasW.app{ws:List (List Nat)}{k:Nat}{a b:List (List Nat)} (h:HasW ws k (a++b)):HasW ws k a∧HasW ws (k+a.length) b:=by
 obtain⟨r,e⟩:=h;refine⟨⟨b++r,by rw[e,Vi]⟩,r,?_⟩
 have:ws.drop (k+a.length)=(ws.drop k).drop a.length:=by rw[br]
 rw[this,e,Vi,List.drop_left]
def zK3:Nat→List (List Nat)→Int→Int→Int→Int→Option (Int×Int×Int)
 |0,_,_,_,_,_=>none
 |_+1,[],_,_,_,_=>none
 |n+1,w::rest,sg,a,b,c=>match zOs (decide (a=0∧b=0∧c=0)) w with
  |none=>none
  |some (m,l,d) =>
   let s:=if m=true then -1 else sg
   let a':=if l=0 then a+s*d else a
   let b':=if l=1 then b+s*d else b
   let c':=if l=2 then c+s*d else c
   match rest with
   |[]=>some (a',b',c')
   |q::r=>if q=[43]then zK3 n r 1 a' b' c' else if q=[45]then zK3 n r (-1) a' b' c' else none
theorem zKp{ws:List (List Nat)}:∀(m:Nat) (l:List (List Nat)) (k:Nat) (sg a b c x y z:Int) (m2:Nat),m≤m2→zK3 m l sg a b c=some (x,y,z)→HasW ws k l→nx ws (k+l.length)≠[43]→nx ws (k+l.length)≠[45]→rAtm ws m2 k sg a b c=some (rEnd ws (k+l.length) (T3 x y z)):=by
 intro m
 induction m with
 |zero=>intro l k sg a b c x y z m2 _ h;cases l<;>cases h
 |succ m ih =>
  intro l k sg a b c x y z m2 hm h hh h1 h2;obtain⟨m2,rfl⟩:∃i,m2=i+1:=⟨m2-1,∅⟩;cases l with
  |nil=>cases h
  |cons w rest =>
   obtain⟨e1,e2,e3⟩:=hh.cons;rw[zK3]at h;rw[rAtm,e1];cases ht:zOs (decide (a=0∧b=0∧c=0)) w with
   |none=>rw[ht]at h;cases h
   |some q =>
    obtain⟨mi,p,d⟩:=q;rw[ht]at h;dsimp only at h ⊢;cases rest with
    |nil =>
     dsimp only at h;have h1:nx ws (k+1)≠[43]:=h1;have h2:nx ws (k+1)≠[45]:=h2;rw[Js h1,Js h2];cases h;rfl
    |cons q r =>
     dsimp only at h;obtain⟨f1,f2,f3⟩:=e3.cons;have el:k+(w::q::r).length=k+2+r.length:=by simp;omega
     rw[el]at h1 h2 ⊢;rw[f1]
     by_cases c1:q=[43]
     ·rw[Jm c1]at h ⊢;exact ih r (k+2) 1 _ _ _ x y z m2 ∅ h f3 h1 h2
     ·rw[Js c1]at h ⊢
      by_cases c2:q=[45]
      ·rw[Jm c2]at h ⊢;exact ih r (k+2) (-1) _ _ _ x y z m2 ∅ h f3 h1 h2
      ·rw[Js c2]at h;cases h
theorem zPE:∀a∈i7,∀b∈i7,∀c∈i7,a=0∧b=0∧c=0∨zK3 4 (sumW a b c) 1 0 0 0=some (a,b,c):=by decide +kernel
theorem zKV{a b c:Int} (h:F3 a b c):zK3 4 (sumW a b c) 1 0 0 0=some (a,b,c):=by
 obtain⟨h1,h2,h3,h4⟩:=h;exact(zPE a (mem7 h1.1 h1.2) b (mem7 h2.1 h2.2) c (mem7 h3.1 h3.2)).resolve_left h4
theorem zHX{n:Int} (h : -9≤n) (h2:n≤9):isDg (rmM (numN n))=true∧wV (numN n)=n:=by
 rcases num9 h h2 with rfl|rfl|rfl|rfl|rfl|rfl|rfl|rfl|rfl|rfl|rfl|rfl|rfl|rfl|rfl|rfl|rfl|rfl|rfl<;>decide +kernel
theorem zKs{n:Int} (h:0≤n) (h2:n≤9):isDg (numN n)=true:=by
 rcases num9 (show -9≤n by omega) h2 with rfl|rfl|rfl|rfl|rfl|rfl|rfl|rfl|rfl|rfl|rfl|rfl|rfl|rfl|rfl|rfl|rfl|rfl|rfl<;>first|decide +kernel|omega
theorem zQ6{ws:List (List Nat)}{k:Nat}{w:Wd}{n:Int} (h : -9≤n) (h2:n≤9) (hh:HasW ws k [sgN w,numN n]) (fac:P):rEnd ws k fac=(.tup [.str w.s,fac,.int n],k+2):=by
 obtain⟨e1,e2,e3⟩:=hh.cons;obtain⟨f1,f2,f3⟩:=e3.cons;obtain⟨v1,v2⟩:=zHX h h2;unfold rEnd;rw[e1,f1,Js (fun z=>by have:=z.1;cases w<;>simp[sgN]at this)]
 have hs:zBz (sgN w)=some w.s:=by cases w<;>rfl
 rw[hs];dsimp only;rw[Jm ⟨∅,v1⟩,v2]
theorem zMe{ws:List (List Nat)}{k:Nat}{d n:Int} (h:0≤d) (h2:d≤9) (h3:0≤n) (h4:n≤9) (hh:HasW ws k [[109,111,100],numN d,[61],numN n]) (fac:P):rEnd ws k fac=(.tup [.str (Str.ofString "rest"),fac,.int d,.int n],k+4):=by
 obtain⟨e1,e2,e3⟩:=hh.cons;obtain⟨f1,f2,f3⟩:=e3.cons;obtain⟨g1,g2,g3⟩:=f3.cons;obtain⟨i1,i2,i3⟩:=g3.cons;unfold rEnd;rw[Jm ⟨e1,∅,by rw[f1];exact zKs h h2,by rw[show k+3=k+1+1+1 by omega,i1];exact zKs h3 h4⟩,f1,show k+3=k+1+1+1 by omega,i1,(zHX ∅ h2).2,(zHX ∅ h4).2]
def isAtm:Tr→Bool
 | .at .. => true
 | .rest .. => true
 |_=>false
theorem zHA{a b c:Int} (h:F3 a b c):∃w l,sumW a b c=w::l∧w≠[110,111,116]∧w≠[40]:=by
 have:∀a∈i7,∀b∈i7,∀c∈i7,a=0∧b=0∧c=0∨((sumW a b c).head?≠none∧(sumW a b c).head?≠some [110,111,116]∧(sumW a b c).head?≠some [40]):=by decide +kernel
 obtain⟨h1,h2,h3,h4⟩:=h;have q:=(this a (mem7 h1.1 h1.2) b (mem7 h2.1 h2.2) c (mem7 h3.1 h3.2)).resolve_left h4;cases e:sumW a b c with
 |nil=>rw[e]at q;exact absurd rfl q.1
 |cons w l =>
  rw[e]at q;refine⟨w,l,rfl,fun z=>q.2.1 (by rw[z];rfl),fun z=>q.2.2 (by rw[z];rfl)⟩
theorem zHU{t:Tr} (ht:isAtm t=true) (hg:t.good){ws:List (List Nat)}{k:Nat} (hh:HasW ws k t.wds) (m:Nat):zDw ws (m+1) k=some (t.enc,k+t.wds.length):=by
 have head:∀a b c tl,F3 a b c→HasW ws k (sumW a b c++tl)→zDw ws (m+1) k=zK7 ws k:=fun a b c tl h3 hh=>by
  obtain⟨w,l,e,n1,n2⟩:=zHA h3;rw[e]at hh
  have:=hh.cons.1
  rw[zDw,this,Js n1,Js n2]
 cases t with
 |«at» w a b c n =>
  rw[Tr.good]at hg;rw[Tr.wds]at hh ⊢;rw[head _ _ _ _ hg.1 hh];obtain⟨h1,h2⟩:=hh.app;have e1:=h2.cons.1;unfold zK7;rw[zKp 4 _ k 1 0 0 0 a b c 1000 (!0) (zKV hg.1) h1 (by rw[e1];cases w<;>decide) (by rw[e1];cases w<;>decide),zQ6 hg.2.1 hg.2.2 h2,Tr.enc]
  simp;omega
 |rest a b c d n =>
  rw[Tr.good]at hg;rw[Tr.wds]at hh ⊢;rw[head _ _ _ _ hg.1 hh];obtain⟨h1,h2⟩:=hh.app;have e1:=h2.cons.1;unfold zK7;rw[zKp 4 _ k 1 0 0 0 a b c 1000 (!0) (zKV hg.1) h1 (by rw[e1];decide) (by rw[e1];decide),zMe ∅ ∅ ∅ ∅ h2,Tr.enc]
  simp;omega
 |no _=>cases ht
 |op _ _=>cases ht
theorem zHW{ws:List (List Nat)}{F:Nat→Option (P×Nat)}{w:List Nat}{f:Tr→List (List Nat)}{Q:List Nat→Prop} (hQ:Q w):∀(l:List Tr) (m k:Nat),l≠[]→l.length≤m →
  (∀t∈l,okP 63 t.enc=true∧∀k,HasW ws k (f t)→Q (nx ws (k+(f t).length))→F k=some (t.enc,k+(f t).length)) →
  HasW ws k (wj w (l.map f))→Q (nx ws (k+(wj w (l.map f)).length))→nx ws (k+(wj w (l.map f)).length)≠w→zDD F w ws m k=some (l.map Tr.enc,k+(wj w (l.map f)).length)
 |[],_,_,h,_,_,_,_,_=>absurd rfl h
 |_::_,0,_,_,h,_,_,_,_=>by simp at h
 |[t],m+1,k,_,_,hl,hh,q,hw=>by
  have h1:=hl t Jc;have e:wj w ([t].map f)=f t:=rfl;rw[e]at hh q hw ⊢;rw[zDD,h1.2 k hh q];dsimp only;rw[Jm h1.1,Js hw];rfl
 |t::u::r,m+1,k,_,hm,hl,hh,q,hw=>by
  have h1:=hl t Jc;have e:wj w ((t::u::r).map f)=f t++(w::wj w ((u::r).map f)):=rfl;have el:k+(wj w ((t::u::r).map f)).length=k+(f t).length+1+(wj w ((u::r).map f)).length:=by rw[e];simp;omega
  rw[el]at q hw ⊢;rw[e]at hh;obtain⟨g1,g2⟩:=hh.app;obtain⟨n1,n2,n3⟩:=g2.cons;have ih:=zHW (f:=f) hQ (u::r) m (k+(f t).length+1) (by simp) (by simp at hm ⊢;omega) (fun t mt=>hl t (Jg _ mt)) n3 q hw
  rw[zDD,h1.2 k g1 (by rw[n1];exact hQ)]
  dsimp only;rw[Jm h1.1,Jm n1,ih];rfl
theorem zGd(t:Tr):isNon t.enc=false:=by rw[t.enc_eq];rfl
theorem zKl(l:List Tr):zDN (l.map Tr.enc)=false:=by
 induction l with
 |nil=>rfl
 |cons t l ih =>
  show(isNon t.enc||zDN (l.map Tr.enc))=false;rw[zGd,ih];rfl
theorem zQd{b:Bool}{l:List Tr} (h:2≤l.length):rJoin (opN b) (l.map Tr.enc)=(Tr.op b l).enc:=by
 unfold rJoin;rw[zKl,Js (by simp),Js (by rw[Jb];omega),Tr.enc,zBP]
 cases b
 ·rw[show opN false=[111,114]from rfl,←k_or];rfl
 ·rw[show opN true=[97,110,100]from rfl,←zI8];rfl
theorem join_one(w:List Nat) (t:Tr):rJoin w ([t].map Tr.enc)=t.enc:=by
 unfold rJoin;rw[zKl];rfl
theorem ok63{t:Tr} (h:t.depth≤62):okP 63 t.enc=true:=zJO 62 t h
abbrev zE6:List Nat:=[97,110,100]
abbrev wOrd:List Nat:=[111,114]
def pw(t:Tr):List (List Nat):=parW (inn true t) t.wds
def PT(n:Nat):Prop:=∀t:Tr,t.good→t.depth≤n→∀(ws:List (List Nat)) (k m:Nat),n≤m→HasW ws k (pw t)→zDw ws m k=some (t.enc,k+(pw t).length)
theorem single{ws:List (List Nat)}{F:Nat→Option (P×Nat)}{w:List Nat}{t:Tr}{k e:Nat} (hF:F k=some (t.enc,e)) (ok:okP 63 t.enc=true) (hw:nx ws e≠w):zCT F w ws k=some (t.enc,e):=by
 unfold zCT;rw[zDD,hF];dsimp only;rw[Jm ok,Js hw]
 have:=join_one w t
 rw[Jk,Vs]at this;dsimp only;rw[this]
theorem APT{n:Nat} (h:PT n) (hn:n≤62){t:Tr} (hg:t.good) (hd:t.depth≤n){ws:List (List Nat)}{k m:Nat} (hm:n≤m) (hh:HasW ws k (pw t)) (hw:nx ws (k+(pw t).length)≠zE6):zCT (zDw ws m) zE6 ws k=some (t.enc,k+(pw t).length) :=
 single (h t hg hd ws k m hm hh) (ok63 ∅) hw
theorem zEW{ws:List (List Nat)}{F:Nat→Option (P×Nat)}{b:Bool}{f:Tr→List (List Nat)}{Q:List Nat→Prop} (hQ:Q (opN b)){l:List Tr}{k:Nat} (h2:2≤l.length) (h4:l.length≤4)
  (hl:∀t∈l,okP 63 t.enc=true∧∀k,HasW ws k (f t)→Q (nx ws (k+(f t).length))→F k=some (t.enc,k+(f t).length)) (hh:HasW ws k (wj (opN b) (l.map f))) (q:Q (nx ws (k+(wj (opN b) (l.map f)).length))) (hw:nx ws (k+(wj (opN b) (l.map f)).length)≠opN b) :
  zCT F (opN b) ws k=some ((Tr.op b l).enc,k+(wj (opN b) (l.map f)).length):=by
 unfold zCT;rw[zHW (f:=f) hQ l 900 k (by intro e;rw[e]at h2;simp at h2) ∅ hl hh q hw]
 dsimp only;rw[zQd h2]
theorem AT{n:Nat} (h:PT n) (hn:n≤61){t:Tr} (hg:t.good) (ho:inn false t=false) (hd:t.depth≤n∨inn true t=true∧t.depth≤n+1){ws:List (List Nat)}{k m:Nat} (hm:n≤m) (hh:HasW ws k t.wds) (hw:nx ws (k+t.wds.length)≠zE6):zCT (zDw ws m) zE6 ws k=some (t.enc,k+t.wds.length):=by
 cases hi:inn true t with
 |false =>
  have hp:pw t=t.wds:=by unfold pw parW;rw[hi];rfl
  rw[←hp]at hh hw ⊢;exact APT h ∅ hg (hd.elim id fun z=>by rw[hi]at z;cases z.1) hm hh hw
 |true =>
  cases t with
  |op b l =>
   cases b with
   |false=>cases ho
   |true =>
    rw[Tr.good,zAk]at hg
    have dl:∀t∈l,t.depth≤n:=fun t mt=>by
     have:=zAi mt
     rcases hd with z|z
     ·rw[Tr.depth]at z;omega
     ·rw[Tr.depth]at z;omega
    rw[Tr.wds,zDe]at hh hw ⊢
    exact zEW (b:=true) (f:=fun t=>parW (inn true t) t.wds) (Q:=fun _=>True) trivial hg.1 hg.2.1
     (fun t mt=>⟨ok63 (by have:=dl t mt;omega),fun k hk _=>h t (hg.2.2 t mt) (dl t mt) ws k m hm hk⟩) hh trivial hw
  |«at» _ _ _ _ _=>cases hi
  |rest _ _ _ _ _=>cases hi
  |no _=>cases hi
theorem OT{n:Nat} (h:PT n) (hn:n≤61){t:Tr} (hg:t.good) (hd:t.depth≤n∨inn true t=true∧t.depth≤n+1){ws:List (List Nat)}{k m:Nat} (hm:n≤m) (hh:HasW ws k t.wds) (hw:nx ws (k+t.wds.length)≠zE6) (hw2:nx ws (k+t.wds.length)≠wOrd):rAny ws m k=some (t.enc,k+t.wds.length):=by
 have okt:okP 63 t.enc=true:=ok63 ∅;cases hi:inn false t with
 |false=>exact single (AT h hn hg hi hd hm hh hw) okt hw2
 |true =>
  cases t with
  |op b l =>
   cases b with
   |true=>cases hi
   |false =>
    rw[Tr.good,zAk]at hg
    have dl:∀t∈l,t.depth≤n:=fun t mt=>by
     have:=zAi mt
     rcases hd with z|z
     ·rw[Tr.depth]at z;omega
     ·rw[Tr.depth]at z;omega
    rw[Tr.wds,zDe]at hh hw hw2 ⊢
    refine zEW (b:=false) (f:=fun t=>parW (inn false t) t.wds) (Q:=fun u=>u≠zE6) (!0) hg.1 hg.2.1
     (fun t mt=>⟨ok63 (by have:=dl t mt;omega),fun k hk hq=>?_⟩) hh hw hw2
    cases hc:inn false t with
    |false =>
     have e:parW (inn false t) t.wds=t.wds:=by rw[hc];rfl
     rw[hc]at hk hq;exact AT h hn (hg.2.2 t mt) hc (.inl (dl t mt)) hm hk hq
    |true =>
     have e:parW true t.wds=pw t:=by
      unfold pw;cases t with
      |op b2 l2=>cases b2<;>rfl
      |«at» _ _ _ _ _=>cases hc
      |rest _ _ _ _ _=>cases hc
      |no _=>cases hc
     rw[hc,e]at hk hq;rw[e];exact APT h ∅ (hg.2.2 t mt) (dl t mt) hm hk hq
  |«at» _ _ _ _ _=>cases hi
  |rest _ _ _ _ _=>cases hi
  |no _=>cases hi
theorem zP2:∀n:Nat,n≤60→PT n
 |0,_=>fun t _ h=>by cases t<;>rw[Tr.depth]at h<;>omega
 |n+1,hn=>fun t hg hd ws k m hm hh=>by
  have ih:=zP2 n ∅;obtain⟨m,rfl⟩:∃i,m=i+1:=⟨m-1,∅⟩;cases t with
  |«at» w a b c x=>exact zHU rfl hg hh m
  |rest a b c d x=>exact zHU rfl hg hh m
  |no u =>
   rw[Tr.depth]at hd;rw[Tr.good]at hg;have e:pw (.no u)=[110,111,116]::pw u:=by unfold pw;rw[Tr.wds];rfl
   rw[e]at hh ⊢;obtain⟨n1,n2,n3⟩:=hh.cons;rw[zDw,Jm n1,ih u hg ∅ ws (k+1) m ∅ n3];dsimp only;rw[zGd,Tr.enc];simp;omega
  |op b l =>
   have e:pw (.op b l)=[40]::((Tr.op b l).wds++[[41]]):=by cases b<;>rfl
   rw[e]at hh ⊢;obtain⟨n1,n2,n3⟩:=hh.cons;obtain⟨g1,g2⟩:=n3.app;have n4:=g2.cons.1;have o:=OT ih ∅ hg (.inr ⟨by cases b<;>rfl,hd⟩) (m:=m) ∅ g1 (by rw[n4];decide) (by rw[n4];decide)
   unfold rAny at o;rw[zDw,Js (by rw[n1];decide),Jm n1,o]
   dsimp only;simp;omega
theorem zMV{t:Tr} (hg:t.good) (hd:t.depth≤5) (m:Nat) (hm:5≤m):rAny t.wds m 0=some (t.enc,t.wds.length):=by
 have e:nx t.wds (0+t.wds.length)=[]:=zDT ∅
 have:=OT (zP2 5 (!0)) (!0) hg (.inl hd) (ws:=t.wds) (k:=0) hm ⟨[],by simp⟩ (by rw[e];decide) (by rw[e];decide)
 rwa [VQ]at this
section
open Y YZ
def fl(x:Int):Int:=if 0<x then 1 else 0
end
section
open Y YZ
def zAg:Nat→FM
 |0=>fun _ _=>.no
 |n+1=>runF 2 4 (sSeq (sIf (mOrT (mTru (mIsi "list" (mVar 1))) (mTru (mIsi "tuple" (mVar 1)))) (sSeq (sIf (mOrT (mTst (mBin (vEqB true) (mIsi "list" (mVar 0)) (mIsi "list" (mVar 1)))) (mTst (mBin (vEqB true) (mIsi "tuple" (mVar 0)) (mIsi "tuple" (mVar 1))))) (sRet (mC (.bl false))) sNx)
  (sRet (zCS (mBin (vEqB false) (zAJ vLen %[(mVar 0)|0]) (zAJ vLen %[(mVar 1)|0])) (zAJ (zF6 fun bs=>bs.all id) %[(mLc (zNb (mVar 0) (mVar 1)) (.tp [(.nm 2),(.nm 3)]) [2,3] mYes (zAH (zAg n) %[(mVar 2),(mVar 3)|0]) finP)|0])))) sNx)
  (sSeq (sIf (mOrT (mTst (mBin (vIsN false) (mVar 1) (mC .non))) (mTst (mBin (vIsN false) (mVar 0) (mC .non)))) (sRet (zCS (mBin (vIsN false) (mVar 1) (mC .non)) (mBin (vIsN false) (mVar 0) (mC .non)))) sNx)
  (sSeq (sIf (mOrT (mTst (mBin (vEqB true) (mIsi "bool" (mVar 0)) (mIsi "bool" (mVar 1)))) (mTst (mBin (vEqB true) (mIsi "int" (mVar 0)) (mIsi "int" (mVar 1))))) (sRet (mC (.bl false))) sNx)
  (sRet (zCS (mBin (vEqB false) (mIsi "str" (mVar 0)) (mIsi "str" (mVar 1))) (mBin (vEqB false) (mVar 0) (mVar 1)))))))
def datP:Nat→P→Bool
 |_,.non=>true
 |_,.bl _=>true
 |_,.int _=>true
 |_,.str _=>true
 |n+1,.tup l=>decide (l.length≤100000)&&l.all (datP n)
 |n+1,.lst l=>decide (l.length≤100000)&&l.all (datP n)
 |_,_=>false
theorem zGY:∀l:List P,zipL l l=l.map fun x=>.p (.tup [x,x])
 |[]=>rfl
 |x::l=>by rw[zME,zGY l];rfl
theorem same_refl:∀(n:Nat) (x:P),datP n x=true→∀st,zAP (zAg (n+1)) [.p x,.p x] st=.ok (.p (.bl true)) st:=by
 intro n
 induction n with
 |zero =>
  intro x h st;refine Pu.call2 (Pu.of2 ?_) st;cases x with
  |non=>simp[zAg,zAG]
  |bl b=>simp[zAg,zAG]
  |int b=>simp[zAg,zAG]
  |str b=>simp[zAg,zAG]
  |tup l=>rw[datP]at h<;>first|cases h|(intros;contradiction)
  |lst l=>rw[datP]at h<;>first|cases h|(intros;contradiction)
  |scr l=>rw[datP]at h<;>first|cases h|(intros;contradiction)
  |dk _ _=>rw[datP]at h<;>first|cases h|(intros;contradiction)
  |obj _ _=>rw[datP]at h<;>first|cases h|(intros;contradiction)
  |exn _ _=>rw[datP]at h<;>first|cases h|(intros;contradiction)
  |lam _ _=>rw[datP]at h<;>first|cases h|(intros;contradiction)
  |cls _=>rw[datP]at h<;>first|cases h|(intros;contradiction)
  |fd _ _=>rw[datP]at h<;>first|cases h|(intros;contradiction)
  |fn _ _=>rw[datP]at h<;>first|cases h|(intros;contradiction)
 |succ n ih =>
  intro x h st;refine Pu.call2 (Pu.of2 ?_) st;cases x with
  |non=>simp[zAg,zAG]
  |bl b=>simp[zAg,zAG]
  |int b=>simp[zAg,zAG]
  |str b=>simp[zAg,zAG]
  |tup l =>
   rw[datP,Jj]at h;have hl:=Jv h.1;rw[zAg,zAG];simp[zGY,show l.length≤1000000 by omega]
   rw[zCw (fun _=>.bl true) (fun x mx=>⟨_,by simp;rfl,by simp[ih x (Jp.mp h.2 x mx)]⟩)]
   simp
  |lst l =>
   rw[datP,Jj]at h;have hl:=Jv h.1;rw[zAg,zAG];simp[zGY,show l.length≤1000000 by omega]
   rw[zCw (fun _=>.bl true) (fun x mx=>⟨_,by simp;rfl,by simp[ih x (Jp.mp h.2 x mx)]⟩)]
   simp
  |scr l=>rw[datP]at h<;>first|cases h|(intros;contradiction)
  |dk _ _=>rw[datP]at h<;>first|cases h|(intros;contradiction)
  |obj _ _=>rw[datP]at h<;>first|cases h|(intros;contradiction)
  |exn _ _=>rw[datP]at h<;>first|cases h|(intros;contradiction)
  |lam _ _=>rw[datP]at h<;>first|cases h|(intros;contradiction)
  |cls _=>rw[datP]at h<;>first|cases h|(intros;contradiction)
  |fd _ _=>rw[datP]at h<;>first|cases h|(intros;contradiction)
  |fn _ _=>rw[datP]at h<;>first|cases h|(intros;contradiction)
end
section
open Y YZ
def zA2:Nat→FM
 |0=>fun _ _=>.no
 |n+1=>runF 1 3 (sSeq (sIf (mTst (mBin (vInB true) (mBin vIx (mVar 0) (mC (.int 0))) (mLst %[(mC (.str "not")),(mC (.str "and")),(mC (.str "or"))|0]))) (sRet (mLst %[(mVar 0)|0])) sNx)
  (sSeq (sSet 1 (mLst mNil))
  (sSeq (sFor (mSrc (mSl (mVar 0) (zA0 (mC (.int 1))) zCi)) (.nm 2) (sSet 1 (mBin vAdd (mVar 1) (zAH (zA2 n) %[(mVar 2)|0]))))
  (sRet (mVar 1)))))
def tw(n:Nat):Int:=(2:Int)^n
theorem tw_nat(n:Nat):(tw n).natAbs=2^n:=by unfold tw;rw[Int.natAbs_pow];rfl
def bit(c:Int) (i:Nat):Int:=c/tw i%2
def bits(x y z:Int) (i:Nat):P:=T3 (bit x i) (bit y i) (bit z i)
def ex(S:Int) (n:Nat):Int:=if S%tw n=0 then 1 else 0
def row(x y z:Int) (n:Nat):Tr→P
 | .at _ a b c k=>.tup [.int ((wt a b c x y z-k)/tw n),.int (ex (wt a b c x y z-k) n),.int (wt a b c x y z/tw n),.int (ex (wt a b c x y z) n)]
 | .rest a b c d _=>.tup [.int (wt a b c x y z%d),.int (tw n%d)]
 |_=>.non
def rstate(q:Tr) (x y z:Int) (n:Nat):P:=.tup [.tup (q.atoms.map (row x y z n)),T3 (fl x) (fl y) (fl z)]
theorem l2:Nat.log2 2<9000:=by decide +kernel
theorem zJ3:∀ {m:List Nat}{i k:Nat},m[i]?=some k→(m.take i).sum+k≤m.sum
 |[],i,k,h=>by simp at h
 |a::m,0,k,h=>by
  obtain rfl:a=k:=Jd h;simp
 |a::m,i+1,k,h=>by
  have:=zJ3 (m:=m) (i:=i) (k:=k) (by simpa using h)
  simp;omega
theorem zFW:∀(n:Nat) (t:Tr),t.good→t.depth≤n→t.atoms.length≤1000000→∀st,zAP (zA2 n) [.p t.enc] st=.ok (.p (.lst (t.atoms.map Tr.enc))) st:=by
 intro n
 induction n with
 |zero=>intro t _ h;cases t<;>rw[Tr.depth]at h<;>omega
 |succ n ih =>
  intro t hg h hc st;refine Pu.call1 (Pu.of1 ?_) st;cases t with
  |«at» w a b c k=>simp[zA2,zAG,Tr.enc,Tr.atoms,w.ne]
  |rest a b c d k=>simp[zA2,zAG,Tr.enc,Tr.atoms]
  |no t =>
   rw[Tr.depth]at h;rw[Tr.good]at hg;rw[Tr.atoms]at hc;simp[zA2,zAG,Tr.enc,Tr.atoms,ih t hg ∅ hc,hc]
  |op b l =>
   rw[Tr.depth]at h;rw[Tr.good,zAk]at hg;rw[Tr.atoms,zBr,List.length_flatMap]at hc;rw[Tr.enc,zBP,Tr.atoms,zBr]
   have lp:∀w:Str,Gv (runR ((forL (.nm 2) (sSet 1 (mBin vAdd (mVar 1) (zAH (zA2 n) %[(mVar 2)|0]))) (l.map (W.p∘Tr.enc)) [some (.p (.tup (.str w::l.map Tr.enc))),some (.p (.lst [])),none] []).then (sRet (mVar 1)))) (.lst ((l.flatMap Tr.atoms).map Tr.enc)):=by
    intro w;refine zBg (fun r=>Gv (runR (r.then _)) _) (fun i σ st=>∃x,σ=[some (.p (.tup (.str w::l.map Tr.enc))),some (.p (.lst (((l.take i).flatMap Tr.atoms).map Tr.enc))),x]∧st=[]) ⟨none,rfl,rfl⟩ ?_ ?_
    ·rintro i v σ st hv ⟨x,rfl,rfl⟩;rw[Ji]at hv;obtain⟨t,ht,rfl⟩:=Vy.mp hv;have mt:=Jn ht;have hd:=zAi mt;have ts:=zJ3 (m:=l.map fun t=>t.atoms.length) (i:=i) (k:=t.atoms.length) (by rw[Ji,ht];rfl)
     conv=>arg 3;simp[ih t (hg.2.2 t mt) ∅ ∅,show(List.take i (l.map fun t=>t.atoms.length)).sum+t.atoms.length≤1000000 by omega]
     refine⟨some (.p t.enc),?_,rfl⟩;rw[List.take_add_one,ht];simp
    ·rintro σ st ⟨x,rfl,rfl⟩;rw[Jb,J0 (Jq _)];simp
   cases b<;>simp[zA2,zAG,opw,-zBQ,show l.length≤1000000 by omega]<;>exact lp _
end
section
open Y YZ
inductive Wy where
 |heard|counted|two|marked
def Wy.s:Wy→Str
 | .heard=>Str.ofString "heard"
 | .counted=>Str.ofString "counted"
 | .two=>Str.ofString "two-way"
 | .marked=>Str.ofString "marked"
def fac(x y z u v t:Int):Int:=if 0<x then u/x else if 0<y then v/y else t/z
end
section
open Y YZ
def zAu:FM:=runF 3 3 (sRet (zCS (mIsi "int" (mVar 0)) (zCS (zNZ (mIsi "bool" (mVar 0))) (zFX vLe vLe (mVar 1) (mVar 0) (mVar 2)))))
end
section
open Y YZ
def zBU:FM:=runX 2 2 (sSeq (sIf (zDK (mTru (zAH (zAX 12) %[(mVar 1),(mC (.int 1))|0]))) (zGZ 29 "InvalidQuestion") sNx)
  (sSeq (sIf (mTst (mBin vGt (zAJ vLen %[(zAH (zBA 12) %[(mVar 1)|0])|0]) (mC (.int 3)))) (zHf 30 (mC (.int 3)) "TooMany") sNx)
  (sSeq (zIv [(0,0)] (mVar 0) (mVar 1))
  (sSeq (zIv [(0,1)] (mVar 0) (zAH (zBA 12) %[(mVar 1)|0]))
  (zIv [(0,2)] (mVar 0) (zAH (zAR 12) %[(mVar 1)|0]))))))
theorem zGu{t:Tr} (h:t.fit) (st:List Cell):zJq 0 3 zBU [.p t.enc] st=.ok (.p (qob t)) st:=by
 obtain⟨hg,hd,ha⟩:=h;refine zK5 (xs:=[t.enc]) (m:=[t.enc,.lst (t.atoms.map Tr.enc),.str (zK0 t)]) ?_ rfl st;simp[zBU,zFm,zFP 12 t 1 hg ∅ ∅ ∅,zEw 12 t hg ∅ hd,(zO3 hg (show t.depth≤5 by omega) _).1]
 omega
def bl(m:Int):Nat:=if m=0 then 0 else m.natAbs.log2+1
end
theorem zJP(c:Nat):∀(acc l:List Nat),(TL.spl [c] 0 acc l).length=l.count c+1
 |acc,[]=>by rw[YN];rfl
 |acc,d::l=>by
  have hp:TL.pre [c] (d::l)=(d==c):=by
   unfold TL.pre
   by_cases h:d=c<;>simp[h]
  by_cases h:d=c
  ·rw[YO (by rw[hp];simpa using h)]
   show(TL.spl [c] 0 [] l).length+1=_;rw[zJP c [] l,h,List.count_cons_self]
  ·rw[Yz (by rw[hp];simpa using h),zJP c _ l,List.count_cons_of_ne (by simpa using h)]
theorem zJW{c:Nat} (hc:c<256) (a:List Nat):Txt.count (S a) (S [c])=(a.count c:Nat):=by
 have hs:=SX.split_S (a:=a) (b:=[c]) (by simp) (by simp[hc])
 have hl:=congrArg List.length hs;rw[Jb,zJP]at hl;unfold Txt.split at hl;unfold Txt.count
 have hk:Builtin.Str.strKind (S [c])=1:=by
  unfold Builtin.Str.strKind;simp[hc]
 have hk2:¬Builtin.Str.strKind (S a)<Builtin.Str.strKind (S [c]):=by
  rw[hk];unfold Builtin.Str.strKind;split
  ·omega
  ·split<;>omega
 cases a with
 |nil =>
  have:=SX.in_one [] c
  have e:Builtin.Str.occurrences (S []) (S [c]) 0 (S []).length ((S []).length+1)=[]:=by simpa[S_len]using this
  rw[e];rfl
 |cons d r =>
  rw[Js (by simp[S_len,hk2])]at hl
  split at hl
  ·rename_i h
   simp at hl
   have:Builtin.Str.occurrences (S (d::r)) (S [c]) 0 (S (d::r)).length ((S (d::r)).length+1)=[]:=by simpa using h
   rw[this]
   have:List.count c (d::r)=0:=by omega
   rw[this];rfl
  ·rw[length_partsBetween]at hl;omega
theorem zDo:∀(n:Nat) (t:Tr),t.depth≤n→t.good→1≤t.atoms.length
 |0,t,h,_=>by cases t<;>rw[Tr.depth]at h<;>omega
 |n+1,.at w a b c k,_,_=>by rw[Tr.atoms];simp
 |n+1,.rest a b c d k,_,_=>by rw[Tr.atoms];simp
 |n+1,.no t,h,hg=>by
  rw[Tr.depth]at h;rw[Tr.good]at hg;rw[Tr.atoms];exact zDo n t ∅ hg
 |n+1,.op b l,h,hg=>by
  rw[Tr.depth]at h;rw[Tr.good,zAk]at hg;rw[Tr.atoms];cases l with
  |nil=>simp at hg
  |cons u r =>
   rw[Tr.atomss,Jl]
   have:=zDo n u (by have:=zAi (t:=u) (l:=u::r) Jc;omega) (hg.2.2 u Jc)
   omega
theorem zIR(z:List Nat):∀l:List (List Nat),(TL.joinL z l).length≤(l.map fun x=>x.length+z.length).sum
 |[]=>by simp[TL.joinL]
 |[x]=>by simp[TL.joinL]
 |x::y::l=>by
  have:=zIR z (y::l)
  rw[zBv _ _ (by simp),Jl,Jl,Jk,JM]
  omega
theorem zGK(c:Nat){z:List Nat} (hz:z.count c=0):∀l:List (List Nat),(TL.joinL z l).count c=(l.map fun x=>x.count c).sum
 |[]=>by simp[TL.joinL]
 |[x]=>by simp[TL.joinL]
 |x::y::l=>by
  have:=zGK c hz (y::l)
  rw[zBv _ _ (by simp),JT,JT,hz,this]
  simp only[Jk,JM];omega
theorem zHo(i:Int):(numN i).length≤2:=by unfold numN;split<;>simp
theorem zJJ(i:Int):(numN i).count 40=0:=Yd.mpr (by unfold numN;split<;>simp<;>omega)
theorem zIV(k:Bool) (l:List Nat):(parN k l).count 40≤l.count 40+1:=by
 unfold parN;cases k
 ·simp
 ·simp[JT]
theorem zGo:∀(n:Nat) (t:Tr),t.depth≤n→t.good→t.txN.length≤(29+7*n)*t.atoms.length∧t.txN.count 40+t.atoms.length≤n*t.atoms.length
 |0,t,h,_=>by cases t<;>rw[Tr.depth]at h<;>omega
 |n+1,.at w a b c k,_,hg=>by
  rw[Tr.good]at hg;rw[Tr.txN,Tr.atoms];have h1:=zDr hg.1;have h2:(sgN w).length≤2:=by cases w<;>decide
  have h3:(sgN w).count 40=0:=by cases w<;>decide
  have h4:=zHo k;have h5:=zJJ k;have h6:(sumN a b c).count 40=0:=Yd.mpr h1.2.2.2.1;refine⟨?_,?_⟩
  ·simp;omega
  ·simp[JT,h3,h5,h6]
 |n+1,.rest a b c d k,_,hg=>by
  rw[Tr.good]at hg;rw[Tr.txN,Tr.atoms];have h1:=zDr hg.1;have h4:=zHo k;have h5:=zJJ k;have h4':=zHo d;have h5':=zJJ d;have h6:(sumN a b c).count 40=0:=Yd.mpr h1.2.2.2.1;refine⟨?_,?_⟩
  ·simp;omega
  ·simp[JT,h5,h5',h6]
 |n+1,.no t,h,hg=>by
  rw[Tr.depth]at h;rw[Tr.good]at hg;rw[Tr.txN,Tr.atoms];obtain⟨h1,h2⟩:=zGo n t ∅ hg;have h3:=zDo n t ∅ hg;have h4:(parN (inn true t) t.txN).length≤t.txN.length+2:=by unfold parN;split<;>simp
  have h5:(parN (inn true t) t.txN).count 40≤t.txN.count 40+1:=zIV _ _;have e1:(29+7*(n+1))*t.atoms.length=(29+7*n)*t.atoms.length+7*t.atoms.length:=by rw[←Nat.add_mul];congr 1
  have e2:(n+1)*t.atoms.length=n*t.atoms.length+t.atoms.length:=Yo _ _;refine⟨?_,?_⟩
  ·rw[e1,Jl];simp;omega
  ·rw[e2,JT];simp;omega
 |n+1,.op b l,h,hg=>by
  rw[Tr.depth]at h;rw[Tr.good,zAk]at hg;rw[Tr.txN,Tr.atoms,zEc];have hf:=op_fr b;have hz:([32]++(opN b++[32])).count 40=0:=Yd.mpr (by simp;exact hf.1)
  have hzl:([32]++(opN b++[32])).length≤5:=by cases b<;>decide
  have key:∀l:List Tr,(∀t∈l,t.good∧t.depth≤n)→((l.map fun t=>parN (inn b t) t.txN).map fun x=>x.length+5).sum≤(29+7*(n+1))*(Tr.atomss l).length∧((l.map fun t=>parN (inn b t) t.txN).map fun x=>x.count 40).sum+(Tr.atomss l).length≤(n+1)*(Tr.atomss l).length:=by
   intro l
   induction l with
   |nil=>intro _;simp[Tr.atomss]
   |cons t l ih =>
    intro hl;obtain⟨i1,i2⟩:=ih fun u m=>hl u (Jg _ m)
    obtain⟨tg,td⟩:=hl t Jc;obtain⟨h1,h2⟩:=zGo n t td tg;have h3:=zDo n t td tg;have h4:(parN (inn b t) t.txN).length≤t.txN.length+2:=by unfold parN;split<;>simp
    have h5:(parN (inn b t) t.txN).count 40≤t.txN.count 40+1:=zIV _ _;have m1:(29+7*(n+1))*(t.atoms.length+(Tr.atomss l).length)=(29+7*(n+1))*t.atoms.length+(29+7*(n+1))*(Tr.atomss l).length:=Nat.mul_add _ _ _;have m2:(n+1)*(t.atoms.length+(Tr.atomss l).length)=(n+1)*t.atoms.length+(n+1)*(Tr.atomss l).length:=Nat.mul_add _ _ _;rw[Tr.atomss,Jl,m1,m2];have e1:(29+7*(n+1))*t.atoms.length=(29+7*n)*t.atoms.length+7*t.atoms.length:=by rw[←Nat.add_mul];congr 1
    have e2:(n+1)*t.atoms.length=n*t.atoms.length+t.atoms.length:=Yo _ _;refine⟨?_,?_⟩
    ·simp only[Jk,JM];omega
    ·simp only[Jk,JM];omega
  obtain⟨k1,k2⟩:=key l fun t m=>⟨hg.2.2 t m,by have:=zAi m;omega⟩
  refine⟨Jt (zIR _ _) (Jt ?_ k1),?_⟩
  ·have:∀L:List (List Nat),(L.map fun x=>x.length+([32]++(opN b++[32])).length).sum≤(L.map fun x=>x.length+5).sum:=by
    intro L
    induction L with
    |nil=>simp
    |cons x L ih=>simp only[Jk,JM];omega
   exact this _
  ·rw[zGK 40 hz];exact k2
theorem zKF{t:Tr} (h:t.fit):t.txN.length≤171∧t.txN.count 40≤12:=by
 obtain⟨hg,hd,ha⟩:=h;obtain⟨h1,h2⟩:=zGo 4 t hd hg
 have:(29+7*4)*t.atoms.length≤57*3:=Nat.mul_le_mul_left 57 ha
 omega
theorem zIn(c a b:Nat):∀l:List Nat,(rp c [a,b] l).length≤2*l.length
 |[]=>by simp[rp]
 |d::l=>by
  have:=zIn c a b l
  unfold rp at this ⊢;rw[VX,Jl,JJ];have h:(if d=c then[a,b]else[d]).length≤2:=by split<;>simp
  omega
def rwds(l:List Nat):List (List Nat):=TL.spl [32] 0 [] (rep2 l)
theorem zHK{l:List Nat} (hl:l.length≤10000):zB5 [.r 0,.p (.str (S l))] [.ins 1 []]=.ok (.p .non) [rdrC (rwds l) 0]:=by
 have r1:=fun a=>zKD (c:=40) (!0) a [40,32]
 have r2:=fun a=>zKD (c:=41) (!0) a [32,41]
 have l1:=zIn 40 40 32 l;have l2:=zIn 41 32 41 (rp 40 [40,32] l);have sp:=zJ7 (rp 41 [32,41] (rp 40 [40,32] l));generalize hq:rp 41 [32,41] (rp 40 [40,32] l)=q at sp l2;generalize hp:rp 40 [40,32] l=p at l1 l2 hq;simp[zB5,zAG,k_op,k_cl,k_op2,k_cl2,k_sp,r1,r2,S_len,hp,hq,sp];rw[Jm ∅,Jm ∅,Jm ∅];simp[rdrC,rwds,rep2,hp,hq]
theorem zGM{l:List Nat} (hl:l.length≤10000) (st:List Cell):zJM 1 2 zB5 [.p (.str (S l))] st=.ok (.r st.length) (st++[rdrC (rwds l) 0]) :=
 zLU (xs:=[.str (S l)]) (m:=[.lst ((rwds l).map fun w=>P.str (S w)),.int 0]) (l:=[]) (zHK hl) rfl st
theorem zIN{t:Tr} (hg:t.good):rwds t.txN=t.wds:=(zNB t.depth t (Jq _) hg).split
theorem zMs:∀a∈i7,∀b∈i7,∀c∈i7,∀w∈sumW a b c,okW w=true:=by decide +kernel
theorem zLm{k:Bool}{l:List (List Nat)} (h:∀w∈l,okW w=true):∀w∈parW k l,okW w=true:=by
 cases k with
 |false=>exact h
 |true =>
  intro w m;have m:w∈[40]::(l++[[41]]):=m;rcases Jr.mp m with q|q
  ·rw[q];decide
  ·rcases JC.mp q with q|q
   ·exact h w q
   ·have:w=[41]:=by simpa using q
    rw[this];decide
theorem zPm{w:List Nat} (hw:okW w=true):∀l:List (List (List Nat)),(∀x∈l,∀w∈x,okW w=true)→∀u∈wj w l,okW u=true
 |[],_,u,m=>by cases m
 |[x],h,u,m=>h x Jc u m
 |x::y::l,h,u,m=>by
  have m:u∈x++(w::wj w (y::l)):=m;rcases JC.mp m with q|q
  ·exact h x Jc u q
  ·rcases Jr.mp q with q|q
   ·rw[q];exact hw
   ·exact zPm hw (y::l) (fun x mx=>h x (Jg _ mx)) u q
theorem zJs{i:Int} (h : -9≤i) (h2:i≤9):okW (numN i)=true:=by
 rcases num9 h h2 with rfl|rfl|rfl|rfl|rfl|rfl|rfl|rfl|rfl|rfl|rfl|rfl|rfl|rfl|rfl|rfl|rfl|rfl|rfl<;>decide +kernel
theorem zJK:∀(n:Nat) (t:Tr),t.depth≤n→t.good→∀w∈t.wds,okW w=true
 |0,t,h,_,_,_=>by cases t<;>rw[Tr.depth]at h<;>omega
 |n+1,.at w a b c k,_,hg,u,m=>by
  rw[Tr.good]at hg;rw[Tr.wds]at m;rcases JC.mp m with q|q
  ·exact zMs a (mem7 hg.1.1.1 hg.1.1.2) b (mem7 hg.1.2.1.1 hg.1.2.1.2) c (mem7 hg.1.2.2.1.1 hg.1.2.2.1.2) u q
  ·simp at q;rcases q with rfl|rfl
   ·cases w<;>decide
   ·exact zJs hg.2.1 hg.2.2
 |n+1,.rest a b c d k,_,hg,u,m=>by
  rw[Tr.good]at hg;rw[Tr.wds]at m;rcases JC.mp m with q|q
  ·exact zMs a (mem7 hg.1.1.1 hg.1.1.2) b (mem7 hg.1.2.1.1 hg.1.2.1.2) c (mem7 hg.1.2.2.1.1 hg.1.2.2.1.2) u q
  ·simp at q;rcases q with rfl|rfl|rfl|rfl
   ·decide
   ·exact zJs ∅ ∅
   ·decide
   ·exact zJs ∅ ∅
 |n+1,.no t,h,hg,u,m=>by
  rw[Tr.depth]at h;rw[Tr.good]at hg;rw[Tr.wds]at m;rcases Jr.mp m with q|q
  ·rw[q];decide
  ·exact zLm (zJK n t ∅ hg) u q
 |n+1,.op b l,h,hg,u,m=>by
  rw[Tr.depth]at h;rw[Tr.good,zAk]at hg;rw[Tr.wds,zDe]at m;refine zPm (by cases b<;>decide) _ (fun x mx w mw=>?_) u m
  obtain⟨t,mt,rfl⟩:=Jx.mp mx;exact zLm (zJK n t (by have:=zAi mt;omega) (hg.2.2 t mt)) w mw
section
open Y YZ
def zBW:FM:=runF 1 2 (sSeq (sIf (mOrT (zDK (mTru (mIsi "tuple" (mVar 0)))) (mTst (mBin (vEqB true) (zAJ vLen %[(mVar 0)|0]) (mC (.int 3))))) (sRet (mC (.bl false))) sNx)
  (sRet (zCS (zAJ (zF6 fun bs=>bs.all id) %[(mLc (mSrc (mVar 0)) (.nm 1) [1] mYes (zAH zAu %[(mVar 1),(mNeg (mC (.int 3))),(mC (.int 3))|0]) finP)|0]) (mBin (vEqB true) (mVar 0) (mTup %[(mC (.int 0)),(mC (.int 0)),(mC (.int 0))|0])))))
def zAL:Nat→FM
 |0=>fun _ _=>.no
 |n+1=>runF 2 4 (sSeq (sIf (mOrT (zDK (mTru (mIsi "tuple" (mVar 0)))) (mOrT (mTst (mBin (vEqB false) (mVar 0) (mTup mNil))) (mOrT (zDK (mTru (mIsi "str" (mBin vIx (mVar 0) (mC (.int 0)))))) (mTst (mBin vGt (mVar 1) (mC (.int 4))))))) (sRet (mC (.bl false))) sNx)
  (sSeq (sIf (mTst (mBin (vInB false) (mBin vIx (mVar 0) (mC (.int 0))) (mLst %[(mC (.str "not")),(mC (.str "and")),(mC (.str "or"))|0]))) (sSeq (sSet 2 (mIfE (mTst (mBin (vEqB false) (mBin vIx (mVar 0) (mC (.int 0))) (mC (.str "not")))) (mBin (vEqB false) (zAJ vLen %[(mVar 0)|0]) (mC (.int 2))) (zFX vLe vLe (mC (.int 3)) (zAJ vLen %[(mVar 0)|0]) (mC (.int 5)))))
  (sRet (zCS (mVar 2) (zAJ (zF6 fun bs=>bs.all id) %[(mLc (mSrc (mSl (mVar 0) (zA0 (mC (.int 1))) zCi)) (.nm 3) [3] mYes (zAH (zAL n) %[(mVar 3),(mBin vAdd (mVar 1) (mC (.int 1)))|0]) finP)|0])))) sNx)
  (sSeq (sIf (mTst (mBin (vEqB false) (mBin vIx (mVar 0) (mC (.int 0))) (mC (.str "rest")))) (sRet (zCS (mBin (vEqB false) (zAJ vLen %[(mVar 0)|0]) (mC (.int 4))) (zCS (zAH zBW %[(mBin vIx (mVar 0) (mC (.int 1)))|0]) (zCS (zAH zAu %[(mBin vIx (mVar 0) (mC (.int 2))),(mC (.int 2)),(mC (.int 5))|0]) (zAH zAu %[(mBin vIx (mVar 0) (mC (.int 3))),(mC (.int 0)),(mBin vSub (mBin vIx (mVar 0) (mC (.int 2))) (mC (.int 1)))|0]))))) sNx)
  (sRet (zCS (mBin (vInB false) (mBin vIx (mVar 0) (mC (.int 0))) (mLst %[(mC (.str "at least")),(mC (.str "at most")),(mC (.str "equal"))|0])) (zCS (mBin (vEqB false) (zAJ vLen %[(mVar 0)|0]) (mC (.int 3))) (zCS (zAH zBW %[(mBin vIx (mVar 0) (mC (.int 1)))|0]) (zAH zAu %[(mBin vIx (mVar 0) (mC (.int 2))),(mNeg (mC (.int 9))),(mC (.int 9))|0]))))))))
def zAr:FM:=runF 1 1 (sSeq (sIf (zDK (mTru (zAH (zAL 12) %[(mVar 0),(mC (.int 1))|0]))) (sRet (mTup %[(mC (.str "InvalidQuestion")),(mC .non)|0])) sNx)
  (sRet (mIfE (mTst (mBin vLe (zAJ vLen %[(zAH (zA2 12) %[(mVar 0)|0])|0]) (mC (.int 3)))) (mTup %[(mC (.str "value")),(mVar 0)|0]) (mTup %[(mC (.str "TooMany")),(mC (.int 3))|0]))))
def isN(a b:Int):P→Bool
 | .int i=>decide (a≤i)&&decide (i≤b)
 |_=>false
def Sz(k:Nat) (x:P):Prop:=∀m,k≤m→okP m x=true∧datP m x=true
theorem Sz.mono{k j:Nat}{x:P} (h:Sz k x) (l:k≤j):Sz j x:=fun m hm=>h m ∅
theorem Sz.tup{k:Nat}{l:List P} (hl:l.length≤100000) (h:∀y∈l,Sz k y):Sz (k+1) (.tup l):=by
 intro m hm;obtain⟨m,rfl⟩:∃j,m=j+1:=⟨m-1,∅⟩;refine⟨?_,?_⟩
 ·rw[okP,Jp];exact fun y my=>(h y my m ∅).1
 ·rw[datP,Jj,Jp];exact⟨JO hl,fun y my=>(h y my m ∅).2⟩
theorem Sz.lst{k:Nat}{l:List P} (hl:l.length≤100000) (h:∀y∈l,Sz k y):Sz (k+1) (.lst l):=by
 intro m hm;obtain⟨m,rfl⟩:∃j,m=j+1:=⟨m-1,∅⟩;refine⟨?_,?_⟩
 ·rw[okP,Jp];exact fun y my=>(h y my m ∅).1
 ·rw[datP,Jj,Jp];exact⟨JO hl,fun y my=>(h y my m ∅).2⟩
theorem Sz.mem{k:Nat}{l:List P} (h:Sz k (.tup l)){y:P} (my:y∈l):Sz k y:=by
 intro m hm
 have:=h (m+1) ∅
 rw[okP,datP,Jj,Jp,Jp]at this;exact⟨this.1 y my,this.2.2 y my⟩
theorem Sz.len{k:Nat}{l:List P} (h:Sz k (.tup l)):l.length≤100000:=by
 have:=(h (k+1) ∅).2
 rw[datP,Jj]at this;exact Jv this.1
theorem Sz.dat{k:Nat}{x:P} (h:Sz k x):datP k x=true:=(h k (Jq _)).2
theorem Sz.int(i:Int):Sz 0 (.int i):=fun m _=>⟨by cases m<;>rfl,by cases m<;>rfl⟩
theorem Sz.bl(i:Bool):Sz 0 (.bl i):=fun m _=>⟨by cases m<;>rfl,by cases m<;>rfl⟩
theorem Sz.non:Sz 0 .non:=fun m _=>⟨by cases m<;>rfl,by cases m<;>rfl⟩
theorem Sz.str{s:Str} (h:PyData.strOk s=true):Sz 0 (.str s):=fun m _=>⟨by cases m<;>exact h,by cases m<;>rfl⟩
theorem zOP:∀(n:Nat) (t:Tr),t.good→t.depth≤n→datP (n+1) t.enc=true:=by
 intro n
 induction n with
 |zero=>intro t _ h;cases t<;>rw[Tr.depth]at h<;>omega
 |succ n ih =>
  intro t hg h;cases t with
  |«at» w a b c k=>rw[Tr.enc];simp[datP]
  |rest a b c d k=>rw[Tr.enc];simp[datP]
  |no t =>
   rw[Tr.depth]at h;rw[Tr.good]at hg;rw[Tr.enc];simp[datP,ih t hg ∅]
  |op b l =>
   rw[Tr.depth]at h;rw[Tr.good,zAk]at hg;rw[Tr.enc,zBP]
   have:∀t∈l,datP (n+1) t.enc=true:=fun t m=>ih t (hg.2.2 t m) (by have:=zAi m;omega)
   simp[datP,show l.length+1≤100000 by omega]
   exact this
theorem Sz.enc{t:Tr} (hg:t.good):Sz (t.depth+1) t.enc:=by
 intro m hm;obtain⟨m,rfl⟩:∃j,m=j+1:=⟨m-1,∅⟩;exact⟨zJO m t ∅,zOP m t hg ∅⟩
theorem zA5{x:P} (hx:datP 30 x=true) (a b:Int) (st:List Cell):zAP zAu [.p x,.p (.int a),.p (.int b)] st=.ok (.p (.bl (isN a b x))) st:=by
 refine Pu.call3 (Pu.of3 ?_) st;cases x with
 |int i=>by_cases h:a≤i<;>simp[zAu,zAG,isN,h]
 |_=>simp[zAu,zAG,isN,datP]at hx ⊢
theorem zHw{x:P} (hx:datP 30 x=true) (st:List Cell):zAP zCH [.p x] st=.ok (.p (.bl (match x with | .int _=>true|_=>false))) st:=by
 refine Pu.call1 (Pu.of1 ?_) st;cases x<;>simp[zCH,zAG,datP]at hx ⊢
theorem zBx{x:P} (hx:datP 30 x=true) (a b:Int) (st:List Cell):zAP zA1 [.p x,.p (.int a),.p (.int b)] st=.ok (.p (.bl (isN a b x))) st:=by
 refine Pu.call3 (Pu.of3 ?_) st;have e:=fun st=>zHw hx st
 cases x with
 |int i=>by_cases h:a≤i<;>simp[zA1,zAG,isN,h,e]
 |_=>simp[zA1,zAG,isN,e]
def nz:P→Bool
 | .int i=>decide (i≠0)
 |_=>false
def isF:P→Bool
 | .tup [x,y,z]=>(isN (-3) 3 x&&(isN (-3) 3 y&&isN (-3) 3 z))&&(nz x||(nz y||nz z))
 |_=>false
def IB(z:P):Prop:=(∃i,z=.int i)∨(∃b,z=.bl b)
def Fq(f:P):Prop:=Sz 30 f∧∀l,f=.tup l→∀z∈l,IB z
theorem zNQ{l:List P} (h:l.length≠3):isF (.tup l)=false:=by
 unfold isF;split
 ·rename_i h2;cases h2;exact absurd rfl h
 ·rfl
theorem IB.tr{z:P} (h:IB z):∃b,truF z=some b∧(∀i,z=.int i→b=decide (i≠0)):=by
 rcases h with⟨i,rfl⟩|⟨b,rfl⟩
 ·exact⟨_,rfl,fun j e=>by cases e;by_cases h:i=0<;>simp[h]⟩
 ·exact⟨b,rfl,fun j e=>by cases e⟩
theorem zEM{f:P} (h:Fq f) (st:List Cell):zAP zAy [.p f] st=.ok (.p (.bl (isF f))) st:=by
 refine Pu.call1 (Pu.of1 ?_) st;obtain⟨hs,hb⟩:=h;have hd:=hs.dat;cases f with
 |tup l =>
  by_cases h3:l.length=3
  ·obtain⟨x,y,z,rfl⟩:∃x y z,l=[x,y,z]:=by
    match l,h3 with
    |[x,y,z],_=>exact⟨x,y,z,rfl⟩
   have ix:=fun a b st=>zBx (hs.mem (y:=x) (by simp)).dat a b st
   have iy:=fun a b st=>zBx (hs.mem (y:=y) (by simp)).dat a b st
   have iz:=fun a b st=>zBx (hs.mem (y:=z) (by simp)).dat a b st
   have bx:=hb _ rfl x (by simp)
   have bY:=hb _ rfl y (by simp)
   have bz:=hb _ rfl z (by simp)
   clear hs hb hd;rcases bx with⟨i,rfl⟩|⟨i,rfl⟩<;>rcases bY with⟨j,rfl⟩|⟨j,rfl⟩<;>rcases bz with⟨k,rfl⟩|⟨k,rfl⟩<;>simp[zAy,zAG,zBH,zCQ,ix,iy,iz,isF,isN,nz]
   all_goals (split<;>omega)
  ·rw[zNQ h3];simp[zAy,zAG,h3,show ¬(l.length:Int)=3 by omega]
 |_=>simp[zAy,zAG,isF,datP]at hd ⊢
theorem zEk{f:P} (h:Fq f) (st:List Cell):zAP zBW [.p f] st=.ok (.p (.bl (isF f))) st:=by
 refine Pu.call1 (Pu.of1 ?_) st;obtain⟨hs,hb⟩:=h;have hd:=hs.dat;cases f with
 |tup l =>
  by_cases h3:l.length=3
  ·obtain⟨x,y,z,rfl⟩:∃x y z,l=[x,y,z]:=by
    match l,h3 with
    |[x,y,z],_=>exact⟨x,y,z,rfl⟩
   have ix:=fun a b st=>zA5 (hs.mem (y:=x) (by simp)).dat a b st
   have iy:=fun a b st=>zA5 (hs.mem (y:=y) (by simp)).dat a b st
   have iz:=fun a b st=>zA5 (hs.mem (y:=z) (by simp)).dat a b st
   have bx:=hb _ rfl x (by simp)
   have bY:=hb _ rfl y (by simp)
   have bz:=hb _ rfl z (by simp)
   clear hs hb hd;rcases bx with⟨i,rfl⟩|⟨i,rfl⟩<;>rcases bY with⟨j,rfl⟩|⟨j,rfl⟩<;>rcases bz with⟨k,rfl⟩|⟨k,rfl⟩<;>simp[zBW,zAG,zBH,zCQ,ix,iy,iz,isF,isN,nz,zDC]
   all_goals (split<;>rename_i hh<;>first|omega|(obtain⟨⟨a1,a2⟩,⟨b1,b2⟩,c1,c2⟩:=hh;simp[a1,a2,b1,b2,c1,c2];rfl))
  ·rw[zNQ h3];simp[zBW,zAG,h3,show ¬(l.length:Int)=3 by omega]
 |_=>simp[zBW,zAG,isF,datP]at hd ⊢
abbrev wNot:Str:=Str.ofString "not"
abbrev wAnd:Str:=Str.ofString "and"
abbrev wOr:Str:=Str.ofString "or"
abbrev zIO:Str:=Str.ofString "rest"
abbrev wGe:Str:=Str.ofString "at least"
abbrev wLe:Str:=Str.ofString "at most"
abbrev wEq:Str:=Str.ofString "equal"
def isR:List P→Bool
 |[f,.int d,n]=>isF f&&(isN 2 5 (.int d)&&isN 0 (d-1) n)
 |_=>false
def isA:List P→Bool
 |[f,n]=>isF f&&isN (-9) 9 n
 |_=>false
def isT:Nat→P→Bool
 |k+1,.tup (.str s::xs) =>
  if s=wNot then decide (xs.length=1)&&xs.all (isT k)
  else if s=wAnd∨s=wOr then(decide (2≤xs.length)&&decide (xs.length≤4))&&xs.all (isT k)
  else if s=zIO then isR xs
  else if s=wGe∨s=wLe∨s=wEq then isA xs
  else false
 |_,_=>false
inductive Od:Nat→P→Prop
 |flat {n:Nat}{x:P} (h:∀l,x≠.tup l):Od n x
 |nil {n:Nat}:Od n (.tup [])
 |nos {n:Nat}{y:P}{ys:List P} (h:∀s,y≠.str s):Od n (.tup (y::ys))
 |oth {n:Nat}{s:Str}{ys:List P} (h:s≠wNot∧s≠wAnd∧s≠wOr∧s≠zIO∧s≠wGe∧s≠wLe∧s≠wEq) (hl:ys.length<9000):Od n (.tup (.str s::ys))
 |con {n:Nat}{s:Str}{ys:List P} (h:s=wNot∨s=wAnd∨s=wOr) (hl:ys.length<9000) (hy:∀y∈ys,Od n y):Od (n+1) (.tup (.str s::ys))
 |rst {n:Nat}{f:P}{ys:List P} (hf:Fq f) (hl:ys.length<9000):Od n (.tup (.str zIO::f::ys))
 |atm {n:Nat}{s:Str}{f:P}{ys:List P} (h:s=wGe∨s=wLe∨s=wEq) (hf:Fq f) (hl:ys.length<9000):Od n (.tup (.str s::f::ys))
theorem zN5{k:Nat}{x:P} (h:∀l,x≠.tup l):isT k x=false:=by
 unfold isT;split
 ·exact absurd rfl (h _)
 ·rfl
theorem zEO:∀(k N n:Nat) (x:P),k≤4→k<N→Od n x→Sz 30 x→∀d:Int,d+k=5→∀st,zAP (zAL N) [.p x,.p (.int d)] st=.ok (.p (.bl (isT k x))) st:=by
 intro k
 induction k with
 |zero =>
  intro N n x _ hN ho hs d hd st;obtain⟨N,rfl⟩:∃j,N=j+1:=⟨N-1,∅⟩;refine Pu.call2 (Pu.of2 ?_) st;have hx:=hs.dat;have e:isT 0 x=false:=by unfold isT;rfl
  rw[e];have hd:4<d:=by omega
  cases x with
  |tup l =>
   cases l with
   |nil =>
    have nt:=fun st=>zAs (st:=st) (n:=false) (hs 64 (!0)).1
    simp[zAL,zAG,nt]
   |cons y ys =>
    have nt:=fun st=>zAs (st:=st) (n:=false) (hs 64 (!0)).1
    have hy:=(hs.mem (y:=y) (by simp)).dat
    cases y<;>simp[zAL,zAG,nt,hd,datP]at hy ⊢
  |_=>simp[zAL,zAG,datP]at hx ⊢
 |succ k ih =>
  intro N n x hk hN ho hs d hd st;obtain⟨N,rfl⟩:∃j,N=j+1:=⟨N-1,∅⟩;refine Pu.call2 (Pu.of2 ?_) st;have hx:=hs.dat;have hd4:¬4<d:=by omega
  cases ho with
  |flat h =>
   rw[zN5 h];cases x with
   |tup l=>exact absurd rfl (h l)
   |_=>simp[zAL,zAG,datP]at hx ⊢
  |nil =>
   have nt:=fun st=>zAs (st:=st) (n:=false) (hs 64 (!0)).1
   simp[zAL,zAG,isT,nt]
  |@nos _ y ys h =>
   have nt:=fun st=>zAs (st:=st) (n:=false) (hs 64 (!0)).1
   have hy:=(hs.mem (y:=y) (by simp)).dat
   cases y with
   |str s=>exact absurd rfl (h s)
   |_=>simp[zAL,zAG,nt,hd4,isT,datP]at hy ⊢
  |@oth _ s ys h hl =>
   have nt:=fun st=>zAs (st:=st) (n:=false) (hs 64 (!0)).1
   obtain⟨h1,h2,h3,h4,h5,h6,h7⟩:=h;simp[zAL,zAG,nt,hd4,isT,h1,h2,h3,h4,h5,h6,h7,h1.symm,h2.symm,h3.symm,h4.symm,h5.symm,h6.symm,h7.symm]
  |@con n s ys h hl hy =>
   have nt:=fun st=>zAs (st:=st) (n:=false) (hs 64 (!0)).1
   have ln:=hs.len;rw[JJ]at ln;have cs:∀y∈ys,∀st,zAP (zAL N) [.p y,.p (.int (d+1))] st=.ok (.p (.bl (isT k y))) st:=fun y my st=>ih N n y ∅ ∅ (hy y my) (hs.mem (Jg _ my)) (d+1) ∅ st
   have lr:∀(a b:Option W) st,lcL (.nm 3) mYes (zAH (zAL N) %[(mVar 3),(mBin vAdd (mVar 1) (mC (.int 1)))|0]) [a,some (.p (.int d)),b,none] (ys.map W.p) st=.ok ((ys.map fun y=>P.bl (isT k y)).map W.p) st :=
    fun a b st=>zD8 (fun y=>P.bl (isT k y)) fun y my=>⟨_,zBq _ _,by simp[cs y my]⟩
   rcases h with rfl|rfl|rfl
   ·by_cases h1:ys.length=1
    ·simp[zAL,zAG,nt,hd4,isT,lr,h1]
    ·simp[zAL,zAG,nt,hd4,isT,h1,show ¬(ys.length:Int)+1=2 by omega]
   all_goals
    by_cases h1:2≤ys.length
    ·by_cases h2:ys.length≤4
     ·simp[zAL,zAG,nt,hd4,isT,lr,h1,h2,show(3:Int)≤(ys.length:Int)+1 by omega,show(ys.length:Int)+1≤5 by omega,show ys.length≤1000000 by omega]
     ·simp[zAL,zAG,nt,hd4,isT,lr,h1,h2,show(3:Int)≤(ys.length:Int)+1 by omega,show ¬(ys.length:Int)+1≤5 by omega,show ys.length≤1000000 by omega]
    ·simp[zAL,zAG,nt,hd4,isT,lr,h1,show ¬(3:Int)≤(ys.length:Int)+1 by omega,show ys.length≤1000000 by omega]
  |@rst _ f ys hf hl =>
   have nt:=fun st=>zAs (st:=st) (n:=false) (hs 64 (!0)).1
   have sf:=fun st=>zEk hf st
   by_cases h2:ys.length=2
   ·obtain⟨a,b,rfl⟩:∃a b,ys=[a,b]:=by
     match ys,h2 with
     |[a,b],_=>exact⟨a,b,rfl⟩
    have na:=fun x y st=>zA5 (hs.mem (y:=a) (by simp)).dat x y st
    have nb:=fun x y st=>zA5 (hs.mem (y:=b) (by simp)).dat x y st
    cases a with
    |int i=>by_cases h:2≤i<;>by_cases h2:i≤5<;>cases hf':isF f<;>simp[zAL,zAG,nt,hd4,isT,isR,sf,na,nb,isN,hf',h,h2]
    |_=>cases hf':isF f<;>simp[zAL,zAG,nt,hd4,isT,isR,sf,na,nb,isN,hf']
   ·have e:isR (f::ys)=false:=by
     unfold isR;split
     ·rename_i h3;cases h3;exact absurd rfl h2
     ·rfl
    simp[zAL,zAG,nt,hd4,isT,e,show ¬(ys.length:Int)+1+1=4 by omega]
  |@atm _ s f ys h hf hl =>
   have nt:=fun st=>zAs (st:=st) (n:=false) (hs 64 (!0)).1
   have sf:=fun st=>zEk hf st
   by_cases h2:ys.length=1
   ·obtain⟨a,rfl⟩:∃a,ys=[a]:=by
     match ys,h2 with
     |[a],_=>exact⟨a,rfl⟩
    have na:=fun x y st=>zA5 (hs.mem (y:=a) (by simp)).dat x y st
    rcases h with rfl|rfl|rfl<;>cases hf':isF f<;>simp[zAL,zAG,nt,hd4,isT,isA,sf,na,hf']
   ·have e:isA (f::ys)=false:=by
     unfold isA;split
     ·rename_i h3;cases h3;exact absurd rfl h2
     ·rfl
    rcases h with rfl|rfl|rfl<;>simp[zAL,zAG,nt,hd4,isT,e,show ¬(ys.length:Int)+1+1=3 by omega]
theorem zR1{s:Str} (h:s=wGe∨s=wLe∨s=wEq):(zAf.lookup s).isSome=true∧(s==zIO)=false:=by
 rcases h with rfl|rfl|rfl
 ·exact⟨Wd.ge.lk,Wd.ge.nr⟩
 ·exact⟨Wd.le.lk,Wd.le.nr⟩
 ·exact⟨Wd.eq.lk,Wd.eq.nr⟩
theorem zJL{f:P}{ys:List P} (hf:Fq f) (hs:Sz 30 (.tup (.str zIO::f::ys))) (st:List Cell):zAP zA4 [.p (.tup (.str zIO::f::ys))] st=.ok (.p (.bl (isR (f::ys)))) st:=by
 refine Pu.call1 (Pu.of1 ?_) st;have sf:=fun st=>zEM hf st
 by_cases h2:ys.length=2
 ·obtain⟨a,b,rfl⟩:∃a b,ys=[a,b]:=by
   match ys,h2 with
   |[a,b],_=>exact⟨a,b,rfl⟩
  have na:=fun x y st=>zBx (hs.mem (y:=a) (by simp)).dat x y st
  have nb:=fun x y st=>zBx (hs.mem (y:=b) (by simp)).dat x y st
  cases a with
  |int i=>by_cases h:2≤i<;>by_cases h2:i≤5<;>cases hf':isF f<;>simp[zA4,zAG,isR,sf,na,nb,isN,hf',h,h2]
  |_=>cases hf':isF f<;>simp[zA4,zAG,isR,sf,na,nb,isN,hf']
 ·have e:isR (f::ys)=false:=by
   unfold isR;split
   ·rename_i h3;cases h3;exact absurd rfl h2
   ·rfl
  simp[zA4,zAG,e,show ¬(ys.length:Int)+1+1=4 by omega]
theorem zJu{s:Str}{f:P}{ys:List P} (h:s=wGe∨s=wLe∨s=wEq) (hf:Fq f) (hs:Sz 30 (.tup (.str s::f::ys))) (st:List Cell):zAP zA4 [.p (.tup (.str s::f::ys))] st=.ok (.p (.bl (isA (f::ys)))) st:=by
 refine Pu.call1 (Pu.of1 ?_) st;have sf:=fun st=>zEM hf st
 have lk:=zR1 h
 by_cases h2:ys.length=1
 ·obtain⟨a,rfl⟩:∃a,ys=[a]:=by
   match ys,h2 with
   |[a],_=>exact⟨a,rfl⟩
  have na:=fun x y st=>zBx (hs.mem (y:=a) (by simp)).dat x y st
  cases hf':isF f<;>simp[zA4,zAG,isA,sf,na,hf',lk]
 ·have e:isA (f::ys)=false:=by
   unfold isA;split
   ·rename_i h3;cases h3;exact absurd rfl h2
   ·rfl
  simp[zA4,zAG,e,lk,show ¬(ys.length:Int)+1+1=3 by omega]
end
inductive RdP:Nat→P→Prop
 |non {n:Nat}:RdP n .non
 |atm {n:Nat}{s:Str} (a b c k:Int) (h:s=wGe∨s=wLe∨s=wEq):RdP (n+1) (.tup [.str s,T3 a b c,.int k])
 |rst {n:Nat} (a b c d k:Int):RdP (n+1) (.tup [.str zIO,T3 a b c,.int d,.int k])
 |not {n:Nat}{x:P} (h:RdP n x):RdP (n+1) (.tup [.str wNot,x])
 |op {n:Nat}{s:Str}{l:List P} (h:s=wAnd∨s=wOr) (hl:l.length≤900) (hx:∀x∈l,RdP n x):RdP (n+1) (.tup (.str s::l))
theorem RdP.mono{n:Nat}{x:P} (h:RdP n x):∀ {m:Nat},n≤m→RdP m x:=by
 induction h with
 |non=>exact fun _=>.non
 |atm a b c k h=>intro m hm;obtain⟨m,rfl⟩:∃j,m=j+1:=⟨m-1,∅⟩;exact .atm a b c k h
 |rst a b c d k=>intro m hm;obtain⟨m,rfl⟩:∃j,m=j+1:=⟨m-1,∅⟩;exact .rst a b c d k
 |not _ ih=>intro m hm;obtain⟨m,rfl⟩:∃j,m=j+1:=⟨m-1,∅⟩;exact .not (ih ∅)
 |op h hl _ ih=>intro m hm;obtain⟨m,rfl⟩:∃j,m=j+1:=⟨m-1,∅⟩;exact .op h hl fun x mx=>ih x mx ∅
theorem Sz.T3r(a b c:Int):Sz 1 (T3 a b c):=Sz.tup (by simp) fun y m=>by
 simp at m;rcases m with rfl|rfl|rfl<;>exact .int _
theorem Fq.T3r(a b c:Int):Fq (T3 a b c):=⟨(Sz.T3r a b c).mono (!0),fun l e z m=>by
 cases e;simp at m
 rcases m with rfl|rfl|rfl<;>exact .inl ⟨_,rfl⟩⟩
theorem zKk(z:String):Sz 0 (.str (Str.ofString z)):=.str (zFE z)
theorem RdP.sz{n:Nat}{x:P} (h:RdP n x):Sz (n+1) x:=by
 induction h with
 |non=>exact Sz.non.mono ∅
 |atm a b c k h =>
  refine Sz.tup (by simp) fun y m=>?_
  simp at m;rcases m with rfl|rfl|rfl
  ·rcases h with rfl|rfl|rfl<;>exact(zKk _).mono ∅
  ·exact(Sz.T3r a b c).mono ∅
  ·exact(Sz.int _).mono ∅
 |rst a b c d k =>
  refine Sz.tup (by simp) fun y m=>?_
  simp at m;rcases m with rfl|rfl|rfl|rfl
  ·exact(zKk _).mono ∅
  ·exact(Sz.T3r a b c).mono ∅
  ·exact(Sz.int _).mono ∅
  ·exact(Sz.int _).mono ∅
 |not _ ih =>
  refine Sz.tup (by simp) fun y m=>?_
  simp at m;rcases m with rfl|rfl
  ·exact(zKk _).mono ∅
  ·exact ih
 |op h hl _ ih =>
  refine Sz.tup (by simp;omega) fun y m=>?_
  rcases Jr.mp m with rfl|m
  ·rcases h with rfl|rfl<;>exact(zKk _).mono ∅
  ·exact ih y m
theorem RdP.ok{n m:Nat}{x:P} (h:RdP n x) (hm:n+1≤m):okP m x=true:=(h.sz m hm).1
theorem RdP.od{n:Nat}{x:P} (h:RdP n x):Od n x:=by
 induction h with
 |non=>exact .flat fun l e=>by cases e
 |atm a b c k h=>exact .atm h (Fq.T3r a b c) (by simp)
 |rst a b c d k=>exact .rst (Fq.T3r a b c) (by simp)
 |@not n x h ih =>
  refine .con (.inl rfl) (by simp) fun y m=>?_
  have e:y=x:=by simpa using m
  rw[e];exact ih
 |op h hl _ ih=>exact .con (h.elim (fun z=>.inr (.inl z)) fun z=>.inr (.inr z)) ∅ fun y m=>ih y m
abbrev zJS:List Nat:=[110,111,116]
def isOp(w:List Nat):Bool:=decide (w=zJS)||(decide (w=zE6)||decide (w=wOrd))
def isOpen(w:List Nat):Bool:=decide (w=zJS)||decide (w=[40])
def cntF(f:List Nat→Bool) (ws:List (List Nat)) (k:Nat):Nat:=(ws.drop k).countP f
theorem zJz{f:List Nat→Bool} (hf:f []=false) (ws:List (List Nat)) (k:Nat):cntF f ws k=(if f (nx ws k)=true then 1 else 0)+cntF f ws (k+1):=by
 unfold cntF
 by_cases h:k<ws.length
 ·rw[J6 h,V3]
  have:nx ws k=ws[k]:=by
   have:=zEy h
   rw[Jf h]at this;exact(Jd this).symm
  rw[this];omega
 ·rw[zDT h,hf,JD ∅,JD ∅];rfl
theorem zBy{f:List Nat→Bool} (ws:List (List Nat)){k j:Nat} (h:k≤j):cntF f ws j≤cntF f ws k:=by
 unfold cntF;obtain⟨i,rfl⟩:∃i,j=k+i:=⟨j-k,∅⟩;rw[←br];exact List.Sublist.countP_le (List.drop_sublist _ _)
abbrev mu(ws:List (List Nat)) (k:Nat):Nat:=cntF isOp ws k
abbrev fu(ws:List (List Nat)) (k:Nat):Nat:=cntF isOpen ws k
theorem zQU{ws:List (List Nat)}{k:Nat}{w:List Nat} (h:nx ws k=w) (hw:isOp w=true):mu ws k=1+mu ws (k+1):=by
 unfold mu;rw[zJz (by rfl) ws k,h,hw]
 rfl
theorem fu_op{ws:List (List Nat)}{k:Nat}{w:List Nat} (h:nx ws k=w) (hw:isOpen w=true):fu ws k=1+fu ws (k+1):=by
 unfold fu;rw[zJz (by rfl) ws k,h,hw]
 rfl
theorem zNc{ws:List (List Nat)}{k:Nat}{w:List Nat} (h:nx ws k=w) (hw:w≠[]):k<ws.length:=by
 by_cases hk:k<ws.length
 ·exact hk
 ·rw[zDT hk]at h;exact absurd h.symm hw
def Rg(ws:List (List Nat)) (k:Nat) (x:Option (P×Nat)):Prop:=∃r j,x=some (r,j)∧k≤j∧∃n,RdP n r∧n+mu ws j≤1+mu ws k
theorem Rg.none{ws:List (List Nat)}{k j:Nat} (h:k≤j):Rg ws k (some (.non,j)):=⟨_,_,rfl,h,0,.non,by have:=zBy (f:=isOp) ws h;unfold mu;omega⟩
theorem Rg.one{ws:List (List Nat)}{k j:Nat}{r:P} (h:k≤j) (hr:RdP 1 r):Rg ws k (some (r,j)):=⟨_,_,rfl,h,1,hr,by have:=zBy (f:=isOp) ws h;unfold mu;omega⟩
theorem Rg.back{ws:List (List Nat)}{k j:Nat}{x:Option (P×Nat)} (h:Rg ws j x) (hk:k≤j):Rg ws k x:=by
 obtain⟨r,i,e,h1,n,h2,h3⟩:=h;exact⟨r,i,e,∅,n,h2,by have:=zBy (f:=isOp) ws hk;unfold mu at h3 ⊢;omega⟩
theorem zHq{w:List Nat}{n:Str} (h:zBz w=some n):n=wGe∨n=wLe∨n=wEq:=by
 unfold zBz at h;split at h
 ·cases h;exact .inl rfl
 ·split at h
  ·cases h;exact .inr (.inl rfl)
  ·split at h
   ·cases h;exact .inr (.inr rfl)
   ·cases h
theorem zQ9(ws:List (List Nat)) (k:Nat) (a b c:Int):Rg ws k (some (rEnd ws k (T3 a b c))):=by
 unfold rEnd;split
 ·exact .one ∅ (.rst a b c _ _)
 ·split
  ·rename_i n h
   split
   ·exact .one ∅ (.atm a b c _ (zHq h))
   ·exact .none ∅
  ·exact .none ∅
theorem zJH{ws:List (List Nat)}:∀(m k:Nat) (sg a b c:Int),ws.length+1≤k+2*m→1≤m→Rg ws k (rAtm ws m k sg a b c)
 |0,_,_,_,_,_,_,h=>by omega
 |m+1,k,sg,a,b,c,h,_=>by
  rw[rAtm];split
  ·exact .none ∅
  ·rename_i mi l d e
   dsimp only;split
   ·rename_i h1
    have:=zNc h1 (by simp)
    exact(zJH m (k+2) _ _ _ _ ∅ ∅).back ∅
   ·split
    ·rename_i h1
     have:=zNc h1 (by simp)
     exact(zJH m (k+2) _ _ _ _ ∅ ∅).back ∅
    ·exact(zQ9 ws (k+1) _ _ _).back ∅
theorem zOh{ws:List (List Nat)} (hl:ws.length≤800) (k:Nat):Rg ws k (zK7 ws k):=zJH _ _ _ _ _ _ ∅ (!0)
theorem zKH{ws:List (List Nat)}{F:Nat→Option (P×Nat)}{w:List Nat} (hw:isOp w=true) (k0:Nat) (hF:∀k,k0≤k→Rg ws k (F k)) (hmu:mu ws k0≤60) :
  ∀(m k:Nat),ws.length<k+m→1≤m→k0≤k→∃l e,zDD F w ws m k=some (l,e)∧k≤e∧l≠[]∧l.length≤m∧mu ws e+(l.length-1)≤mu ws k∧∃n,(∀x∈l,RdP n x)∧n+mu ws e+(l.length-1)≤1+mu ws k
 |0,_,_,h,_=>by omega
 |m+1,k,h,_,hk=>by
  obtain⟨r,j,e,hj,n,hr,hn⟩:=hF k hk;have hkk:=zBy (f:=isOp) ws hk;have hjj:=zBy (f:=isOp) ws hj;have ok:okP 63 r=true:=hr.ok (by unfold mu at hn hmu;omega)
  rw[zDD,e];dsimp only;rw[Jm ok]
  by_cases hj2:nx ws j=w
  ·have hne:w≠[]:=fun z=>by rw[z]at hw;cases hw
   have jl:=zNc hj2 hne;obtain⟨l,e2,q,g1,g2,g3,g4,n2,g5,g6⟩:=zKH hw k0 hF hmu m (j+1) ∅ ∅ ∅;have mo:=zQU hj2 hw
   have l1:1≤l.length:=by
    cases l with
    |nil=>exact absurd rfl g2
    |cons _ _=>simp
   rw[Jm hj2,q];refine⟨_,_,rfl,∅,by simp,by simp;omega,?_,max n n2,fun x mx=>?_,?_⟩
   ·simp only[JJ];unfold mu at *
    omega
   ·rcases Jr.mp mx with rfl|mx
    ·exact hr.mono (Nat.le_max_left _ _)
    ·exact(g5 x mx).mono (Nat.le_max_right _ _)
   ·simp only[JJ];unfold mu at *
    omega
  ·rw[Js hj2];refine⟨_,_,rfl,hj,by simp,by simp,?_,n,fun x mx=>?_,?_⟩
   ·unfold mu at *
    simp;omega
   ·have:x=r:=by simpa using mx
    rw[this];exact hr
   ·simp;exact hn
theorem zDO{ws:List (List Nat)}{F:Nat→Option (P×Nat)} (b:Bool){k0:Nat} (hF:∀k,k0≤k→Rg ws k (F k)) (hmu:mu ws k0≤60) (hl:ws.length≤800):∀k,k0≤k→Rg ws k (zCT F (opN b) ws k):=by
 intro k hk;have hw:isOp (opN b)=true:=by cases b<;>decide
 obtain⟨l,e,q,g1,g2,g3,g4,n,g5,g6⟩:=zKH hw k0 hF hmu 900 k ∅ ∅ hk;unfold zCT;rw[q];refine⟨_,_,rfl,g1,?_⟩;unfold rJoin
 by_cases hn:zDN l=true
 ·rw[Jm hn];exact⟨0,.non,by unfold mu at *;omega⟩
 ·rw[Js hn]
  by_cases h1:l.length=1
  ·rw[Jm h1]
   match l,h1 with
   |[x],_=>exact⟨n,g5 x (by simp),by simpa using g6⟩
  ·rw[Js h1]
   have:1≤l.length:=by
    cases l with
    |nil=>exact absurd rfl g2
    |cons _ _=>simp
   refine⟨n+1,.op ?_ g3 g5,by unfold mu at *;omega⟩
   cases b
   ·exact .inr (by rw[show opN false=[111,114]from rfl,←k_or])
   ·exact .inl (by rw[show opN true=[97,110,100]from rfl,←zI8])
theorem zHd{ws:List (List Nat)} (hl:ws.length≤800) (hmu:mu ws 0≤60):∀(n k:Nat),fu ws k<n→Rg ws k (zDw ws n k)
 |0,_,h=>by omega
 |n+1,k,h=>by
  rw[zDw]
  by_cases h1:nx ws k=[110,111,116]
  ·rw[Jm h1];have f1:=fu_op h1 (!0);have m1:=zQU h1 (!0);obtain⟨r,j,e,hj,n2,hr,hn⟩:=zHd hl hmu n (k+1) ∅;rw[e];dsimp only
   by_cases hnn:isNon r=true
   ·rw[Jm hnn];exact .none ∅
   ·rw[Js hnn];exact⟨_,_,rfl,∅,n2+1,.not hr,by unfold mu at *;omega⟩
  ·rw[Js h1]
   by_cases h2:nx ws k=[40]
   ·rw[Jm h2];have f1:=fu_op h2 (!0);have hF:∀k',k+1≤k'→Rg ws k' (zDw ws n k'):=fun k' hk'=>zHd hl hmu n k' (by have:=zBy (f:=isOpen) ws hk';unfold fu at *;omega)
    have m0:mu ws (k+1)≤60:=Jt (zBy ws ∅) hmu;obtain⟨r,j,e,hj,n2,hr,hn⟩:=zDO false (zDO true hF m0 hl) m0 hl (k+1) (Jq _);have e:zCT (zCT (zDw ws n) [97,110,100] ws) [111,114] ws (k+1)=some (r,j):=e;rw[e];have a1:=zBy (f:=isOp) ws (show k≤k+1 by omega)
    have a2:=zBy (f:=isOp) ws (show j≤j+1 by omega)
    exact⟨_,_,rfl,∅,n2,hr,by unfold mu at *;omega⟩
   ·rw[Js h2];exact zOh hl k
theorem zQf{ws:List (List Nat)} (hl:ws.length≤800) (hmu:mu ws 0≤60){n:Nat} (hf:fu ws 0<n):∃r j,rAny ws n 0=some (r,j)∧RdP 61 r:=by
 have hF:∀k',0≤k'→Rg ws k' (zDw ws n k'):=fun k' hk'=>zHd hl hmu n k' (by have:=zBy (f:=isOpen) ws hk';unfold fu at *;omega)
 obtain⟨r,j,e,hj,n2,hr,hn⟩:=zDO false (zDO true hF hmu hl) hmu hl 0 (Jq _);exact⟨r,j,e,hr.mono (by unfold mu at *;omega)⟩
theorem zH3{c:Nat} (hc:c≠32):∀(acc l:List Nat),((TL.spl [32] 0 acc l).map fun w=>w.count c).sum=acc.count c+l.count c
 |acc,[]=>by rw[YN];simp
 |acc,d::l=>by
  have hp:TL.pre [32] (d::l)=(d==32):=by
   unfold TL.pre
   by_cases h:d=32<;>simp[h]
  by_cases h:d=32
  ·rw[YO (by rw[hp];simpa using h)]
   show((acc::TL.spl [32] 0 [] l).map fun w=>w.count c).sum=_
   rw[Jk,JM,zH3 hc [] l,List.count_cons_of_ne (by rw[h];exact fun z=>hc z.symm)]
   simp
  ·rw[Yz (by rw[hp];simpa using h),zH3 hc _ l]
   simp[JT,VU];omega
theorem zH4:∀(acc l:List Nat),((TL.spl [32] 0 acc l).map fun w=>w.length+1).sum=acc.length+l.length+1
 |acc,[]=>by rw[YN];simp
 |acc,d::l=>by
  have hp:TL.pre [32] (d::l)=(d==32):=by
   unfold TL.pre
   by_cases h:d=32<;>simp[h]
  by_cases h:d=32
  ·rw[YO (by rw[hp];simpa using h)]
   show((acc::TL.spl [32] 0 [] l).map fun w=>w.length+1).sum=_
   rw[Jk,JM,zH4 [] l];simp;omega
  ·rw[Yz (by rw[hp];simpa using h),zH4 _ l]
   simp;omega
theorem zL7:∀(acc l:List Nat),∀w∈TL.spl [32] 0 acc l,∀x∈w,x∈acc∨x∈l
 |acc,[],w,m,x,mx=>by
  rw[YN]at m
  have:w=acc:=by simpa using m
  rw[this]at mx;exact .inl mx
 |acc,d::l,w,m,x,mx=>by
  have hp:TL.pre [32] (d::l)=(d==32):=by
   unfold TL.pre
   by_cases h:d=32<;>simp[h]
  by_cases h:d=32
  ·rw[YO (by rw[hp];simpa using h)]at m
   rcases Jr.mp m with rfl|m
   ·exact .inl mx
   ·rcases zL7 [] l w m x mx with z|z
    ·cases z
    ·exact .inr (Jg _ z)
  ·rw[Yz (by rw[hp];simpa using h)]at m
   rcases zL7 _ l w m x mx with z|z
   ·rcases JC.mp z with z|z
    ·exact .inl z
    ·have:x=d:=by simpa using z
     exact .inr (by rw[this];exact Jc)
   ·exact .inr (Jg _ z)
theorem zGq(c a b:Nat):∀l:List Nat,(rp c [a,b] l).length=l.length+l.count c
 |[]=>rfl
 |d::l=>by
  have:=zGq c a b l
  unfold rp at this ⊢;rw[VX,Jl,this,JJ,VU]
  by_cases h:d=c<;>simp[h]<;>omega
theorem zEb{c a b x:Nat} (h:[a,b].count x=[c].count x):∀l:List Nat,(rp c [a,b] l).count x=l.count x
 |[]=>rfl
 |d::l=>by
  have:=zEb h l
  unfold rp at this ⊢;rw[VX,JT,this]
  by_cases hd:d=c
  ·rw[Jm hd,h,hd];simp[VU];omega
  ·rw[Js hd];simp[VU];omega
theorem rp_in{c a b:Nat}:∀ {l:List Nat}{x:Nat},x∈rp c [a,b] l→x=a∨x=b∨x∈l:=by
 intro l x h;unfold rp at h;rw[List.mem_flatMap]at h;obtain⟨d,md,h⟩:=h;split at h
 ·simp at h;rcases h with h|h
  ·exact .inl h
  ·exact .inr (.inl h)
 ·have:x=d:=by simpa using h
  exact .inr (.inr (by rw[this];exact md))
theorem zJD(l:List Nat):(rep2 l).length=l.length+l.count 40+l.count 41:=by
 unfold rep2;rw[zGq,zGq,zEb (!0)]
theorem zIX(l:List Nat):(rep2 l).count 40=l.count 40:=by
 unfold rep2;rw[zEb (!0),zEb (!0)]
theorem zIT(l:List Nat):(rep2 l).count 41=l.count 41:=by
 unfold rep2;rw[zEb (!0),zEb (!0)]
theorem zRZ{l:List Nat}{x:Nat} (h:x∈rep2 l):x=32∨x=40∨x=41∨x∈l:=by
 unfold rep2 at h;rcases rp_in h with h|h|h
 ·exact .inl h
 ·exact .inr (.inr (.inl h))
 ·rcases rp_in h with h|h|h
  ·exact .inr (.inl h)
  ·exact .inl h
  ·exact .inr (.inr (.inr h))
theorem zHc:∀w:List Nat,w.count 40+w.count 41≤w.length
 |[]=>by simp
 |d::w=>by
  have:=zHc w
  rw[VU,VU,JJ]
  by_cases h1:d=40
  ·rw[h1];simp;omega
  ·by_cases h2:d=41
   ·rw[h2];simp;omega
   ·simp[h1,h2];omega
theorem zPx:∀ws:List (List Nat),3*ws.countP isOp+(ws.map fun w=>w.count 40).sum+(ws.map fun w=>w.count 41).sum≤(ws.map fun w=>w.length+1).sum
 |[]=>by simp
 |w::ws=>by
  have ih:=zPx ws;have h1:=zHc w;rw[V3,Jk,Jk,Jk,JM,JM,JM]
  by_cases h:isOp w=true
  ·rw[Jm h]
   have:w=zJS∨w=zE6∨w=wOrd:=by
    unfold isOp at h;simpa using h
   rcases this with rfl|rfl|rfl<;>simp<;>omega
  ·rw[Js h];omega
theorem zMH:∀ws:List (List Nat),4*ws.countP (fun w=>decide (w=zJS))+(ws.map fun w=>w.count 40).sum+(ws.map fun w=>w.count 41).sum≤(ws.map fun w=>w.length+1).sum
 |[]=>by simp
 |w::ws=>by
  have ih:=zMH ws;have h1:=zHc w;rw[V3,Jk,Jk,Jk,JM,JM,JM]
  by_cases h:w=zJS
  ·rw[Jm (by simpa using h),h]
   simp;omega
  ·rw[Js (by simpa using h)]
   omega
theorem zKL:∀ws:List (List Nat),ws.countP isOpen≤ws.countP (fun w=>decide (w=zJS))+(ws.map fun w=>w.count 40).sum
 |[]=>by simp
 |w::ws=>by
  have ih:=zKL ws;rw[V3,V3,Jk,JM]
  by_cases h1:w=zJS
  ·rw[Jm (by unfold isOpen;simp[h1]),Jm (by simpa using h1)]
   omega
  ·by_cases h2:w=[40]
   ·rw[Jm (by unfold isOpen;simp[h2]),h2]
    simp;omega
   ·rw[Js (by unfold isOpen;simp[h1,h2])]
    omega
theorem zPo:∀ws:List (List Nat),ws.length≤(ws.map fun w=>w.length+1).sum
 |[]=>by simp
 |w::ws=>by
  have:=zPo ws
  simp only[Jk,JM,JJ];omega
theorem zPL:∀ws:List (List Nat),∀w∈ws,w.length+1≤(ws.map fun w=>w.length+1).sum
 |[],w,m=>by cases m
 |u::ws,w,m=>by
  simp only[Jk,JM];rcases Jr.mp m with rfl|m
  ·omega
  ·have:=zPL ws w m
   omega
theorem zKX{l:List Nat} (hl:l.length≤179) (hc:∀c∈l,c<256):(rwds l).length≤800∧(∀w∈rwds l,okW w=true)∧mu (rwds l) 0≤60∧(l.count 40≤12→fu (rwds l) 0<60):=by
 have s1:=zH4 [] (rep2 l);have s2:=zH3 (c:=40) (!0) [] (rep2 l);have s3:=zH3 (c:=41) (!0) [] (rep2 l);rw[zJD]at s1;rw[zIX]at s2;rw[zIT]at s3;have q0:=zHc l;have hi:=zL7 [] (rep2 l);have o1:=zPx (rwds l);have o2:=zMH (rwds l);have o3:=zKL (rwds l);unfold rwds at *
 generalize TL.spl [32] 0 [] (rep2 l)=ws at *
 simp only[List.length_nil,List.count_nil,VQ]at s1 s2 s3;have lw:=zPo ws;have lm:=zPL ws;refine⟨∅,fun w m=>?_,?_,fun h40=>?_⟩
 ·unfold okW;rw[Jj];refine⟨JO (by have:=lm w m;omega),Jp.mpr fun x mx=>JO ?_⟩
  rcases hi w m x mx with z|z
  ·cases z
  ·rcases zRZ z with rfl|rfl|rfl|z
   ·decide
   ·decide
   ·decide
   ·have:=hc x z;omega
 ·show(ws.drop 0).countP isOp≤60;rw[Vr];omega
 ·show(ws.drop 0).countP isOpen<60;rw[Vr];omega
def zB7:FM:=runF 2 11 (sSeq (sPar 2 3 %[(zCs %[(mC (.int 0)),(mC (.int 0)),(mC (.int 0))|0]),(mC (.int 1))|0])
  (sSeq (zDa 1000 (mTru (mC (.bl true))) (sSeq (sSet 7 (mIfE (mTst (mBin vLt (mVar 1) (zAJ vLen %[(mVar 0)|0]))) (mBin vIx (mVar 0) (mVar 1)) (mC (.str ""))))
  (sSeq (sIf (zDV (mTst (mBin (vEqB false) (mSl (mVar 7) zCi (zA0 (mC (.int 1)))) (mC (.str "-")))) (mTst (mBin (vEqB false) (mVar 2) (mLst %[(mC (.int 0)),(mC (.int 0)),(mC (.int 0))|0])))) (sPar 3 7 %[(mNeg (mC (.int 1))),(mSl (mVar 7) (zA0 (mC (.int 1))) zCi)|0]) sNx)
  (sSeq (sIf (mOrT (mTst (mBin (vInB true) (mSl (mVar 7) (zA0 (mNeg (mC (.int 1)))) zCi) (mLst %[(mC (.str "a")),(mC (.str "b")),(mC (.str "c"))|0]))) (mTst (mBin (vInB true) (mSl (mVar 7) zCi (zA0 (mNeg (mC (.int 1))))) (mLst %[(mC (.str "")),(mC (.str "1*")),(mC (.str "2*")),(mC (.str "3*"))|0])))) (sRet (mTup %[(mC .non),(mVar 1)|0])) sNx)
  (sSeq (sSet 8 (mBm "str" zEv (mC (.str "abc")) %[(mBin vIx (mVar 7) (mNeg (mC (.int 1))))|0]))
  (sSeq (zDx (mVar 2) (mVar 8) (mBin vAdd (mBin vIx (mVar 2) (mVar 8)) (mBin zE2 (mVar 3) (zAJ vInt %[(mBin vIx (mBin vAdd (mSl (mVar 7) zCi (zA0 (mNeg (mC (.int 1))))) (mC (.str "1"))) (mC (.int 0)))|0]))))
  (sSeq (sIf (mTst (mBin (vInB true) (mSl (mVar 0) (zA0 (mBin vAdd (mVar 1) (mC (.int 1)))) (zA0 (mBin vAdd (mVar 1) (mC (.int 2))))) (mLst %[(mLst %[(mC (.str "+"))|0]),(mLst %[(mC (.str "-"))|0])|0]))) sBrk sNx)
  (sPar 3 1 %[(mIfE (mTst (mBin (vEqB false) (mBin vIx (mVar 0) (mBin vAdd (mVar 1) (mC (.int 1)))) (mC (.str "+")))) (mC (.int 1)) (mNeg (mC (.int 1)))),(mBin vAdd (mVar 1) (mC (.int 2)))|0]))))))))
  (sSeq (sSet 4 (mSl (mVar 0) (zA0 (mBin vAdd (mVar 1) (mC (.int 1)))) (zA0 (mBin vAdd (mVar 1) (mC (.int 5))))))
  (sSeq (sSet 5 (mLc (zEs (mC (.int 10))) (.nm 9) [9] mYes (zAJ vStr %[(mVar 9)|0]) finP))
  (sSeq (sIf (zDV (mTst (mBin (vEqB false) (zAJ vLen %[(mVar 4)|0]) (mC (.int 4)))) (zDV (mTst (mBin (vEqB false) (mBin vIx (mVar 4) (mC (.int 0))) (mC (.str "mod")))) (zDV (mTst (mBin (vInB false) (mBin vIx (mVar 4) (mC (.int 1))) (mVar 5))) (mTst (mBin (vInB false) (mBin vIx (mVar 4) (mC (.int 3))) (mVar 5)))))) (sRet (mIfE (mTst (mBin (vEqB false) (mBin vIx (mVar 4) (mC (.int 2))) (mC (.str "=")))) (mTup %[(mTup %[(mC (.str "rest")),(zAJ zCI %[(mVar 2)|0]),(zAJ vInt %[(mBin vIx (mVar 4) (mC (.int 1)))|0]),(zAJ vInt %[(mBin vIx (mVar 4) (mC (.int 3)))|0])|0]),(mBin vAdd (mVar 1) (mC (.int 5)))|0]) (mTup %[(mC .non),(mVar 1)|0]))) sNx)
  (sSeq (sSet 6 (zJU [">=", "<=", "="] [(mC (.str "at least")),(mC (.str "at most")),(mC (.str "equal"))]))
  (sSeq (sIf (mOrT (mTst (mBin vLt (zAJ vLen %[(mVar 4)|0]) (mC (.int 2)))) (mOrT (mTst (mBin (vInK true) (mBin vIx (mVar 4) (mC (.int 0))) (mVar 6))) (mTst (mBin (vInB true) (mBin vIx (mVar 4) (mC (.int 1))) (mBin vAdd (mVar 5) (mLc (mSrc (mVar 5)) (.nm 10) [10] mYes (mBin vAdd (mC (.str "-")) (mVar 10)) finP)))))) (sRet (mTup %[(mC .non),(mVar 1)|0])) sNx)
  (sRet (mTup %[(mTup %[(zIy (mVar 6) (mBin vIx (mVar 4) (mC (.int 0)))),(zAJ zCI %[(mVar 2)|0]),(zAJ vInt %[(mBin vIx (mVar 4) (mC (.int 1)))|0])|0]),(mBin vAdd (mVar 1) (mC (.int 3)))|0])))))))))
def laR3:SMm:=(sSeq (sIf (mTst (mBin (vInB true) (mSl (mVar 0) (zA0 (mBin vAdd (mVar 1) (mC (.int 1)))) (zA0 (mBin vAdd (mVar 1) (mC (.int 2))))) (mLst %[(mLst %[(mC (.str "+"))|0]),(mLst %[(mC (.str "-"))|0])|0]))) sBrk sNx)
  (sPar 3 1 %[(mIfE (mTst (mBin (vEqB false) (mBin vIx (mVar 0) (mBin vAdd (mVar 1) (mC (.int 1)))) (mC (.str "+")))) (mC (.int 1)) (mNeg (mC (.int 1)))),(mBin vAdd (mVar 1) (mC (.int 2)))|0]))
def laR2:SMm:=(sSeq (sSet 8 (mBm "str" zEv (mC (.str "abc")) %[(mBin vIx (mVar 7) (mNeg (mC (.int 1))))|0]))
  (sSeq (zDx (mVar 2) (mVar 8) (mBin vAdd (mBin vIx (mVar 2) (mVar 8)) (mBin zE2 (mVar 3) (zAJ vInt %[(mBin vIx (mBin vAdd (mSl (mVar 7) zCi (zA0 (mNeg (mC (.int 1))))) (mC (.str "1"))) (mC (.int 0)))|0]))))
  laR3))
def laR1:SMm:=(sSeq (sIf (mOrT (mTst (mBin (vInB true) (mSl (mVar 7) (zA0 (mNeg (mC (.int 1)))) zCi) (mLst %[(mC (.str "a")),(mC (.str "b")),(mC (.str "c"))|0]))) (mTst (mBin (vInB true) (mSl (mVar 7) zCi (zA0 (mNeg (mC (.int 1))))) (mLst %[(mC (.str "")),(mC (.str "1*")),(mC (.str "2*")),(mC (.str "3*"))|0])))) (sRet (mTup %[(mC .non),(mVar 1)|0])) sNx)
  laR2)
def zGj:SMm:=(sSeq (sSet 7 (mIfE (mTst (mBin vLt (mVar 1) (zAJ vLen %[(mVar 0)|0]))) (mBin vIx (mVar 0) (mVar 1)) (mC (.str ""))))
  (sSeq (sIf (zDV (mTst (mBin (vEqB false) (mSl (mVar 7) zCi (zA0 (mC (.int 1)))) (mC (.str "-")))) (mTst (mBin (vEqB false) (mVar 2) (mLst %[(mC (.int 0)),(mC (.int 0)),(mC (.int 0))|0])))) (sPar 3 7 %[(mNeg (mC (.int 1))),(mSl (mVar 7) (zA0 (mC (.int 1))) zCi)|0]) sNx)
  laR1))
def laE2:SMm:=(sSeq (sSet 6 (zJU [">=", "<=", "="] [(mC (.str "at least")),(mC (.str "at most")),(mC (.str "equal"))]))
  (sSeq (sIf (mOrT (mTst (mBin vLt (zAJ vLen %[(mVar 4)|0]) (mC (.int 2)))) (mOrT (mTst (mBin (vInK true) (mBin vIx (mVar 4) (mC (.int 0))) (mVar 6))) (mTst (mBin (vInB true) (mBin vIx (mVar 4) (mC (.int 1))) (mBin vAdd (mVar 5) (mLc (mSrc (mVar 5)) (.nm 10) [10] mYes (mBin vAdd (mC (.str "-")) (mVar 10)) finP)))))) (sRet (mTup %[(mC .non),(mVar 1)|0])) sNx)
  (sRet (mTup %[(mTup %[(zIy (mVar 6) (mBin vIx (mVar 4) (mC (.int 0)))),(zAJ zCI %[(mVar 2)|0]),(zAJ vInt %[(mBin vIx (mVar 4) (mC (.int 1)))|0])|0]),(mBin vAdd (mVar 1) (mC (.int 3)))|0]))))
def laE1:SMm:=(sSeq (sIf (zDV (mTst (mBin (vEqB false) (zAJ vLen %[(mVar 4)|0]) (mC (.int 4)))) (zDV (mTst (mBin (vEqB false) (mBin vIx (mVar 4) (mC (.int 0))) (mC (.str "mod")))) (zDV (mTst (mBin (vInB false) (mBin vIx (mVar 4) (mC (.int 1))) (mVar 5))) (mTst (mBin (vInB false) (mBin vIx (mVar 4) (mC (.int 3))) (mVar 5)))))) (sRet (mIfE (mTst (mBin (vEqB false) (mBin vIx (mVar 4) (mC (.int 2))) (mC (.str "=")))) (mTup %[(mTup %[(mC (.str "rest")),(zAJ zCI %[(mVar 2)|0]),(zAJ vInt %[(mBin vIx (mVar 4) (mC (.int 1)))|0]),(zAJ vInt %[(mBin vIx (mVar 4) (mC (.int 3)))|0])|0]),(mBin vAdd (mVar 1) (mC (.int 5)))|0]) (mTup %[(mC .non),(mVar 1)|0]))) sNx)
  laE2)
def zFy:SMm:=(sSeq (sSet 4 (mSl (mVar 0) (zA0 (mBin vAdd (mVar 1) (mC (.int 1)))) (zA0 (mBin vAdd (mVar 1) (mC (.int 5))))))
  (sSeq (sSet 5 (mLc (zEs (mC (.int 10))) (.nm 9) [9] mYes (zAJ vStr %[(mVar 9)|0]) finP))
  laE1))
theorem zO8:zB7=runF 2 11 (sSeq (sPar 2 3 %[(zCs %[(mC (.int 0)),(mC (.int 0)),(mC (.int 0))|0]),(mC (.int 1))|0]) (sSeq (zDa 1000 (mTru (mC (.bl true))) zGj) zFy)):=rfl
def wsP(ws:List (List Nat)):P:=.lst (ws.map fun w=>P.str (S w))
def lW(v:List Nat):Option (Nat×Int):=match v with
 |[c]=>if c∈[97,98,99]then some (c-97,1)else none
 |[d,42,c]=>if c∈[97,98,99]∧d∈[49,50,51]then some (c-97,dV d)else none
 |_=>none
def zOJ(z:Bool) (w:List Nat):Option (Bool×Nat×Int) :=
 let m:=z&&(w.head?==some 45)
 match lW (if m=true then w.drop 1 else w)with
 |some (i,d)=>some (m,i,d)
 |none=>none
def lEnd(ws:List (List Nat)) (k:Nat) (fac:P):P×Nat :=
 if nx ws (k+1)=[109,111,100]∧k+5≤ws.length∧isDg (nx ws (k+2))=true∧isDg (nx ws (k+4))=true then
  (if nx ws (k+3)=[61]then(.tup [.str (Str.ofString "rest"),fac,.int (wV (nx ws (k+2))),.int (wV (nx ws (k+4)))],k+5)else(.non,k))
 else match zBz (nx ws (k+1))with
  |some n=>if k+3≤ws.length∧isDg (rmM (nx ws (k+2)))=true then(.tup [.str n,fac,.int (wV (nx ws (k+2)))],k+3)else(.non,k)
  |none=>(.non,k)
def lAtm(ws:List (List Nat)):Nat→Nat→Int→Int→Int→Int→Option (P×Nat)
 |0,_,_,_,_,_=>none
 |n+1,k,sg,a,b,c=>match zOJ (decide (a=0∧b=0∧c=0)) (nx ws k)with
  |none=>some (.non,k)
  |some (m,l,d) =>
   let s:=if m=true then -1 else sg
   let a':=if l=0 then a+s*d else a
   let b':=if l=1 then b+s*d else b
   let c':=if l=2 then c+s*d else c
   if nx ws (k+1)=[43]then lAtm ws n (k+2) 1 a' b' c'
   else if nx ws (k+1)=[45]then lAtm ws n (k+2) (-1) a' b' c'
   else some (lEnd ws k (T3 a' b' c'))
def zMD(ws:List (List Nat)) (k:Nat):Option (P×Nat):=lAtm ws 1000 k 1 0 0 0
abbrev laSg(ws:List (List Nat)) (k sg:Int) (x7 x8:Option W):Sg:=[some (.p (wsP ws)),some (.p (.int k)),some (.r 0),some (.p (.int sg)),none,none,none,x7,x8,none,none]
abbrev laSt(a b c:Int):List Cell:=[Cell.lst [.p (.int a),.p (.int b),.p (.int c)]]
theorem zOV{a b c:Int}{st:List Cell} (h:st[0]?=some (.lst [.p (.int a),.p (.int b),.p (.int c)])):vEqB false (.r 0) (.p (.lst [.int 0,.int 0,.int 0])) st=.ok (.p (.bl (decide (a=0∧b=0∧c=0)))) st:=by
 rw[zNR (l:=[.int a,.int b,.int c]) h,zDC (by simp) (by simp)]
 simp
 by_cases h1:a=0<;>by_cases h2:b=0<;>by_cases h3:c=0<;>simp[h1,h2,h3]
theorem zKG(w:List Nat):(w.take 1=[45])↔w.head?=some 45:=by
 cases w<;>simp
theorem zQY(ws:List (List Nat)) (k:Nat){σ:Sg}{st:List Cell} (h0:σ[0]?=some (some (.p (wsP ws)))) (h1:σ[1]?=some (some (.p (.int k)))) :
  mIfE (mTst (mBin vLt (mVar 1) (zAJ vLen %[(mVar 0)|0]))) (mBin vIx (mVar 0) (mVar 1)) (mC (.str "")) σ st=.ok (.p (.str (S (nx ws k)))) st:=by
 by_cases h:k<ws.length
 ·have e:L2.atI (ws.map fun w=>P.str (S w)) (k:Int)=some (.str (S (nx ws k))):=L2.atI_nat (by rw[Ji,zEy h];rfl)
  have h2:(k:Int)<(ws.length:Int):=by omega
  simp[h0,h1,wsP,h2,e]
 ·have h2:¬(k:Int)<(ws.length:Int):=by omega
  simp[h0,h1,wsP,h2,zDT h,k_e]
theorem la_A{ws:List (List Nat)}{k:Nat}{sg a b c:Int}{x7 x8:Option W} (lw:(nx ws k).length≤1000) :
  zGj (laSg ws k sg x7 x8) (laSt a b c)=if(decide (a=0∧b=0∧c=0)&&((nx ws k).head?==some 45))=true then laR1 (laSg ws k (-1) (some (.p (.str (S ((nx ws k).drop 1))))) x8) (laSt a b c)else laR1 (laSg ws k sg (some (.p (.str (S (nx ws k))))) x8) (laSt a b c):=by
 have wa:=fun{σ:Sg}{st:List Cell} h0 h1=>zQY ws k (σ:=σ) (st:=st) h0 h1
 have z:=fun(st:List Cell) h=>zOV (a:=a) (b:=b) (c:=c) (st:=st) h
 generalize nx ws k=w at lw wa ⊢;have cs:cutS (S w) (some 1) none=S (w.drop 1):=by rw[zEn,zGJ (!0)];rfl
 have ct:cutS (S w) none (some 1)=S (w.take 1):=by rw[zEn,zM4 (!0)];rfl
 have wl:w.length≤1000000:=by omega
 by_cases hh:w.head?=some 45
 ·have t1:=(zKG w).mpr hh
  by_cases hz:a=0∧b=0∧c=0
  ·simp[zGj,wa,-zL2,k_mi,hh,z,hz,cs,ct,t1,S_len,wl]
  ·simp[zGj,wa,-zL2,k_mi,hh,z,hz,cs,ct,t1,S_len,wl]
 ·have t1:¬w.take 1=[45]:=fun e=>hh ((zKG w).mp e)
  simp[zGj,wa,-zL2,k_mi,hh,ct,t1,S_len,wl,S_eq]
theorem zMT(u:List Nat) (c:Nat):cutL (u++[c]) (some (-1)) none=[c]:=by
 have e:HT.sIx (u++[c]).length 0 (some (-1))=u.length:=by
  unfold HT.sIx;simp;omega
 unfold cutL;rw[Y3,e];simp
theorem zLd(u:List Nat) (c:Nat):cutL (u++[c]) none (some (-1))=u:=by
 have e:HT.sIx (u++[c]).length (u++[c]).length (some (-1))=u.length:=by
  unfold HT.sIx;simp;omega
 unfold cutL;rw[Y3,e];simp
theorem cut_l0:cutL ([]:List Nat) (some (-1)) none=[]:=by decide
theorem zQ8{v:List Nat}{i:Nat}{d:Int} (h:lW v=some (i,d)):∃c,(c=97∨c=98∨c=99)∧i=c-97∧(v=[c]∧d=1∨v=[49,42,c]∧d=1∨v=[50,42,c]∧d=2∨v=[51,42,c]∧d=3):=by
 unfold lW at h;split at h
 ·rename_i c
  split at h
  ·rename_i hc
   cases h;exact⟨c,by simpa using hc,rfl,.inl ⟨rfl,rfl⟩⟩
  ·cases h
 ·rename_i e c
  split at h
  ·rename_i hc
   cases h;refine⟨c,by simpa using hc.1,rfl,?_⟩
   have:=hc.2
   simp at this;rcases this with rfl|rfl|rfl
   ·exact .inr (.inl ⟨rfl,rfl⟩)
   ·exact .inr (.inr (.inl ⟨rfl,rfl⟩))
   ·exact .inr (.inr (.inr ⟨rfl,rfl⟩))
  ·cases h
 ·cases h
theorem zQR{v:List Nat} (h:lW v=none):v=[]∨∃u c,v=u++[c]∧(c ∉ [97,98,99]∨u ∉ [[],[49,42],[50,42],[51,42]]):=by
 rcases List.eq_nil_or_concat v with rfl|⟨u,c,rfl⟩
 ·exact .inl rfl
 ·refine .inr ⟨u,c,by simp,?_⟩
  by_cases hc:c∈[97,98,99]
  ·refine .inr fun hu=>?_
   simp only[Jr,VL,bv]at hu;rcases hu with rfl|rfl|rfl|rfl<;>simp[lW,hc]at h<;>simp at hc<;>omega
  ·exact .inl hc
theorem la_B{ws:List (List Nat)}{k sg a b c:Int}{x8:Option W}{v:List Nat} (lv:v.length≤1000) (hs:sg=1∨sg = -1) :
  laR1 (laSg ws k sg (some (.p (.str (S v)))) x8) (laSt a b c)=match lW v with
   |some (i,d)=>laR3 (laSg ws k sg (some (.p (.str (S v)))) (some (.p (.int ((i:Nat):Int))))) (laSt (if i=0 then a+sg*d else a) (if i=1 then b+sg*d else b) (if i=2 then c+sg*d else c))
   |none=>.ok (.rt (.p (.tup [.non,.int k]))) (laSg ws k sg (some (.p (.str (S v)))) x8) (laSt a b c):=by
 have k1:Str.ofString "1*" = S [49,42]:=by decide +kernel
 have k2:Str.ofString "2*" = S [50,42]:=by decide +kernel
 have k3:Str.ofString "3*" = S [51,42]:=by decide +kernel
 have ka:Str.ofString "a" = S [97]:=by decide +kernel
 have kb:Str.ofString "b" = S [98]:=by decide +kernel
 have kc:Str.ofString "c" = S [99]:=by decide +kernel
 have ko:Str.ofString "1" = S [49]:=by decide +kernel
 cases h:lW v with
 |none =>
  dsimp only;rcases zQR h with rfl|⟨u,q,rfl,hq⟩
  ·simp[laR1,zEn,cut_l0,ka,kb,kc,S_len,S_beq]
  ·have lu:u.length≤999999:=by simp at lv;omega
   by_cases hc:q∈[97,98,99]
   ·have hu:=hq.resolve_left (fun z=>z hc)
    have hu2:¬(u=[]∨u=[49,42]∨u=[50,42]∨u=[51,42]):=by simpa using hu
    have hc2:q=97∨q=98∨q=99:=by simpa using hc
    simp only[not_or]at hu2;obtain⟨u1,u2,u3,u4⟩:=hu2;rcases hc2 with rfl|rfl|rfl<;>simp[laR1,zEn,zMT,zLd,ka,kb,kc,k1,k2,k3,k_e,S_len,S_beq,lu,u1,u2,u3,u4,Vl u1,Vl u2,Vl u3,Vl u4]
   ·have hc2:¬(q=97∨q=98∨q=99):=by simpa using hc
    simp only[not_or]at hc2;obtain⟨q1,q2,q3⟩:=hc2;simp[laR1,zEn,zMT,zLd,ka,kb,kc,S_len,S_beq,lu,q1,q2,q3,Vl q1,Vl q2,Vl q3]
 |some p =>
  obtain⟨i,d⟩:=p;dsimp only;obtain⟨q,hq,rfl,hv⟩:=zQ8 h;have fi:=zPX q (by simpa using hq)
  have sd:(⟨#[q]⟩:Str)=S [q]:=rfl
  have go:∀(u:List Nat) (n:Nat),v=u++[q]→(u=[]∧n=1∨u=[49,42]∧n=1∨u=[50,42]∧n=2∨u=[51,42]∧n=3)→laR1 (laSg ws k sg (some (.p (.str (S v)))) x8) (laSt a b c)=laR3 (laSg ws k sg (some (.p (.str (S v)))) (some (.p (.int ((q-97:Nat):Int))))) (laSt (if q-97=0 then a+sg*(n:Int)else a) (if q-97=1 then b+sg*(n:Int)else b) (if q-97=2 then c+sg*(n:Int)else c)):=by
   intro u n hvu hu;have cl:=zMT u q;have ci:=zLd u q;have li:L2.atI (u++[q]) (-1)=some q:=by rw[zNC];simp
   rw[←hvu]at cl ci li;have lu:v.length≤1000000:=by omega
   clear hv h hvu;have i1:PySem.intText? (S [49])=some 1:=by decide +kernel
   have i2:PySem.intText? (S [50])=some 2:=by decide +kernel
   have i3:PySem.intText? (S [51])=some 3:=by decide +kernel
   have v1:∀st,Y.vInt [W.p (P.str (S [49]))] st=.ok (.p (.int 1)) st:=fun st=>zD1 (w:=[49]) (!0) st
   have v2:∀st,Y.vInt [W.p (P.str (S [50]))] st=.ok (.p (.int 2)) st:=fun st=>zD1 (w:=[50]) (!0) st
   have v3:∀st,Y.vInt [W.p (P.str (S [51]))] st=.ok (.p (.int 3)) st:=fun st=>zD1 (w:=[51]) (!0) st
   have m1:zDS sg 1=true:=mulOk_of (Sm.small ∅) (Sm.small ∅);have m2:zDS sg 2=true:=mulOk_of (Sm.small ∅) (Sm.small ∅);have m3:zDS sg 3=true:=mulOk_of (Sm.small ∅) (Sm.small ∅);have c1:(S []++S [49]).cps[0]?=some 49:=by decide +kernel
   have c2:(S [49,42]++S [49]).cps[0]?=some 49:=by decide +kernel
   have c3:(S [50,42]++S [49]).cps[0]?=some 50:=by decide +kernel
   have c4:(S [51,42]++S [49]).cps[0]?=some 51:=by decide +kernel
   have s1:(⟨#[49]⟩:Str)=S [49]:=rfl;have s2:(⟨#[50]⟩:Str)=S [50]:=rfl;have s3:(⟨#[51]⟩:Str)=S [51]:=rfl;rcases hu with⟨rfl,rfl⟩|⟨rfl,rfl⟩|⟨rfl,rfl⟩|⟨rfl,rfl⟩<;>rcases hq with rfl|rfl|rfl<;>simp[laR1,laR2,zEn,S_len,ka,kb,kc,k1,k2,k3,ko,k_e,zIJ,S_beq,cl,ci,li,sd,fi,lu,v1,v2,v3,m1,m2,m3,c1,c2,c3,c4,s1,s2,s3]
  rcases hv with⟨rfl,rfl⟩|⟨rfl,rfl⟩|⟨rfl,rfl⟩|⟨rfl,rfl⟩
  ·exact go [] 1 rfl (.inl ⟨rfl,rfl⟩)
  ·exact go [49,42] 1 rfl (.inr (.inl ⟨rfl,rfl⟩))
  ·exact go [50,42] 2 rfl (.inr (.inr (.inl ⟨rfl,rfl⟩)))
  ·exact go [51,42] 3 rfl (.inr (.inr (.inr ⟨rfl,rfl⟩)))
theorem slw1{ws:List (List Nat)}{K J:Int}{k:Nat} (hK:K=k) (hJ:J=k+1):cutL (ws.map fun w=>P.str (S w)) (some K) (some J)=if k<ws.length then[.str (S (nx ws k))]else[]:=by
 rw[zH0 _ (i:=k) (j:=k+1) hK ∅ ∅,←YW,←YV,show k+1-k=1 by omega]
 by_cases h:k<ws.length
 ·rw[Jm h,J6 h]
  have:=zEy h
  rw[Jf h]at this
  have:=Jd this
  simp[this]
 ·rw[Js h,JD ∅];rfl
theorem zMu{ws:List (List Nat)} (hw:∀w∈ws,okW w=true) (k:Nat):okW (nx ws k)=true:=by
 by_cases hk:k<ws.length
 ·exact hw _ (Jn (zEy hk))
 ·rw[zDT hk];rfl
theorem zOb{ws:List (List Nat)} (hw:∀w∈ws,okW w=true){K J:Int}{k:Nat} (hK:K=k) (hJ:J=k+1){w:List Nat} (hne:w≠[]) (ho:okW w=true) (st:List Cell) :
  vEqB false (.p (.lst (cutL (ws.map fun w=>P.str (S w)) (some K) (some J)))) (.p (.lst [.str (S w)])) st=.ok (.p (.bl (decide (nx ws k=w)))) st:=by
 rw[slw1 hK hJ];have o1:=okW.str (zMu hw k);have o2:=okW.str ho
 by_cases h:k<ws.length
 ·rw[Jm h,zDC (by simp[o1]) (by simp[o2])]
  simp[S_beq];rw[bj];simp
 ·rw[Js h,zDC (by simp) (by simp[o2]),zDT h]
  simp[hne.symm]
theorem zKZ{x:P}{l:List P} (hx:zD7 x=false) (okx:okP 63 x=true) (okl:∀y∈l,okP 63 y=true) (n:Bool) (st:List Cell):vInB n (.p x) (.p (.lst l)) st=.ok (.p (.bl (if n=true then !(l.any fun y=>pEq y x)else l.any fun y=>pEq y x))) st:=by
 have e:seqP st (.p (.lst l))=some l:=rfl;unfold vInB;simp only[e];rw[Js (by rw[hx];simp)]
 have oa:l.all (okP 63)=true:=Jp.mpr okl;have sh:okP 64 (.lst l)=true:=by rw[zIC (!0)];exact oa
 obtain⟨d,d1,d2⟩:=zC5 (Jq _) sh;obtain⟨dx,x1,x2⟩:=zC5 (!0) okx;have u1:unD st (.p (.lst l))=toD (.lst l):=rfl;have u2:unD st (.p x)=toD x:=rfl;rw[u1,x1];rw[toD]at d1 ⊢;split at d1
 ·rename_i ds eds
  cases d1
  have an:∀(l:List P) (ds:List PyData),toDs l=some ds→(ds.any fun z=>PyData.eqv z dx)=l.any fun y=>pEq y x:=by
   intro l
   induction l with
   |nil=>intro ds h;rw[toDs]at h;cases h;rfl
   |cons y l ih =>
    intro ds h;rw[toDs]at h;split at h
    ·rename_i d ds' e1 e2
     cases h;rw[Vp,Vp,ih _ e2,zHx e1 x1]
    ·cases h
  dsimp only;rw[Jm ⟨x2,d2⟩,an l ds eds]
 ·cases d1
theorem la_C{ws:List (List Nat)} (hw:∀w∈ws,okW w=true){k:Nat}{sg:Int}{x7 x8:Option W} (st:List Cell) :
  laR3 (laSg ws k sg x7 x8) st=if nx ws (k+1)=[43]then .ok .nx (laSg ws ((k+2:Nat):Int) 1 x7 x8) st else if nx ws (k+1)=[45]then .ok .nx (laSg ws ((k+2:Nat):Int) (-1) x7 x8) st else .ok .bk (laSg ws k sg x7 x8) st:=by
 have hs:=slw1 (ws:=ws) (K:=(k:Int)+1) (J:=(k:Int)+2) (k:=k+1) ∅ ∅;have o1:=okW.str (zMu hw (k+1))
 by_cases h:k+1<ws.length
 ·rw[Jm h]at hs;have e:L2.atI (ws.map fun w=>P.str (S w)) ((k:Int)+1)=some (.str (S (nx ws (k+1)))):=L2.atI_nat (j:=k+1) (by rw[Ji,zEy h];rfl)
  have vi:=fun st=>zKZ (x:=.lst [.str (S (nx ws (k+1)))]) (l:=[.lst [.str (S [43])],.lst [.str (S [45])]]) rfl (by simp[o1]) (by simp[show PyData.strOk (S [43])=true from by decide +kernel,show PyData.strOk (S [45])=true from by decide +kernel]) true st
  generalize nx ws (k+1)=u at *
  have k2:((k+2:Nat):Int)=(k:Int)+2:=by omega
  by_cases h1:u=[43]
  ·subst h1;simp[laR3,wsP,hs,vi,k_pl,k_mi,e,S_beq,k2]
  ·by_cases h2:u=[45]
   ·subst h2;simp[laR3,wsP,hs,vi,k_pl,k_mi,e,S_beq,S_eq,k2]
   ·simp[laR3,wsP,hs,vi,k_pl,k_mi,e,S_beq,S_eq,k2,h1,h2,Vl h1,Vl h2]
 ·rw[Js h]at hs;have vi:=fun st=>zKZ (x:=.lst []) (l:=[.lst [.str (S [43])],.lst [.str (S [45])]]) rfl (by simp) (by simp[show PyData.strOk (S [43])=true from by decide +kernel,show PyData.strOk (S [45])=true from by decide +kernel]) true st
  rw[zDT h,Js (by simp),Js (by simp)]
  simp[laR3,wsP,hs,vi,k_pl,k_mi]
def digL:List P:=[.str (S [48]),.str (S [49]),.str (S [50]),.str (S [51]),.str (S [52]),.str (S [53]),.str (S [54]),.str (S [55]),.str (S [56]),.str (S [57])]
def negL:List P:=[.str (S [45,48]),.str (S [45,49]),.str (S [45,50]),.str (S [45,51]),.str (S [45,52]),.str (S [45,53]),.str (S [45,54]),.str (S [45,55]),.str (S [45,56]),.str (S [45,57])]
theorem dig_lc(x0 x1 x2 x3 x4 x5 x6 x7 x8 x9 x10:Option W) (st:List Cell):mLc (zEs (mC (.int 10))) (.nm 9) [9] mYes (zAJ vStr %[(mVar 9)|0]) finP [x0,x1,x2,x3,x4,x5,x6,x7,x8,x9,x10] st=.ok (.p (.lst digL)) st:=by
 have e:∀n:Nat,n<10→Str.ofString (toString (n:Int))=S [48+n]:=by decide +kernel
 have lg:∀n:Nat,n<10→n.log2<1920:=by decide +kernel
 have v2:∀(n:Nat) (h:n<10) (st:List Cell),Y.vStr [.p (.int n)] st=.ok (.p (.str (S [48+n]))) st:=fun n h st=>by rw[zOq,Jm (show((n:Int).natAbs).log2<1920 from lg n h),e n h]
 have w0:∀st,Y.vStr [.p (.int 0)] st=_:=fun st=>v2 0 (!0) st
 have w1:∀st,Y.vStr [.p (.int 1)] st=_:=fun st=>v2 1 (!0) st
 have w2:∀st,Y.vStr [.p (.int 2)] st=_:=fun st=>v2 2 (!0) st
 have w3:∀st,Y.vStr [.p (.int 3)] st=_:=fun st=>v2 3 (!0) st
 have w4:∀st,Y.vStr [.p (.int 4)] st=_:=fun st=>v2 4 (!0) st
 have w5:∀st,Y.vStr [.p (.int 5)] st=_:=fun st=>v2 5 (!0) st
 have w6:∀st,Y.vStr [.p (.int 6)] st=_:=fun st=>v2 6 (!0) st
 have w7:∀st,Y.vStr [.p (.int 7)] st=_:=fun st=>v2 7 (!0) st
 have w8:∀st,Y.vStr [.p (.int 8)] st=_:=fun st=>v2 8 (!0) st
 have w9:∀st,Y.vStr [.p (.int 9)] st=_:=fun st=>v2 9 (!0) st
 have rg:rngL 0 10=[W.p (.int 0),.p (.int 1),.p (.int 2),.p (.int 3),.p (.int 4),.p (.int 5),.p (.int 6),.p (.int 7),.p (.int 8),.p (.int 9)]:=rfl;simp[rg,zBH,zCQ,digL,w0,w1,w2,w3,w4,w5,w6,w7,w8,w9]
theorem neg_lc(x0 x1 x2 x3 x4 x6 x7 x8 x9 x10:Option W) (st:List Cell):mLc (mSrc (mVar 5)) (.nm 10) [10] mYes (mBin vAdd (mC (.str "-")) (mVar 10)) finP [x0,x1,x2,x3,x4,some (.p (.lst digL)),x6,x7,x8,x9,x10] st=.ok (.p (.lst negL)) st:=by
 simp[zBH,zCQ,digL,negL,k_mi,S_len,S_cat]
theorem zLu(x:List Nat):inP (.str (S x)) digL=isDg x:=by
 rw[bj];unfold isDg digL;split
 ·rename_i d
  simp[inP,eqF,S_beq];omega
 ·rename_i h
  simp[inP,eqF,S_beq];refine⟨?_,?_,?_,?_,?_,?_,?_,?_,?_,?_⟩<;>exact fun z=>h _ z.symm
theorem zRP(x:List Nat):inP (.str (S x)) (digL++negL)=isDg (rmM x):=by
 have ap:inP (.str (S x)) (digL++negL)=(inP (.str (S x)) digL||inP (.str (S x)) negL):=by unfold inP;rw[List.any_append]
 rw[ap,zLu];cases x with
 |nil=>simp[isDg,rmM,negL,inP,eqF,S_beq]
 |cons h t =>
  by_cases hh:h=45
  ·subst hh;have e:rmM (45::t)=t:=by simp[rmM]
   rw[e];have f:isDg (45::t)=false:=by cases t<;>simp[isDg]
   rw[f,Bool.false_or,←zLu];simp[negL,digL,inP,eqF,S_beq]
  ·have e:rmM (h::t)=h::t:=by simp[rmM,hh]
   rw[e];have f:inP (.str (S (h::t))) negL=false:=by simp[negL,inP,eqF,S_beq,hh,Vl hh]
   rw[f,Bool.or_false]
theorem zMP(x:List Nat) (st:List Cell):vInB false (.p (.str (S x))) (.p (.lst digL)) st=.ok (.p (.bl (isDg x))) st:=by
 rw[zKa _ _ _ (!0),zLu];rfl
theorem zOR(x:List Nat) (st:List Cell):vInB true (.p (.str (S x))) (.p (.lst (digL++negL))) st=.ok (.p (.bl (!isDg (rmM x)))) st:=by
 rw[zKa _ _ _ (!0),zRP];rfl
theorem la_E2{ws:List (List Nat)}{k:Nat}{sg a b c:Int}{x7 x8:Option W} (x y:List Nat) (M:List P) (ly:y.length≤1000) :
  Gv (runR (laE2 [some (.p (wsP ws)),some (.p (.int k)),some (.r 0),some (.p (.int sg)),some (.p (.lst (.str (S x) :: .str (S y)::M))),some (.p (.lst digL)),none,x7,x8,none,none] (laSt a b c)))
   (match zBz x with
    |some n=>if isDg (rmM y)=true then .tup [.tup [.str n,T3 a b c,.int (wV y)],.int ((k+3:Nat):Int)]else .tup [.non,.int k]
    |none=>.tup [.non,.int k]):=by
 have nl:=fun x0 x1 x2 x3 x4 x6 x7 x8 x9 x10 st=>neg_lc x0 x1 x2 x3 x4 x6 x7 x8 x9 x10 st
 have vd:=fun st=>zOR y st
 have k3:((k+3:Nat):Int)=(k:Int)+3:=by omega
 have ll:digL.length+negL.length≤1000000:=by decide
 have l2:(2:Int)≤(M.length:Int)+1+1:=by omega
 have g1:hasK [Sum.inr (S [62,61]),Sum.inr (S [60,61]),Sum.inr (S [61])] (Sum.inr (S [62,61]))=true:=by decide +kernel
 have g2:hasK [Sum.inr (S [62,61]),Sum.inr (S [60,61]),Sum.inr (S [61])] (Sum.inr (S [60,61]))=true:=by decide +kernel
 have g3:hasK [Sum.inr (S [62,61]),Sum.inr (S [60,61]),Sum.inr (S [61])] (Sum.inr (S [61]))=true:=by decide +kernel
 have d1:dkGet [Sum.inr (S [62,61]),Sum.inr (S [60,61]),Sum.inr (S [61])] [P.str (Str.ofString "at least"),P.str (Str.ofString "at most"),P.str (Str.ofString "equal")] (Sum.inr (S [62,61]))=some (.str (Str.ofString "at least")):=by simp[dkGet,S_eq]
 have d2:dkGet [Sum.inr (S [62,61]),Sum.inr (S [60,61]),Sum.inr (S [61])] [P.str (Str.ofString "at least"),P.str (Str.ofString "at most"),P.str (Str.ofString "equal")] (Sum.inr (S [60,61]))=some (.str (Str.ofString "at most")):=by simp[dkGet,S_eq]
 have d3:dkGet [Sum.inr (S [62,61]),Sum.inr (S [60,61]),Sum.inr (S [61])] [P.str (Str.ofString "at least"),P.str (Str.ofString "at most"),P.str (Str.ofString "equal")] (Sum.inr (S [61]))=some (.str (Str.ofString "equal")):=by simp[dkGet,S_eq]
 unfold zBz
 by_cases h1:x=[62,61]
 ·rw[Jm h1];subst h1
  by_cases hg:isDg (rmM y)=true
  ·have iv:=fun st=>zD1 hg st
   simp[laE2,nl,-zCp,k_ge,k_le,zGV,vd,hg,iv,k3,S_beq,S_eq,l2,ll,g1,d1]
  ·simp[laE2,nl,-zCp,k_ge,k_le,zGV,vd,hg,S_beq,S_eq,l2,ll,g1]
 ·rw[Js h1]
  by_cases h2:x=[60,61]
  ·rw[Jm h2];subst h2
   by_cases hg:isDg (rmM y)=true
   ·have iv:=fun st=>zD1 hg st
    simp[laE2,nl,-zCp,k_ge,k_le,zGV,vd,hg,iv,k3,S_beq,S_eq,l2,ll,g2,d2]
   ·simp[laE2,nl,-zCp,k_ge,k_le,zGV,vd,hg,S_beq,S_eq,l2,ll,g2]
  ·rw[Js h2]
   by_cases h3:x=[61]
   ·rw[Jm h3];subst h3
    by_cases hg:isDg (rmM y)=true
    ·have iv:=fun st=>zD1 hg st
     simp[laE2,nl,-zCp,k_ge,k_le,zGV,vd,hg,iv,k3,S_beq,S_eq,l2,ll,g3,d3]
    ·simp[laE2,nl,-zCp,k_ge,k_le,zGV,vd,hg,S_beq,S_eq,l2,ll,g3]
   ·rw[Js h3]
    have g4:hasK [Sum.inr (S [62,61]),Sum.inr (S [60,61]),Sum.inr (S [61])] (Sum.inr (S x))=false:=by
     simp[hasK,S_eq,h1,h2,h3,Vl h1,Vl h2,Vl h3]
    simp[laE2,nl,-zCp,k_ge,k_le,zGV,vd,S_beq,S_eq,l2,ll,g4]
theorem la_E{ws:List (List Nat)} (hw:∀w∈ws,okW w=true){k:Nat}{sg a b c:Int}{x7 x8:Option W} :
  Gv (runR (zFy (laSg ws k sg x7 x8) (laSt a b c))) (.tup [(lEnd ws k (T3 a b c)).1,.int (((lEnd ws k (T3 a b c)).2:Nat):Int)]):=by
 have hcut:cutL (ws.map fun w=>P.str (S w)) (some ((k:Int)+1)) (some ((k:Int)+5))=((ws.drop (k+1)).take 4).map fun w=>P.str (S w):=by
  rw[zH0 _ (i:=k+1) (j:=k+5) ∅ ∅ ∅,←YW,←YV]
  congr 2
  omega
 have n1:=zJw ws (k+1);have hl:(ws.drop (k+1)).length=ws.length-(k+1):=Vz ..;have hd:∀w∈ws.drop (k+1),okW w=true:=fun w m=>hw w (Yu m)
 generalize ws.drop (k+1)=L at hcut n1 hl hd;have a1:=n1 0;have a2:=n1 1;have a3:=n1 2;have a4:=n1 3;rw[show k+1+0=k+1 by omega]at a1
 rw[show k+1+1=k+2 by omega]at a2
 rw[show k+1+2=k+3 by omega]at a3
 rw[show k+1+3=k+4 by omega]at a4
 unfold lEnd;rw[a1,a2,a3,a4];clear n1 a1 a2 a3 a4;have dl:=fun x0 x1 x2 x3 x4 x5 x6 x7 x8 x9 x10 st=>dig_lc x0 x1 x2 x3 x4 x5 x6 x7 x8 x9 x10 st
 cases L with
 |nil =>
  simp at hl hcut;have h0:¬k+5≤ws.length:=by omega
  rw[Js (fun z=>h0 z.2.1)]
  simp[zFy,laE1,laE2,wsP,hcut,dl,-zCp,zBz]
 |cons x r =>
  cases r with
  |nil =>
   simp at hl hcut;have h0:¬k+5≤ws.length:=by omega
   have h1:¬k+3≤ws.length:=by omega
   rw[Js (fun z=>h0 z.2.1)]
   have e:(match zBz ([x].getD 0 [])with
    |some n=>if k+3≤ws.length∧isDg (rmM ([x].getD 1 []))=true then(P.tup [P.str n,T3 a b c,P.int (wV ([x].getD 1 []))],k+3)else(P.non,k)
    |none=>(P.non,k))=(P.non,k):=by
    split
    ·rw[Js (fun z=>h1 z.1)]
    ·rfl
   rw[e];simp[zFy,laE1,laE2,wsP,hcut,dl,-zCp]
  |cons y r =>
   have hy:=okW.len (hd y (by simp))
   have h3:k+3≤ws.length:=by simp at hl;omega
   have fin:∀M:List P,∀z:P×Nat,(z=match zBz x with
     |some n=>if k+3≤ws.length∧isDg (rmM y)=true then(P.tup [P.str n,T3 a b c,P.int (wV y)],k+3)else(P.non,k)
     |none=>(P.non,k))→Gv (runR (laE2 [some (.p (.lst (ws.map fun w=>P.str (S w)))),some (.p (.int k)),some (.r 0),some (.p (.int sg)),some (.p (.lst (.str (S x) :: .str (S y)::M))),some (.p (.lst digL)),none,x7,x8,none,none] [Cell.lst [.p (.int a),.p (.int b),.p (.int c)]])) (.tup [z.1,.int ((z.2:Nat):Int)]):=by
    intro M z hz
    have:=la_E2 (ws:=ws) (k:=k) (sg:=sg) (a:=a) (b:=b) (c:=c) (x7:=x7) (x8:=x8) x y M hy
    rw[hz];split at this
    ·rename_i n e
     split at this
     ·rename_i hg
      rw[Jm ⟨h3,hg⟩];exact this
     ·rename_i hg
      rw[Js (fun z=>hg z.2)]
      exact this
    ·exact this
   have short:∀M:List P,M.length<2→cutL (ws.map fun w=>P.str (S w)) (some ((k:Int)+1)) (some ((k:Int)+5))=.str (S x) :: .str (S y)::M→¬k+5≤ws.length→∀z:P×Nat,(z=match zBz x with
     |some n=>if k+3≤ws.length∧isDg (rmM y)=true then(P.tup [P.str n,T3 a b c,P.int (wV y)],k+3)else(P.non,k)
     |none=>(P.non,k))→Gv (runR (zFy (laSg ws k sg x7 x8) (laSt a b c))) (.tup [z.1,.int ((z.2:Nat):Int)]):=by
    intro M hM hc h0 z hz;have n4:¬(M.length:Int)+1+1=4:=by omega
    simp[zFy,laE1,wsP,hc,dl,-zCp,n4];exact fin M z hz
   cases r with
   |nil =>
    have hcut:cutL (ws.map fun w=>P.str (S w)) (some ((k:Int)+1)) (some ((k:Int)+5))=[.str (S x),.str (S y)]:=hcut
    have h0:¬k+5≤ws.length:=by simp at hl;omega
    rw[Js (fun z=>h0 z.2.1)]
    exact short [] (by simp) hcut h0 _ rfl
   |cons z r =>
    cases r with
    |nil =>
     have hcut:cutL (ws.map fun w=>P.str (S w)) (some ((k:Int)+1)) (some ((k:Int)+5))=[.str (S x),.str (S y),.str (S z)]:=hcut
     have h0:¬k+5≤ws.length:=by simp at hl;omega
     rw[Js (fun z=>h0 z.2.1)]
     exact short [.str (S z)] (by simp) hcut h0 _ rfl
    |cons u r =>
     have hcut:cutL (ws.map fun w=>P.str (S w)) (some ((k:Int)+1)) (some ((k:Int)+5))=[.str (S x),.str (S y),.str (S z),.str (S u)]:=hcut
     have h5:k+5≤ws.length:=by simp at hl;omega
     have vdy:=fun st=>zMP y st
     have vdu:=fun st=>zMP u st
     show Gv _ (.tup [(if x=[109,111,100]∧k+5≤ws.length∧isDg y=true∧isDg u=true then _ else _:P×Nat).1,.int (((if x=[109,111,100]∧k+5≤ws.length∧isDg y=true∧isDg u=true then _ else _:P×Nat).2:Nat):Int)])
     by_cases hx:x=[109,111,100]
     ·have hmS:S x=Str.ofString "mod" := by rw[k_mo,hx]
      by_cases hgy:isDg y=true
      ·have iy:=fun st=>zD1 (w:=y) (by rw[zIe hgy];exact hgy) st
       by_cases hgu:isDg u=true
       ·have iu:=fun st=>zD1 (w:=u) (by rw[zIe hgu];exact hgu) st
        rw[Jm ⟨hx,h5,hgy,hgu⟩];show Gv _ (.tup [(if z=[61]then _ else _:P×Nat).1,.int (((if z=[61]then _ else _:P×Nat).2:Nat):Int)])
        by_cases hz:z=[61]
        ·have k5:((k+5:Nat):Int)=(k:Int)+5:=by omega
         rw[Jm hz];subst hz;simp[zFy,laE1,wsP,hcut,dl,-zCp,hmS,vdy,vdu,hgy,hgu,iy,iu,zGV,k5]
        ·rw[Js hz];simp[zFy,laE1,wsP,hcut,dl,-zCp,hmS,vdy,vdu,hgy,hgu,iy,iu,zGV,S_eq,hz]
       ·rw[Js (fun q=>hgu q.2.2.2)]
        simp[zFy,laE1,wsP,hcut,dl,-zCp,hmS,vdy,vdu,hgy,hgu];rw[←hmS];exact fin _ _ rfl
      ·rw[Js (fun q=>hgy q.2.2.1)]
       simp[zFy,laE1,wsP,hcut,dl,-zCp,hmS,vdy,vdu,hgy];rw[←hmS];exact fin _ _ rfl
     ·have hmS:¬S x=Str.ofString "mod" := by rw[k_mo,S_eq];exact hx
      rw[Js (fun q=>hx q.1)]
      simp[zFy,laE1,wsP,hcut,dl,-zCp,hmS];exact fin _ _ rfl
theorem zMp{ws:List (List Nat)} (hw:∀w∈ws,okW w=true):∀(m n k:Nat) (sg a b c:Int) (r:P×Nat) (x7 x8:Option W),m≤n→(sg=1∨sg = -1)→lAtm ws m k sg a b c=some r →
  Gv (runR ((zBh (mTru (mC (.bl true))) zGj n (laSg ws k sg x7 x8) (laSt a b c)).then zFy)) (.tup [r.1,.int ((r.2:Nat):Int)]):=by
 intro m
 induction m with
 |zero=>intro n k sg a b c r x7 x8 _ _ h;cases h
 |succ m ih =>
  intro n k sg a b c r x7 x8 hn hsg h;obtain⟨n,rfl⟩:∃j,n=j+1:=⟨n-1,∅⟩;have lk:=okW.len (zMu hw k);rw[lAtm]at h;have hA:=la_A (ws:=ws) (k:=k) (sg:=sg) (a:=a) (b:=b) (c:=c) (x7:=x7) (x8:=x8) lk;unfold zOJ at h;generalize hz:(decide (a=0∧b=0∧c=0)&&(nx ws k).head?==some 45)=z at h hA
  have hA:zGj (laSg ws k sg x7 x8) (laSt a b c)=laR1 (laSg ws k (if z=true then -1 else sg) (some (.p (.str (S (if z=true then(nx ws k).drop 1 else nx ws k))))) x8) (laSt a b c):=by
   rw[hA];cases z<;>rfl
  have hs:(if z=true then(-1:Int)else sg)=1∨(if z=true then(-1:Int)else sg) = -1:=by
   cases z
   ·exact hsg
   ·exact .inr rfl
  have lv:(if z=true then(nx ws k).drop 1 else nx ws k).length≤1000:=by
   cases z
   ·exact lk
   ·show((nx ws k).drop 1).length≤1000;rw[Vz];omega
  dsimp only at h;generalize (if z=true then(nx ws k).drop 1 else nx ws k)=v at h hA lv
  have hB:=la_B (ws:=ws) (k:=(k:Int)) (a:=a) (b:=b) (c:=c) (x8:=x8) lv hs;rw[←hA]at hB;cases hl:lW v with
  |none =>
   rw[hl]at h hB;dsimp only at h hB;cases h;rw[zJ5 (zER _ _) hB];simp
  |some p =>
   obtain⟨l,d⟩:=p;rw[hl]at h hB;dsimp only at h hB;generalize (if z=true then(-1:Int)else sg)=s at h hB
   rw[la_C hw]at hB;generalize (if l=0 then a+s*d else a)=a' at h hB
   generalize (if l=1 then b+s*d else b)=b' at h hB
   generalize (if l=2 then c+s*d else c)=c' at h hB
   by_cases h1:nx ws (k+1)=[43]
   ·rw[Jm h1]at h hB;rw[zFQ (zER _ _) hB];exact ih n (k+2) 1 a' b' c' r _ _ ∅ (.inl rfl) h
   ·rw[Js h1]at h hB
    by_cases h2:nx ws (k+1)=[45]
    ·rw[Jm h2]at h hB;rw[zFQ (zER _ _) hB];exact ih n (k+2) (-1) a' b' c' r _ _ ∅ (.inr rfl) h
    ·rw[Js h2]at h hB;rw[zKY (zER _ _) hB];cases h;exact la_E hw
theorem zOk{ws:List (List Nat)} (hw:∀w∈ws,okW w=true){k:Nat}{r:P}{j:Nat} (h:zMD ws k=some (r,j)) (st:List Cell):zAP zB7 [.p (wsP ws),.p (.int k)] st=.ok (.p (.tup [r,.int j])) st:=by
 refine Pu.call2 (Pu.of2 ?_) st
 have:=zMp hw 1000 1000 k 1 0 0 0 (r,j) none none (Jq _) (.inl rfl) h
 rw[zO8];simpa[zAG,laSg,laSt]using this
def zBo(Fpr:FM):FM:=runF 3 5 (sSeq (sPut (.tp [(.nm 3),(.nm 1)]) (zAH Fpr %[(mVar 0),(mVar 1),(mVar 2)|0]))
  (sSeq (sSet 4 (zCs %[(mVar 3)|0]))
  (sSeq (zDa 1000 (mTst (mBin (vEqB false) (mSl (mVar 0) (zA0 (mVar 1)) (zA0 (mBin vAdd (mVar 1) (mC (.int 1))))) (mLst %[(mC (.str "and"))|0]))) (sSeq (sPut (.tp [(.nm 3),(.nm 1)]) (zAH Fpr %[(mVar 0),(mBin vAdd (mVar 1) (mC (.int 1))),(mVar 2)|0]))
  (zEG (mBm "list" zBm (mVar 4) %[(mVar 3)|0]))))
  (sSeq (sIf (mTst (mBin (vInB false) (mC .non) (mVar 4))) (sRet (mTup %[(mC .non),(mVar 1)|0])) sNx)
  (sRet (mTup %[(mIfE (mTst (mBin (vEqB false) (zAJ vLen %[(mVar 4)|0]) (mC (.int 1)))) (mBin vIx (mVar 4) (mC (.int 0))) (zAJ zCI %[(mBin vAdd (mLst %[(mC (.str "and"))|0]) (mVar 4))|0])),(mVar 1)|0]))))))
def zAn(Fpr:FM):FM:=runF 3 5 (sSeq (sPut (.tp [(.nm 3),(.nm 1)]) (zAH (zBo Fpr) %[(mVar 0),(mVar 1),(mVar 2)|0]))
  (sSeq (sSet 4 (zCs %[(mVar 3)|0]))
  (sSeq (zDa 1000 (mTst (mBin (vEqB false) (mSl (mVar 0) (zA0 (mVar 1)) (zA0 (mBin vAdd (mVar 1) (mC (.int 1))))) (mLst %[(mC (.str "or"))|0]))) (sSeq (sPut (.tp [(.nm 3),(.nm 1)]) (zAH (zBo Fpr) %[(mVar 0),(mBin vAdd (mVar 1) (mC (.int 1))),(mVar 2)|0]))
  (zEG (mBm "list" zBm (mVar 4) %[(mVar 3)|0]))))
  (sSeq (sIf (mTst (mBin (vInB false) (mC .non) (mVar 4))) (sRet (mTup %[(mC .non),(mVar 1)|0])) sNx)
  (sRet (mTup %[(mIfE (mTst (mBin (vEqB false) (zAJ vLen %[(mVar 4)|0]) (mC (.int 1)))) (mBin vIx (mVar 4) (mC (.int 0))) (zAJ zCI %[(mBin vAdd (mLst %[(mC (.str "or"))|0]) (mVar 4))|0])),(mVar 1)|0]))))))
def zAO:Nat→FM
 |0=>fun _ _=>.no
 |n+1=>runF 3 4 (sSeq (sIf (mTst (mBin vGt (mVar 2) (mC (.int 9)))) (sRet (mTup %[(mC .non),(mVar 1)|0])) sNx)
  (sSeq (sIf (mTst (mBin (vEqB false) (mSl (mVar 0) (zA0 (mVar 1)) (zA0 (mBin vAdd (mVar 1) (mC (.int 1))))) (mLst %[(mC (.str "not"))|0]))) (sSeq (sPut (.tp [(.nm 3),(.nm 1)]) (zAH (zAO n) %[(mVar 0),(mBin vAdd (mVar 1) (mC (.int 1))),(mBin vAdd (mVar 2) (mC (.int 1)))|0]))
  (sRet (mTup %[(mIfE (mTst (mBin (vIsN false) (mVar 3) (mC .non))) (mC .non) (mTup %[(mC (.str "not")),(mVar 3)|0])),(mVar 1)|0]))) sNx)
  (sSeq (sIf (mTst (mBin (vEqB false) (mSl (mVar 0) (zA0 (mVar 1)) (zA0 (mBin vAdd (mVar 1) (mC (.int 1))))) (mLst %[(mC (.str "("))|0]))) (sSeq (sPut (.tp [(.nm 3),(.nm 1)]) (zAH (zAn (zAO n)) %[(mVar 0),(mBin vAdd (mVar 1) (mC (.int 1))),(mBin vAdd (mVar 2) (mC (.int 1)))|0]))
  (sRet (mTup %[(mIfE (mTst (mBin (vEqB false) (mSl (mVar 0) (zA0 (mVar 1)) (zA0 (mBin vAdd (mVar 1) (mC (.int 1))))) (mLst %[(mC (.str ")"))|0]))) (mVar 3) (mC .non)),(mBin vAdd (mVar 1) (mC (.int 1)))|0]))) sNx)
  (sRet (zAH zB7 %[(mVar 0),(mVar 1)|0])))))
def lmC(W:Str):TM:=mTst (mBin (vEqB false) (mSl (mVar 0) (zA0 (mVar 1)) (zA0 (mBin vAdd (mVar 1) (mC (.int 1))))) (mLst %[(mC (.str W))|0]))
def lmB(G:FM):SMm:=sSeq (sPut (.tp [(.nm 3),(.nm 1)]) (zAH G %[(mVar 0),(mBin vAdd (mVar 1) (mC (.int 1))),(mVar 2)|0])) (zEG (mBm "list" zBm (mVar 4) %[(mVar 3)|0]))
def lmE(W:Str):SMm:=sSeq (sIf (mTst (mBin (vInB false) (mC .non) (mVar 4))) (sRet (mTup %[(mC .non),(mVar 1)|0])) sNx)
  (sRet (mTup %[(mIfE (mTst (mBin (vEqB false) (zAJ vLen %[(mVar 4)|0]) (mC (.int 1)))) (mBin vIx (mVar 4) (mC (.int 0))) (zAJ zCI %[(mBin vAdd (mLst %[(mC (.str W))|0]) (mVar 4))|0])),(mVar 1)|0]))
def lmF(G:FM) (W:Str):FM:=runF 3 5 (sSeq (sPut (.tp [(.nm 3),(.nm 1)]) (zAH G %[(mVar 0),(mVar 1),(mVar 2)|0])) (sSeq (sSet 4 (zCs %[(mVar 3)|0])) (sSeq (zDa 1000 (lmC W) (lmB G)) (lmE W))))
theorem zRw(G:FM):zBo G=lmF G (Str.ofString "and"):=rfl
theorem zRe(G:FM):zAn G=lmF (zBo G) (Str.ofString "or"):=rfl
def LdF(G:FM) (ws:List (List Nat)) (d:Int) (F:Nat→Option (P×Nat)):Prop:=∀(k:Nat) (r:P) (j:Nat),F k=some (r,j)→∀st,zAP G [.p (wsP ws),.p (.int k),.p (.int d)] st=.ok (.p (.tup [r,.int j])) st
abbrev lSg(ws:List (List Nat)) (k:Nat) (d:Int) (t:P):Sg:=[some (.p (wsP ws)),some (.p (.int k)),some (.p (.int d)),some (.p t),some (.r 0)]
theorem lm_C{ws:List (List Nat)} (hw:∀w∈ws,okW w=true){k:Nat}{d:Int}{t:P}{w:List Nat} (hne:w≠[]) (ho:okW w=true) (st:List Cell):lmC (S w) (lSg ws k d t) st=.ok (decide (nx ws k=w)) st:=by
 have e:=fun st=>zOb hw (K:=(k:Int)) (J:=(k:Int)+1) (k:=k) rfl rfl hne ho st
 simp[lmC,wsP,e]
theorem lm_B{G:FM}{ws:List (List Nat)}{d:Int}{F:Nat→Option (P×Nat)} (hG:LdF G ws d F){k:Nat}{t:P}{M:List W}{r:P}{j:Nat} (hF:F (k+1)=some (r,j)) (hM:M.length<1000):lmB G (lSg ws k d t) [Cell.lst M]=.ok .nx (lSg ws j d r) [Cell.lst (M++[.p r])]:=by
 have e:∀st,zAP G [.p (wsP ws),.p (.int ((k:Int)+1)),.p (.int d)] st=.ok (.p (.tup [r,.int j])) st:=hG (k+1) r j hF;simp[lmB,e,show M.length<1000000 by omega]
theorem lm_E{ws:List (List Nat)}{k:Nat}{d:Int}{t:P}{w:List Nat}{l:List P} (ne:l≠[]) (hl:l.length≤1000) (ok:∀x∈l,okP 63 x=true):Gv (runR (lmE (S w) (lSg ws k d t) [Cell.lst (l.map W.p)])) (.tup [rJoin w l,.int k]):=by
 have ni:=zM0 (l:=l) (j:=0) (st:=[Cell.lst (l.map W.p)]) rfl ok
 by_cases h1:l.length=1
 ·match l,h1 with
  |[x],_ =>
   by_cases hn:zDN [x]=true
   ·rw[Jk,Vs,hn]at ni;simp[lmE,ni,hn,rJoin]
   ·have hn':zDN [x]=false:=by simpa using hn
    rw[Jk,Vs,hn']at ni;simp[lmE,ni,hn,rJoin]
 ·have m1:(l.map W.p).length=l.length:=Jb ..;have m3:=zBI l;have h1':¬(l.length:Int)=1:=by omega
  generalize l.map W.p=m at ni m1 m3 ⊢
  by_cases hn:zDN l=true
  ·simp[lmE,ni,hn,rJoin]
  ·have va:vAdd (.p (.lst [.str (S w)])) (.r 0) [Cell.lst m]=.ok (.p (.lst (.str (S w)::l))) [Cell.lst m]:=by
    unfold vAdd unC;simp[m3];omega
   simp[lmE,ni,hn,rJoin,h1,h1',m1,m3,va]
   try omega
theorem zQc{G:FM}{ws:List (List Nat)} (hw:∀w∈ws,okW w=true){d:Int}{F:Nat→Option (P×Nat)} (hG:LdF G ws d F){w:List Nat} (hne:w≠[]) (ho:okW w=true):∀(m n j:Nat) (t:P) (acc l:List P) (e:Nat) (M:List W),m<n→acc≠[]→(∀x∈acc,okP 63 x=true)→M=acc.map W.p→acc.length+m≤1000 →
  (if nx ws j=w then zDD F w ws m (j+1)else some ([],j))=some (l,e) →
  Gv (runR ((zBh (lmC (S w)) (lmB G) n (lSg ws j d t) [Cell.lst M]).then (lmE (S w)))) (.tup [rJoin w (acc++l),.int e]):=by
 intro m
 induction m with
 |zero =>
  intro n j t acc l e M hn ne ok hM hl h;obtain⟨n,rfl⟩:∃i,n=i+1:=⟨n-1,∅⟩
  by_cases hj:nx ws j=w
  ·rw[Jm hj]at h;cases h
  ·rw[Js hj]at h;cases h;rw[zHl (by rw[lm_C hw hne ho,JS hj])]
   subst hM;rw[JK];exact lm_E ne ∅ ok
 |succ m ih =>
  intro n j t acc l e M hn ne ok hM hl h;obtain⟨n,rfl⟩:∃i,n=i+1:=⟨n-1,∅⟩
  by_cases hj:nx ws j=w
  ·rw[Jm hj,zDD]at h;split at h
   ·cases h
   ·rename_i r j2 hF
    split at h
    ·rename_i okr
     have hb:=lm_B (t:=t) (M:=M) hG hF (by rw[hM,Jb];omega)
     rw[zFQ (by rw[lm_C hw hne ho,JO hj]) hb]
     have ok2:∀x∈acc++[r],okP 63 x=true:=fun x mx=>by
      rcases JC.mp mx with q|q
      ·exact ok x q
      ·have:x=r:=by simpa using q
       rw[this];exact okr
     have go:=fun(l2:List P) (e2:Nat) (h2:(if nx ws j2=w then zDD F w ws m (j2+1)else some ([],j2))=some (l2,e2)) =>
      ih n j2 r (acc++[r]) l2 e2 (M++[.p r]) ∅ (by simp) ok2 (by rw[hM];simp) (by simp;omega) h2
     by_cases hw2:nx ws j2=w
     ·rw[Jm hw2]at h;split at h
      ·rename_i l2 e2 h2
       cases h
       have:=go l2 e (by rw[Jm hw2];exact h2)
       simpa using this
      ·cases h
     ·rw[Js hw2]at h;cases h
      have:=go [] _ (by rw[Js hw2])
      simpa using this
    ·cases h
  ·rw[Js hj]at h;cases h;rw[zHl (by rw[lm_C hw hne ho,JS hj])]
   subst hM;rw[JK];exact lm_E ne ∅ ok
theorem lm_rd{G:FM}{ws:List (List Nat)} (hw:∀w∈ws,okW w=true){d:Int}{F:Nat→Option (P×Nat)} (hG:LdF G ws d F){w:List Nat} (hne:w≠[]) (ho:okW w=true){W0:Str} (hW:W0=S w):LdF (lmF G W0) ws d (zCT F w ws):=by
 intro k r j h st;unfold zCT at h;rw[zDD]at h;cases hF:F k with
 |none=>rw[hF]at h;cases h
 |some q =>
  obtain⟨r0,j0⟩:=q;rw[hF]at h;dsimp only at h
  by_cases okr:okP 63 r0=true
  ·rw[Jm okr]at h;have e0:=hG k r0 j0 hF
   have go:=fun(l:List P) (e:Nat) (h2:(if nx ws j0=w then zDD F w ws 899 (j0+1)else some ([],j0))=some (l,e)) =>
    zQc hw hG hne ho 899 1000 j0 r0 [r0] l e [.p r0] (!0) (by simp) (by simpa using okr) rfl (by simp) h2
   have fin:∀(l:List P) (e:Nat),(if nx ws j0=w then zDD F w ws 899 (j0+1)else some ([],j0))=some (l,e)→zAP (lmF G W0) [.p (wsP ws),.p (.int k),.p (.int d)] st=.ok (.p (.tup [rJoin w (r0::l),.int e])) st:=fun l e h2=>by
    refine Pu.call3 (Pu.of3 ?_) st
    have:=go l e h2
    subst hW;simpa[lmF,zAG,e0]using this
   by_cases hj:nx ws j0=w
   ·rw[Jm hj]at h;split at h
    ·rename_i l e h2
     cases h;split at h2
     ·rename_i l2 e2 h3
      cases h2;exact fin l2 _ (by rw[Jm hj];exact h3)
     ·cases h2
    ·cases h
   ·rw[Js hj]at h;cases h;exact fin [] _ (by rw[Js hj])
  ·rw[Js okr]at h;cases h
def zDR(ws:List (List Nat)):Nat→Nat→Option (P×Nat)
 |0,k=>some (.non,k)
 |n+1,k=>if nx ws k=[110,111,116]then(match zDR ws n (k+1)with
   |some (r,j)=>some (if isNon r=true then .non else .tup [.str (Str.ofString "not"),r],j)
   |none=>none)
  else if nx ws k=[40]then(match zCT (zCT (zDR ws n) [97,110,100] ws) [111,114] ws (k+1)with
   |some (r,j)=>some (if nx ws j=[41]then r else .non,j+1)
   |none=>none)
  else zMD ws k
def lAny(ws:List (List Nat)) (n:Nat):Nat→Option (P×Nat):=zCT (zCT (zDR ws n) [97,110,100] ws) [111,114] ws
theorem zMX{ws:List (List Nat)} (hw:∀w∈ws,okW w=true){G:FM}{d:Int}{n:Nat} (h:LdF G ws d (zDR ws n)):LdF (zAn G) ws d (lAny ws n):=by
 rw[zRe,zRw];exact lm_rd hw (lm_rd hw h (!0) ⋯ zI8) (!0) ⋯ k_or
theorem zOB{ws:List (List Nat)} (hw:∀w∈ws,okW w=true):∀(n N:Nat) (d:Int),n<N→d+n=10→LdF (zAO N) ws d (zDR ws n):=by
 intro n
 induction n with
 |zero =>
  intro N d hN hd k r j h st;obtain⟨N,rfl⟩:∃i,N=i+1:=⟨N-1,∅⟩;cases h;have h9:(9:Int)<d:=by omega
  refine Pu.call3 (Pu.of3 ?_) st;simp[zAO,zAG,h9]
 |succ n ih =>
  intro N d hN hd k r j h st;obtain⟨N,rfl⟩:∃i,N=i+1:=⟨N-1,∅⟩;have h9:¬(9:Int)<d:=by omega
  have ihp:=ih N (d+1) ∅ ∅;have q1:=fun(k:Nat) st=>zOb hw (K:=(k:Int)) (J:=(k:Int)+1) (k:=k) rfl rfl (w:=[110,111,116]) (!0) ⋯ st
  have q2:=fun(k:Nat) st=>zOb hw (K:=(k:Int)) (J:=(k:Int)+1) (k:=k) rfl rfl (w:=[40]) (!0) ⋯ st
  have q3:=fun(k:Nat) st=>zOb hw (K:=(k:Int)) (J:=(k:Int)+1) (k:=k) rfl rfl (w:=[41]) (!0) ⋯ st
  refine Pu.call3 (Pu.of3 ?_) st;rw[zDR]at h
  by_cases h1:nx ws k=[110,111,116]
  ·rw[Jm h1]at h;split at h
   ·rename_i r2 j2 h2
    cases h;have e:∀st,zAP (zAO N) [.p (wsP ws),.p (.int ((k:Int)+1)),.p (.int (d+1))] st=.ok (.p (.tup [r2,.int (j:Int)])) st:=ihp (k+1) r2 j h2;have inn:=fun st=>zKb r2 st
    unfold wsP at e ⊢
    by_cases hn:isNon r2=true
    ·simp[zAO,zAG,h9,q1,h1,k_nt,e,inn,hn]
    ·simp[zAO,zAG,h9,q1,h1,k_nt,e,inn,hn]
   ·cases h
  ·rw[Js h1]at h
   by_cases h3:nx ws k=[40]
   ·rw[Jm h3]at h;split at h
    ·rename_i r2 j2 h2
     cases h;have e:∀st,zAP (zAn (zAO N)) [.p (wsP ws),.p (.int ((k:Int)+1)),.p (.int (d+1))] st=.ok (.p (.tup [r2,.int (j2:Int)])) st:=zMX hw ihp (k+1) r2 j2 h2;have jj:((j2+1:Nat):Int)=(j2:Int)+1:=by omega
     unfold wsP at e ⊢
     by_cases h4:nx ws j2=[41]
     ·simp[zAO,zAG,h9,q1,q2,q3,h3,h4,k_nt,k_op,k_cl,e,jj]
     ·simp[zAO,zAG,h9,q1,q2,q3,h3,h4,k_nt,k_op,k_cl,e,jj]
    ·cases h
   ·rw[Js h3]at h;have e:=fun st=>zOk hw h st
    unfold wsP at e ⊢;simp[zAO,zAG,h9,q1,q2,h1,h3,k_nt,k_op,e]
theorem zQi(ws:List (List Nat)) (k:Nat) (a b c:Int):Rg ws k (some (lEnd ws k (T3 a b c))):=by
 unfold lEnd;split
 ·split
  ·exact .one ∅ (.rst a b c _ _)
  ·exact .none ∅
 ·split
  ·rename_i n h
   split
   ·exact .one ∅ (.atm a b c _ (zHq h))
   ·exact .none ∅
  ·exact .none ∅
theorem zI5{ws:List (List Nat)}:∀(m k:Nat) (sg a b c:Int),ws.length+1≤k+2*m→1≤m→Rg ws k (lAtm ws m k sg a b c)
 |0,_,_,_,_,_,_,h=>by omega
 |m+1,k,sg,a,b,c,h,_=>by
  rw[lAtm];split
  ·exact .none ∅
  ·rename_i mi l d e
   dsimp only;split
   ·rename_i h1
    have:=zNc h1 (by simp)
    exact(zI5 m (k+2) _ _ _ _ ∅ ∅).back ∅
   ·split
    ·rename_i h1
     have:=zNc h1 (by simp)
     exact(zI5 m (k+2) _ _ _ _ ∅ ∅).back ∅
    ·exact zQi ws k _ _ _
theorem zHg{ws:List (List Nat)} (hl:ws.length≤800) (hmu:mu ws 0≤60):∀(n k:Nat),Rg ws k (zDR ws n k)
 |0,k=>.none (Jq _)
 |n+1,k=>by
  rw[zDR]
  by_cases h1:nx ws k=[110,111,116]
  ·rw[Jm h1];have m1:=zQU h1 (!0);obtain⟨r,j,e,hj,n2,hr,hn⟩:=zHg hl hmu n (k+1);rw[e];dsimp only
   by_cases hnn:isNon r=true
   ·rw[Jm hnn];exact .none ∅
   ·rw[Js hnn];exact⟨_,_,rfl,∅,n2+1,.not hr,by unfold mu at *;omega⟩
  ·rw[Js h1]
   by_cases h2:nx ws k=[40]
   ·rw[Jm h2];have hF:∀k',k+1≤k'→Rg ws k' (zDR ws n k'):=fun k' _=>zHg hl hmu n k'
    have m0:mu ws (k+1)≤60:=Jt (zBy ws ∅) hmu;obtain⟨r,j,e,hj,n2,hr,hn⟩:=zDO false (zDO true hF m0 hl) m0 hl (k+1) (Jq _);have e:zCT (zCT (zDR ws n) [97,110,100] ws) [111,114] ws (k+1)=some (r,j):=e;rw[e];have a1:=zBy (f:=isOp) ws (show k≤k+1 by omega)
    have a2:=zBy (f:=isOp) ws (show j≤j+1 by omega)
    dsimp only;split
    ·exact⟨_,_,rfl,∅,n2,hr,by unfold mu at *;omega⟩
    ·exact .none ∅
   ·rw[Js h2];exact zI5 _ _ _ _ _ _ ∅ (!0)
def RdN(n:Nat) (x:Option (P×Nat)):Prop:=∀r j,x=some (r,j)→RdP n r
theorem zQb(ws:List (List Nat)) (k n:Nat) (a b c:Int):RdP (n+1) (lEnd ws k (T3 a b c)).1:=by
 unfold lEnd;split
 ·split
  ·exact .rst a b c _ _
  ·exact .non
 ·split
  ·rename_i n h
   split
   ·exact .atm a b c _ (zHq h)
   ·exact .non
  ·exact .non
theorem zJd{ws:List (List Nat)}{n:Nat}:∀(m k:Nat) (sg a b c:Int),RdN (n+1) (lAtm ws m k sg a b c)
 |0,_,_,_,_,_=>fun r j h=>by cases h
 |m+1,k,sg,a,b,c=>by
  rw[lAtm];split
  ·intro r j h;cases h;exact .non
  ·dsimp only;split
   ·exact zJd m (k+2) _ _ _ _
   ·split
    ·exact zJd m (k+2) _ _ _ _
    ·intro r j h;have e:=congrArg Prod.fst (Jd h);have e:_=r:=e;rw[←e];exact zQb ws k n _ _ _
theorem zKg{ws:List (List Nat)}{F:Nat→Option (P×Nat)}{w:List Nat}{n:Nat} (hF:∀k,RdN n (F k)):∀(m k:Nat) (l:List P) (e:Nat),zDD F w ws m k=some (l,e)→l.length≤m∧∀x∈l,RdP n x
 |0,_,_,_,h=>by cases h
 |m+1,k,l,e,h=>by
  rw[zDD]at h;cases hk:F k with
  |none=>rw[hk]at h;cases h
  |some q =>
   obtain⟨r,j⟩:=q;have hr:=hF k r j hk;rw[hk]at h;dsimp only at h;split at h
   ·split at h
    ·split at h
     ·rename_i l2 e2 h2
      cases h;obtain⟨g1,g2⟩:=zKg hF m (j+1) l2 e h2;refine⟨by simp;omega,fun x mx=>?_⟩
      rcases Jr.mp mx with rfl|mx
      ·exact hr
      ·exact g2 x mx
     ·cases h
    ·cases h;refine⟨by simp,fun x mx=>?_⟩
     have:x=r:=by simpa using mx
     rw[this];exact hr
   ·cases h
theorem zGB{ws:List (List Nat)}{F:Nat→Option (P×Nat)} (b:Bool){n:Nat} (hF:∀k,RdN n (F k)):∀k,RdN (n+1) (zCT F (opN b) ws k):=by
 intro k r j h;unfold zCT at h;cases hl:zDD F (opN b) ws 900 k with
 |none=>rw[hl]at h;cases h
 |some q =>
  obtain⟨l,e⟩:=q;obtain⟨g1,g2⟩:=zKg hF 900 k l e hl;rw[hl]at h;cases h;unfold rJoin;split
  ·exact .non
  ·split
   ·rename_i h1
    match l,h1 with
    |[x],_=>exact(g2 x (by simp)).mono ∅
   ·refine .op ?_ g1 g2;cases b
    ·exact .inr (by rw[show opN false=[111,114]from rfl,←k_or])
    ·exact .inl (by rw[show opN true=[97,110,100]from rfl,←zI8])
theorem zHn{ws:List (List Nat)}:∀(n k:Nat),RdN (2*n+1) (zDR ws n k)
 |0,k=>fun r j h=>by cases h;exact .non
 |n+1,k=>by
  intro r j h;rw[zDR]at h;split at h
  ·split at h
   ·rename_i r2 j2 h2
    have:=zHn n (k+1) r2 j2 h2
    cases h;split
    ·exact .non
    ·exact(RdP.not this).mono ∅
   ·cases h
  ·split at h
   ·split at h
    ·rename_i r2 j2 h2
     have:=zGB (ws:=ws) false (zGB (ws:=ws) true (fun k=>zHn (ws:=ws) n k)) (k+1) r2 j2 h2
     cases h;split
     ·exact this.mono ∅
     ·exact .non
    ·cases h
   ·exact zJd (n:=2*(n+1)) _ _ _ _ _ _ r j h
theorem zPF{ws:List (List Nat)} (hw:∀w∈ws,okW w=true) (hl:ws.length≤800) (hmu:mu ws 0≤60):∃r j,lAny ws 10 0=some (r,j)∧RdP 23 r∧∀st,zAP (zAn (zAO 12)) [.p (wsP ws),.p (.int 0),.p (.int 0)] st=.ok (.p (.tup [r,.int ((j:Nat):Int)])) st:=by
 have hF:∀k',0≤k'→Rg ws k' (zDR ws 10 k'):=fun k' _=>zHg hl hmu 10 k'
 obtain⟨r,j,e,_,_⟩:=zDO false (zDO true hF hmu hl) hmu hl 0 (Jq _);have e:lAny ws 10 0=some (r,j):=e;refine⟨r,j,e,?_,fun st=>zMX hw (zOB hw 10 12 0 (!0) (!0)) 0 r j e st⟩
 exact zGB (ws:=ws) false (zGB (ws:=ws) true (fun k=>zHn (ws:=ws) 10 k)) 0 r j e
def zK1:Nat→List (List Nat)→Int→Int→Int→Int→Option (Int×Int×Int)
 |0,_,_,_,_,_=>none
 |_+1,[],_,_,_,_=>none
 |n+1,w::rest,sg,a,b,c=>match zOJ (decide (a=0∧b=0∧c=0)) w with
  |none=>none
  |some (m,l,d) =>
   let s:=if m=true then -1 else sg
   let a':=if l=0 then a+s*d else a
   let b':=if l=1 then b+s*d else b
   let c':=if l=2 then c+s*d else c
   match rest with
   |[]=>some (a',b',c')
   |q::r=>if q=[43]then zK1 n r 1 a' b' c' else if q=[45]then zK1 n r (-1) a' b' c' else none
theorem zKR{ws:List (List Nat)}:∀(m:Nat) (l:List (List Nat)) (k:Nat) (sg a b c x y z:Int) (m2:Nat),m≤m2→zK1 m l sg a b c=some (x,y,z)→HasW ws k l→nx ws (k+l.length)≠[43]→nx ws (k+l.length)≠[45]→lAtm ws m2 k sg a b c=some (lEnd ws (k+l.length-1) (T3 x y z)):=by
 intro m
 induction m with
 |zero=>intro l k sg a b c x y z m2 _ h;cases l<;>cases h
 |succ m ih =>
  intro l k sg a b c x y z m2 hm h hh h1 h2;obtain⟨m2,rfl⟩:∃i,m2=i+1:=⟨m2-1,∅⟩;cases l with
  |nil=>cases h
  |cons w rest =>
   obtain⟨e1,e2,e3⟩:=hh.cons;rw[zK1]at h;rw[lAtm,e1];cases ht:zOJ (decide (a=0∧b=0∧c=0)) w with
   |none=>rw[ht]at h;cases h
   |some q =>
    obtain⟨mi,p,d⟩:=q;rw[ht]at h;dsimp only at h ⊢;cases rest with
    |nil =>
     dsimp only at h;have h1:nx ws (k+1)≠[43]:=h1;have h2:nx ws (k+1)≠[45]:=h2;rw[Js h1,Js h2];cases h;rfl
    |cons q r =>
     dsimp only at h;obtain⟨f1,f2,f3⟩:=e3.cons;have el:k+(w::q::r).length=k+2+r.length:=by simp;omega
     rw[el]at h1 h2 ⊢;rw[f1]
     by_cases c1:q=[43]
     ·rw[Jm c1]at h ⊢;exact ih r (k+2) 1 _ _ _ x y z m2 ∅ h f3 h1 h2
     ·rw[Js c1]at h ⊢
      by_cases c2:q=[45]
      ·rw[Jm c2]at h ⊢;exact ih r (k+2) (-1) _ _ _ x y z m2 ∅ h f3 h1 h2
      ·rw[Js c2]at h;cases h
theorem zLi:∀a∈i7,∀b∈i7,∀c∈i7,a=0∧b=0∧c=0∨zK1 4 (sumW a b c) 1 0 0 0=some (a,b,c):=by decide +kernel
theorem zII{a b c:Int} (h:F3 a b c):zK1 4 (sumW a b c) 1 0 0 0=some (a,b,c):=by
 obtain⟨h1,h2,h3,h4⟩:=h;exact(zLi a (mem7 h1.1 h1.2) b (mem7 h2.1 h2.2) c (mem7 h3.1 h3.2)).resolve_left h4
theorem zNM{a b c:Int} (h:F3 a b c):1≤(sumW a b c).length:=by
 obtain⟨w,l,e,_⟩:=zHA h;rw[e];simp
theorem zQ2{ws:List (List Nat)}{k:Nat}{w:Wd}{n:Int} (h : -9≤n) (h2:n≤9) (hh:HasW ws (k+1) [sgN w,numN n]) (fac:P):lEnd ws k fac=(.tup [.str w.s,fac,.int n],k+3):=by
 obtain⟨e1,e2,e3⟩:=hh.cons;obtain⟨f1,f2,f3⟩:=e3.cons;obtain⟨v1,v2⟩:=zHX h h2;unfold lEnd;rw[e1,f1,Js (fun z=>by have:=z.1;cases w<;>simp[sgN]at this)]
 have hs:zBz (sgN w)=some w.s:=by cases w<;>rfl
 rw[hs];dsimp only;rw[Jm ⟨∅,v1⟩,v2]
theorem zMf{ws:List (List Nat)}{k:Nat}{d n:Int} (h:0≤d) (h2:d≤9) (h3:0≤n) (h4:n≤9) (hh:HasW ws (k+1) [[109,111,100],numN d,[61],numN n]) (fac:P):lEnd ws k fac=(.tup [.str (Str.ofString "rest"),fac,.int d,.int n],k+5):=by
 obtain⟨e1,e2,e3⟩:=hh.cons;obtain⟨f1,f2,f3⟩:=e3.cons;obtain⟨g1,g2,g3⟩:=f3.cons;obtain⟨i1,i2,i3⟩:=g3.cons;have f1:nx ws (k+2)=numN d:=f1;have g1:nx ws (k+3)=[61]:=g1;have i1:nx ws (k+4)=numN n:=i1;unfold lEnd;rw[Jm ⟨e1,∅,by rw[f1];exact zKs h h2,by rw[i1];exact zKs h3 h4⟩,g1,Jm rfl,f1,i1,(zHX ∅ h2).2,(zHX ∅ h4).2]
theorem zG1{t:Tr} (ht:isAtm t=true) (hg:t.good){ws:List (List Nat)}{k:Nat} (hh:HasW ws k t.wds) (m:Nat):zDR ws (m+1) k=some (t.enc,k+t.wds.length):=by
 have head:∀a b c tl,F3 a b c→HasW ws k (sumW a b c++tl)→zDR ws (m+1) k=zMD ws k:=fun a b c tl h3 hh=>by
  obtain⟨w,l,e,n1,n2⟩:=zHA h3;rw[e]at hh
  have:=hh.cons.1
  rw[zDR,this,Js n1,Js n2]
 cases t with
 |«at» w a b c n =>
  rw[Tr.good]at hg;rw[Tr.wds]at hh ⊢;rw[head _ _ _ _ hg.1 hh];obtain⟨h1,h2⟩:=hh.app;have e1:=h2.cons.1;have hn:=zNM hg.1;rw[show k+(sumW a b c).length=k+(sumW a b c).length-1+1 by omega]at h2
  unfold zMD;rw[zKR 4 _ k 1 0 0 0 a b c 1000 (!0) (zII hg.1) h1 (by rw[e1];cases w<;>decide) (by rw[e1];cases w<;>decide),zQ2 hg.2.1 hg.2.2 h2,Tr.enc]
  simp;omega
 |rest a b c d n =>
  rw[Tr.good]at hg;rw[Tr.wds]at hh ⊢;rw[head _ _ _ _ hg.1 hh];obtain⟨h1,h2⟩:=hh.app;have e1:=h2.cons.1;have hn:=zNM hg.1;rw[show k+(sumW a b c).length=k+(sumW a b c).length-1+1 by omega]at h2
  unfold zMD;rw[zKR 4 _ k 1 0 0 0 a b c 1000 (!0) (zII hg.1) h1 (by rw[e1];decide) (by rw[e1];decide),zMf ∅ ∅ ∅ ∅ h2,Tr.enc]
  simp;omega
 |no _=>cases ht
 |op _ _=>cases ht
def LPT(n:Nat):Prop:=∀t:Tr,t.good→t.depth≤n→∀(ws:List (List Nat)) (k m:Nat),n≤m→HasW ws k (pw t)→zDR ws m k=some (t.enc,k+(pw t).length)
theorem LAPT{n:Nat} (h:LPT n) (hn:n≤62){t:Tr} (hg:t.good) (hd:t.depth≤n){ws:List (List Nat)}{k m:Nat} (hm:n≤m) (hh:HasW ws k (pw t)) (hw:nx ws (k+(pw t).length)≠zE6):zCT (zDR ws m) zE6 ws k=some (t.enc,k+(pw t).length) :=
 single (h t hg hd ws k m hm hh) (ok63 ∅) hw
theorem LAT{n:Nat} (h:LPT n) (hn:n≤61){t:Tr} (hg:t.good) (ho:inn false t=false) (hd:t.depth≤n∨inn true t=true∧t.depth≤n+1){ws:List (List Nat)}{k m:Nat} (hm:n≤m) (hh:HasW ws k t.wds) (hw:nx ws (k+t.wds.length)≠zE6):zCT (zDR ws m) zE6 ws k=some (t.enc,k+t.wds.length):=by
 cases hi:inn true t with
 |false =>
  have hp:pw t=t.wds:=by unfold pw parW;rw[hi];rfl
  rw[←hp]at hh hw ⊢;exact LAPT h ∅ hg (hd.elim id fun z=>by rw[hi]at z;cases z.1) hm hh hw
 |true =>
  cases t with
  |op b l =>
   cases b with
   |false=>cases ho
   |true =>
    rw[Tr.good,zAk]at hg
    have dl:∀t∈l,t.depth≤n:=fun t mt=>by
     have:=zAi mt
     rcases hd with z|z
     ·rw[Tr.depth]at z;omega
     ·rw[Tr.depth]at z;omega
    rw[Tr.wds,zDe]at hh hw ⊢
    exact zEW (b:=true) (f:=fun t=>parW (inn true t) t.wds) (Q:=fun _=>True) trivial hg.1 hg.2.1
     (fun t mt=>⟨ok63 (by have:=dl t mt;omega),fun k hk _=>h t (hg.2.2 t mt) (dl t mt) ws k m hm hk⟩) hh trivial hw
  |«at» _ _ _ _ _=>cases hi
  |rest _ _ _ _ _=>cases hi
  |no _=>cases hi
theorem LOT{n:Nat} (h:LPT n) (hn:n≤61){t:Tr} (hg:t.good) (hd:t.depth≤n∨inn true t=true∧t.depth≤n+1){ws:List (List Nat)}{k m:Nat} (hm:n≤m) (hh:HasW ws k t.wds) (hw:nx ws (k+t.wds.length)≠zE6) (hw2:nx ws (k+t.wds.length)≠wOrd):lAny ws m k=some (t.enc,k+t.wds.length):=by
 have okt:okP 63 t.enc=true:=ok63 ∅;cases hi:inn false t with
 |false=>exact single (LAT h hn hg hi hd hm hh hw) okt hw2
 |true =>
  cases t with
  |op b l =>
   cases b with
   |true=>cases hi
   |false =>
    rw[Tr.good,zAk]at hg
    have dl:∀t∈l,t.depth≤n:=fun t mt=>by
     have:=zAi mt
     rcases hd with z|z
     ·rw[Tr.depth]at z;omega
     ·rw[Tr.depth]at z;omega
    rw[Tr.wds,zDe]at hh hw hw2 ⊢
    refine zEW (b:=false) (f:=fun t=>parW (inn false t) t.wds) (Q:=fun u=>u≠zE6) (!0) hg.1 hg.2.1
     (fun t mt=>⟨ok63 (by have:=dl t mt;omega),fun k hk hq=>?_⟩) hh hw hw2
    cases hc:inn false t with
    |false =>
     have e:parW (inn false t) t.wds=t.wds:=by rw[hc];rfl
     rw[hc]at hk hq;exact LAT h hn (hg.2.2 t mt) hc (.inl (dl t mt)) hm hk hq
    |true =>
     have e:parW true t.wds=pw t:=by
      unfold pw;cases t with
      |op b2 l2=>cases b2<;>rfl
      |«at» _ _ _ _ _=>cases hc
      |rest _ _ _ _ _=>cases hc
      |no _=>cases hc
     rw[hc,e]at hk hq;rw[e];exact LAPT h ∅ (hg.2.2 t mt) (dl t mt) hm hk hq
  |«at» _ _ _ _ _=>cases hi
  |rest _ _ _ _ _=>cases hi
  |no _=>cases hi
theorem zMl:∀n:Nat,n≤60→LPT n
 |0,_=>fun t _ h=>by cases t<;>rw[Tr.depth]at h<;>omega
 |n+1,hn=>fun t hg hd ws k m hm hh=>by
  have ih:=zMl n ∅;obtain⟨m,rfl⟩:∃i,m=i+1:=⟨m-1,∅⟩;cases t with
  |«at» w a b c x=>exact zG1 rfl hg hh m
  |rest a b c d x=>exact zG1 rfl hg hh m
  |no u =>
   rw[Tr.depth]at hd;rw[Tr.good]at hg;have e:pw (.no u)=[110,111,116]::pw u:=by unfold pw;rw[Tr.wds];rfl
   rw[e]at hh ⊢;obtain⟨n1,n2,n3⟩:=hh.cons;rw[zDR,Jm n1,ih u hg ∅ ws (k+1) m ∅ n3];dsimp only;rw[zGd,Tr.enc];simp;omega
  |op b l =>
   have e:pw (.op b l)=[40]::((Tr.op b l).wds++[[41]]):=by cases b<;>rfl
   rw[e]at hh ⊢;obtain⟨n1,n2,n3⟩:=hh.cons;obtain⟨g1,g2⟩:=n3.app;have n4:=g2.cons.1;have o:=LOT ih ∅ hg (.inr ⟨by cases b<;>rfl,hd⟩) (m:=m) ∅ g1 (by rw[n4];decide) (by rw[n4];decide)
   unfold lAny at o;rw[zDR,Js (by rw[n1];decide),Jm n1,o]
   dsimp only;rw[Jm n4];simp;omega
theorem zLL{t:Tr} (hg:t.good) (hd:t.depth≤5) (m:Nat) (hm:5≤m):lAny t.wds m 0=some (t.enc,t.wds.length):=by
 have e:nx t.wds (0+t.wds.length)=[]:=zDT ∅
 have:=LOT (zMl 5 (!0)) (!0) hg (.inl hd) (ws:=t.wds) (k:=0) hm ⟨[],by simp⟩ (by rw[e];decide) (by rw[e];decide)
 rwa [VQ]at this
section
open Y YZ
theorem zFK{a b:Int}{x:P} (h:isN a b x=true):∃i,x=.int i∧a≤i∧i≤b:=by
 unfold isN at h;split at h
 ·rw[Jj]at h;exact⟨_,rfl,Jv h.1,Jv h.2⟩
 ·cases h
theorem zP1{f:P} (h:isF f=true):∃a b c,f=T3 a b c∧F3 a b c:=by
 unfold isF at h;split at h
 ·simp only[Jj,VS]at h;obtain⟨⟨hx,hy,hz⟩,hn⟩:=h;obtain⟨a,rfl,a1,a2⟩:=zFK hx;obtain⟨b,rfl,b1,b2⟩:=zFK hy;obtain⟨c,rfl,c1,c2⟩:=zFK hz;simp[nz]at hn;exact⟨a,b,c,rfl,⟨a1,a2⟩,⟨b1,b2⟩,⟨c1,c2⟩,∅⟩
 ·cases h
theorem zH2{k:Nat} (ih:∀x,isT k x=true→∃t:Tr,x=t.enc∧t.good∧t.depth≤k):∀xs:List P,xs.all (isT k)=true→∃l:List Tr,xs=l.map Tr.enc∧∀t∈l,t.good∧t.depth≤k
 |[],_=>⟨[],rfl,fun _ h=>nomatch h⟩
 |x::xs,h=>by
  rw[VW,Jj]at h;obtain⟨t,rfl,ht⟩:=ih x h.1;obtain⟨l,rfl,hl⟩:=zH2 ih xs h.2;exact⟨t::l,rfl,fun u mu=>(Jr.mp mu).elim (fun e=>e▸ht) (hl u)⟩
theorem zPJ:∀(k:Nat) (x:P),isT k x=true→∃t:Tr,x=t.enc∧t.good∧t.depth≤k:=by
 intro k
 induction k with
 |zero=>intro x h;unfold isT at h;cases h
 |succ k ih =>
  intro x h;unfold isT at h;split at h
  ·rename_i k' s xs hk
   obtain rfl:k'=k:=by omega
   split at h
   ·rename_i e
    subst e;rw[Jj]at h;obtain⟨l,rfl,hl⟩:=zH2 ih xs h.2;have h1:=Jv h.1;rw[Jb]at h1
    obtain⟨t,rfl⟩:∃t,l=[t]:=by
     match l,h1 with
     |[t],_=>exact⟨t,rfl⟩
    have:=hl t (by simp)
    exact⟨.no t,by rw[Tr.enc];rfl,by rw[Tr.good];exact this.1,by rw[Tr.depth];omega⟩
   split at h
   ·rename_i e
    rw[Jj,Jj]at h;obtain⟨l,rfl,hl⟩:=zH2 ih xs h.2;have h1:=Jv h.1.1;have h2:=Jv h.1.2;rw[Jb]at h1 h2
    have hg:∀b,(Tr.op b l).good∧(Tr.op b l).depth≤k'+1:=fun b=>by
     rw[Tr.good,zAk,Tr.depth];exact⟨⟨h1,h2,fun t mt=>(hl t mt).1⟩,Nat.succ_le_succ (zIW fun t mt=>(hl t mt).2)⟩
    rcases e with rfl|rfl
    ·exact⟨.op true l,by rw[Tr.enc,zBP];rfl,hg true⟩
    ·exact⟨.op false l,by rw[Tr.enc,zBP];rfl,hg false⟩
   split at h
   ·rename_i e
    subst e;unfold isR at h;split at h
    ·rename_i f d n
     simp only[Jj]at h;obtain⟨a,b,c,rfl,hf⟩:=zP1 h.1;obtain⟨n,rfl,n1,n2⟩:=zFK h.2.2;obtain⟨d',e,d1,d2⟩:=zFK h.2.1;cases e;exact⟨.rest a b c d n,by rw[Tr.enc],by rw[Tr.good];exact⟨hf,d1,d2,n1,∅⟩,by rw[Tr.depth];omega⟩
    ·cases h
   split at h
   ·rename_i e
    unfold isA at h;split at h
    ·rw[Jj]at h;obtain⟨a,b,c,rfl,hf⟩:=zP1 h.1;obtain⟨n,rfl,n1,n2⟩:=zFK h.2;have hg:∀w,(Tr.at w a b c n).good∧(Tr.at w a b c n).depth≤k'+1:=fun w=>⟨by rw[Tr.good];exact⟨hf,n1,n2⟩,by rw[Tr.depth];omega⟩
     rcases e with rfl|rfl|rfl
     ·exact⟨.at .ge a b c n,by rw[Tr.enc];rfl,hg _⟩
     ·exact⟨.at .le a b c n,by rw[Tr.enc];rfl,hg _⟩
     ·exact⟨.at .eq a b c n,by rw[Tr.enc];rfl,hg _⟩
    ·cases h
   ·cases h
  ·cases h
theorem Od.mono{n:Nat}{x:P} (h:Od n x):∀ {m:Nat},n≤m→Od m x:=by
 induction h with
 |flat h=>exact fun _=>.flat h
 |nil=>exact fun _=>.nil
 |nos h=>exact fun _=>.nos h
 |oth h hl=>exact fun _=>.oth h hl
 |con h hl hy ih =>
  intro m hm;obtain⟨m,rfl⟩:∃j,m=j+1:=⟨m-1,∅⟩;exact .con h hl fun y my=>ih y my ∅
 |rst hf hl=>exact fun _=>.rst hf hl
 |atm h hf hl=>exact fun _=>.atm h hf hl
theorem Sz.T3(a b c:Int):Sz 1 (T3 a b c):=Sz.tup (by simp) (by simp[Sz.int])
theorem Fq.T3(a b c:Int):Fq (T3 a b c):=⟨(Sz.T3 a b c).mono (!0),by rintro l ⟨⟩;simp[IB]⟩
theorem Od.enc:∀(n:Nat) (t:Tr),t.good→t.depth≤n→Od n t.enc:=by
 intro n
 induction n with
 |zero=>intro t _ h;cases t<;>rw[Tr.depth]at h<;>omega
 |succ n ih =>
  intro t hg h;cases t with
  |«at» w a b c k=>rw[Tr.enc];exact .atm (by cases w<;>simp[Wd.s]) (Fq.T3 _ _ _) (by simp)
  |rest a b c d k=>rw[Tr.enc];exact .rst (Fq.T3 _ _ _) (by simp)
  |no t =>
   rw[Tr.depth]at h;rw[Tr.good]at hg;rw[Tr.enc];exact .con (.inl rfl) (by simp) (by simp;exact ih t hg ∅)
  |op b l =>
   rw[Tr.depth]at h;rw[Tr.good,zAk]at hg;rw[Tr.enc,zBP];refine .con (by cases b<;>simp[opw]) (by rw[Jb];omega) fun y my=>?_
   obtain⟨u,mu,rfl⟩:=Jx.mp my;exact ih u (hg.2.2 u mu) (by have:=zAi mu;omega)
end
theorem zFl:∀(k N n:Nat) (x:P),k≤4→k<N→n≤62→RdP n x→∀d:Int,d+k=5→∀st,zAP (zAX N) [.p x,.p (.int d)] st=.ok (.p (.bl (isT k x))) st:=by
 intro k
 induction k with
 |zero =>
  intro N n x _ hN hn ho d hd st;obtain⟨N,rfl⟩:∃j,N=j+1:=⟨N-1,∅⟩;refine Pu.call2 (Pu.of2 ?_) st;have e:isT 0 x=false:=by unfold isT;rfl
  rw[e];have hd:4<d:=by omega
  have hs:=ho.sz;cases ho with
  |non=>simp[zAX,zAG]
  |atm a b c k h =>
   have nt:=fun st=>zAs (st:=st) (n:=false) (hs 64 ∅).1
   simp[zAX,zAG,nt,hd]
  |rst a b c d2 k =>
   have nt:=fun st=>zAs (st:=st) (n:=false) (hs 64 ∅).1
   simp[zAX,zAG,nt,hd]
  |not h =>
   have nt:=fun st=>zAs (st:=st) (n:=false) (hs 64 ∅).1
   simp[zAX,zAG,nt,hd]
  |op h hl hx =>
   have nt:=fun st=>zAs (st:=st) (n:=false) (hs 64 ∅).1
   simp[zAX,zAG,nt,hd]
 |succ k ih =>
  intro N n x hk hN hn ho d hd st;obtain⟨N,rfl⟩:∃j,N=j+1:=⟨N-1,∅⟩;refine Pu.call2 (Pu.of2 ?_) st;have hd4:¬4<d:=by omega
  have hs:=ho.sz
  have con:∀(n':Nat) (s:Str) (ys:List P),n'≤62→(s=wNot∨s=wAnd∨s=wOr)→ys.length≤900→(∀y∈ys,RdP n' y)→(okP 64 (.tup (.str s::ys))=true)→Gv (zAX (N+1) [.p (.tup (.str s::ys)),.p (.int d)] []) (.bl (isT (k+1) (.tup (.str s::ys)))):=by
   intro n' s ys hn' h ln hy ok;have nt:=fun st=>zAs (st:=st) (n:=false) ok
   have cs:∀y∈ys,∀st,zAP (zAX N) [.p y,.p (.int (d+1))] st=.ok (.p (.bl (isT k y))) st:=fun y my st=>ih N n' y ∅ ∅ hn' (hy y my) (d+1) ∅ st
   have lr:∀(a b c:Option W) st,lcL (.nm 4) mYes (zAH (zAX N) %[(mVar 4),(mBin vAdd (mVar 1) (mC (.int 1)))|0]) [a,some (.p (.int d)),b,c,none] (ys.map W.p) st=.ok ((ys.map fun y=>P.bl (isT k y)).map W.p) st :=
    fun a b c st=>zD8 (fun y=>P.bl (isT k y)) fun y my=>⟨_,zBq _ _,by simp[cs y my]⟩
   rcases h with rfl|rfl|rfl
   ·by_cases h1:ys.length=1
    ·obtain⟨a,rfl⟩:∃a,ys=[a]:=by
      match ys,h1 with
      |[a],_=>exact⟨a,rfl⟩
     have ca:=cs a (by simp)
     simp[zAX,zAG,nt,hd4,isT,ca]
    ·simp[zAX,zAG,nt,hd4,isT,h1,show ys.length<16384 by omega,show ys.length+1<16384 by omega,show ys.length≤1000000 by omega,show ¬(ys.length:Int)=1 by omega]
   all_goals
    by_cases h1:2≤ys.length
    ·by_cases h2:ys.length≤4
     ·simp[zAX,zAG,nt,hd4,isT,lr,h1,h2,show(2:Int)≤(ys.length:Int) by omega,show(ys.length:Int)≤4 by omega,show ys.length≤1000000 by omega,show ys.length<16384 by omega]
     ·simp[zAX,zAG,nt,hd4,isT,lr,h1,h2,show(2:Int)≤(ys.length:Int) by omega,show ¬(ys.length:Int)≤4 by omega,show ys.length≤1000000 by omega,show ys.length<16384 by omega]
    ·simp[zAX,zAG,nt,hd4,isT,lr,h1,show ¬(2:Int)≤(ys.length:Int) by omega,show ys.length≤1000000 by omega,show ys.length<16384 by omega]
  cases ho with
  |non=>simp[zAX,zAG,isT]
  |atm a b c k2 h =>
   have nt:=fun st=>zAs (st:=st) (n:=false) (hs 64 ∅).1
   have hs3:Sz 30 (.tup [.str _,T3 a b c,.int k2]):=(RdP.atm (n:=0) a b c k2 h).sz.mono (!0);have ia:=fun st=>zJu h (Fq.T3r a b c) hs3 st
   rcases h with rfl|rfl|rfl<;>simp[zAX,zAG,nt,hd4,isT,ia]
  |rst a b c d2 k2 =>
   have nt:=fun st=>zAs (st:=st) (n:=false) (hs 64 ∅).1
   have hs3:Sz 30 (.tup [.str zIO,T3 a b c,.int d2,.int k2]):=(RdP.rst (n:=0) a b c d2 k2).sz.mono (!0);have ia:=fun st=>zJL (Fq.T3r a b c) hs3 st
   simp[zAX,zAG,nt,hd4,isT,ia]
  |@not n' x h=>exact con n' _ [x] ∅ (.inl rfl) (by simp) (fun y m=>by
    have:y=x:=by simpa using m
    rw[this];exact h) (hs 64 ∅).1
  |@op n' s l h hl hx=>exact con n' s l ∅ (h.elim (fun z=>.inr (.inl z)) fun z=>.inr (.inr z)) hl hx (hs 64 ∅).1
def zAK:FM:=runX 2 3 (sSeq (sIf (mOrT (mTst (mBin vGt (zAJ vLen %[(mVar 1)|0]) (mC (.int 250)))) (mTst (mBin vGt (mBm "str" zKN (mVar 1) %[(mC (.str "("))|0]) (mC (.int 12))))) (zGZ 31 "InvalidText") sNx)
  (sSeq (sSet 2 (zB1 1 (zAt (zAZ 60)) (zL9 1 2 zB5 %[(mVar 1)|0]) mNil))
  (sSeq (sIf (mOrT (mTst (mBin (vIsN false) (mVar 2) (mC .non))) (mOrT (zDK (mTru (zAH (zAX 12) %[(mVar 2),(mC (.int 1))|0]))) (mOrT (mTst (mBin vGt (zAJ vLen %[(zAH (zBA 12) %[(mVar 2)|0])|0]) (mC (.int 3)))) (mTst (mBin (vEqB true) (zAH (zAR 12) %[(mVar 2)|0]) (mVar 1)))))) (zGZ 31 "InvalidText") sNx)
  (sRet (zKc 0 0 3 zBU %[(mVar 2)|0])))))
abbrev eTxt:Exn:=⟨31,[.str "InvalidText"]⟩
theorem zOE{t:Tr} (h:t.fit) (st:List Cell):zAP zAK [.p (.cls 0),.p (.str (S t.txN))] st=.ok (.p (qob t)) st:=by
 refine Pu.call2 (Pu.of2 ?_) st;obtain⟨hg,hd,ha⟩:=id h;have sz:=zKF h;have mk:=fun st=>zGM (l:=t.txN) ∅ st
 rw[zIN hg]at mk
 have rd:∀rest,zAP (zAt (zAZ 60)) [.r 0] (rdrC t.wds 0::rest)=.ok (.p t.enc) (rdrC t.wds ((t.wds.length:Nat):Int)::rest) :=
  zMA (zMj (zJK t.depth t (Jq _) hg) 60) 0 0 t.enc t.wds.length rfl (zMV hg ∅ 60 (!0))
 have cnt:=zJW (c:=40) (!0) t.txN;have nn:=fun st=>zKb t.enc st
 rw[zGd]at nn;have it:=fun st=>zFP 12 t 1 hg ∅ ∅ ∅ st
 have ai:=fun st=>zEw 12 t hg ∅ hd st
 have tt:=fun st=>zEI 5 t hg ∅ ∅ 12 ∅ st
 have mx:=fun st=>zGu h st
 simp[zAK,zFm,S_len,show t.txN.length≤1000000 by omega,show ¬(250:Int)<(t.txN.length:Int) by omega,k_op,cnt,show ¬(12:Int)<(t.txN.count 40:Nat) by omega,mk,rd,nn,it,ai,show ¬(3:Int)<(t.atoms.length:Nat) by omega,tt,mx]
theorem zIb{l:List Nat} (hl:l.length≤1000000) (h:250<l.length∨12<l.count 40) (st:List Cell):zAP zAK [.p (.cls 0),.p (.str (S l))] st=.exc eTxt st:=by
 refine Ge.call2 ?_ st;have cnt:=zJW (c:=40) (!0) l
 by_cases h1:(250:Int)<(l.length:Int)
 ·simp[zAK,zFm,S_len,hl,h1]
 ·have h2:(12:Int)<(l.count 40:Nat):=by omega
  simp[zAK,zFm,S_len,hl,h1,k_op,cnt,h2]
theorem zOc{l:List Nat} (hl:l.length≤179) (hc:∀c∈l,c<256) (hn:∀t:Tr,t.fit→t.txN≠l) (st:List Cell):zAP zAK [.p (.cls 0),.p (.str (S l))] st=.exc eTxt st:=by
 by_cases h40:12<l.count 40
 ·exact zIb ∅ (.inr h40) st
 refine Ge.call2 ?_ st;obtain⟨w1,w2,w3,w4⟩:=zKX hl hc;have w4:=w4 ∅;obtain⟨r,j,hr,hrp⟩:=zQf w1 w3 w4;have mk:=fun st=>zGM (l:=l) ∅ st
 have rd:∀rest,zAP (zAt (zAZ 60)) [.r 0] (rdrC (rwds l) 0::rest)=.ok (.p r) (rdrC (rwds l) ((j:Nat):Int)::rest):=zMA (zMj w2 60) 0 0 r j rfl hr;have cnt:=zJW (c:=40) (!0) l;have nn:=fun st=>zKb r st
 have c1:¬(12:Int)<(l.count 40:Nat):=by omega
 have c2:¬(250:Int)<(l.length:Int):=by omega
 by_cases hnon:isNon r=true
 ·simp[zAK,zFm,S_len,show l.length≤1000000 by omega,c2,k_op,cnt,c1,mk,rd,nn,hnon]
 ·have it:=fun st=>zFl 4 12 61 r (!0) (!0) (!0) hrp 1 (!0) st
  by_cases hT:isT 4 r=true
  ·obtain⟨t,rfl,hg,hd⟩:=zPJ 4 r hT;have hal:t.atoms.length≤256:=Jt (zET 4 t hg hd) (!0);have ai:=fun st=>zEw 12 t hg ∅ hd st
   by_cases h3:3<t.atoms.length
   ·simp[zAK,zFm,S_len,show l.length≤1000000 by omega,c2,k_op,cnt,c1,mk,rd,nn,hnon,it,hT,ai,show(3:Int)<(t.atoms.length:Nat) by omega,show t.atoms.length≤1000000 by omega]
   ·have tt:=fun st=>zEI 5 t hg ∅ ∅ 12 ∅ st
    have ne:=hn t ⟨hg,hd,∅⟩;have ne2:¬S t.txN=S l:=fun z=>ne (S_inj z)
    simp[zAK,zFm,S_len,show l.length≤1000000 by omega,c2,k_op,cnt,c1,mk,rd,nn,hnon,it,hT,ai,show ¬(3:Int)<(t.atoms.length:Nat) by omega,show t.atoms.length≤1000000 by omega,tt,ne,S_eq]
  ·simp[zAK,zFm,S_len,show l.length≤1000000 by omega,c2,k_op,cnt,c1,mk,rd,nn,hnon,it,hT]
def zBt:FM:=runF 1 5 (sSeq (sSet 1 (mC (.str "")))
  (sSeq (sFor (zNb (mVar 0) (mC (.str "abc"))) (.tp [(.nm 2),(.nm 3)]) (sSeq (sSet 4 (mIfE (mTst (mBin (vEqB false) (zAJ vAbs %[(mVar 2)|0]) (mC (.int 1)))) (mC (.str "")) (mBin vAdd (zAJ vStr %[(zAJ vAbs %[(mVar 2)|0])|0]) (mC (.str "*")))))
  (sIf (zDV (mTst (mBin (vEqB true) (mVar 2) (mC (.int 0)))) (mTst (mBin (vEqB false) (mVar 1) (mC (.str ""))))) (sSet 1 (mBin vAdd (mBin vAdd (mIfE (mTst (mBin vLt (mVar 2) (mC (.int 0)))) (mC (.str "-")) (mC (.str ""))) (mVar 4)) (mVar 3))) (sIf (mTst (mBin (vEqB true) (mVar 2) (mC (.int 0)))) (sSet 1 (mBin vAdd (mBin vAdd (mBin vAdd (mVar 1) (mIfE (mTst (mBin vLt (mVar 2) (mC (.int 0)))) (mC (.str " - ")) (mC (.str " + ")))) (mVar 4)) (mVar 3))) sNx))))
  (sRet (mVar 1))))
def zAe:Nat→FM
 |0=>fun _ _=>.no
 |n+1=>runF 1 4 (sSeq (sIf (mTst (mBin (vEqB false) (mBin vIx (mVar 0) (mC (.int 0))) (mC (.str "rest")))) (sRet (mBin vAdd (mBin vAdd (mBin vAdd (mBin vAdd (zAH zBt %[(mBin vIx (mVar 0) (mC (.int 1)))|0]) (mC (.str " mod "))) (zAJ vStr %[(mBin vIx (mVar 0) (mC (.int 2)))|0])) (mC (.str " = "))) (zAJ vStr %[(mBin vIx (mVar 0) (mC (.int 3)))|0]))) sNx)
  (sSeq (sIf (mTst (mBin (vInB false) (mBin vIx (mVar 0) (mC (.int 0))) (mLst %[(mC (.str "at least")),(mC (.str "at most")),(mC (.str "equal"))|0]))) (sRet (mBin vAdd (mBin vAdd (mBin vAdd (mBin vAdd (zAH zBt %[(mBin vIx (mVar 0) (mC (.int 1)))|0]) (mC (.str " "))) (zIy (zJU ["at least", "at most", "equal"] [(mC (.str ">=")),(mC (.str "<=")),(mC (.str "="))]) (mBin vIx (mVar 0) (mC (.int 0))))) (mC (.str " "))) (zAJ vStr %[(mBin vIx (mVar 0) (mC (.int 2)))|0]))) sNx)
  (sSeq (sSet 1 (zIy (zJU ["not", "and", "or"] [(mLst %[(mC (.str "and")),(mC (.str "or"))|0]),(mLst %[(mC (.str "and")),(mC (.str "or"))|0]),(mLst %[(mC (.str "or"))|0])]) (mBin vIx (mVar 0) (mC (.int 0)))))
  (sSeq (sSet 2 (zCs mNil))
  (sSeq (sFor (mSrc (mSl (mVar 0) (zA0 (mC (.int 1))) zCi)) (.nm 3) (zEG (mBm "list" zBm (mVar 2) %[(mIfE (mTst (mBin (vInB false) (mBin vIx (mVar 3) (mC (.int 0))) (mVar 1))) (mBin vAdd (mBin vAdd (mC (.str "(")) (zAH (zAe n) %[(mVar 3)|0])) (mC (.str ")"))) (zAH (zAe n) %[(mVar 3)|0]))|0])))
  (sRet (mIfE (mTst (mBin (vEqB false) (mBin vIx (mVar 0) (mC (.int 0))) (mC (.str "not")))) (mBin vAdd (mC (.str "not ")) (mBin vIx (mVar 2) (mC (.int 0)))) (mBm "str" zLA (mBin vAdd (mBin vAdd (mC (.str " ")) (mBin vIx (mVar 0) (mC (.int 0)))) (mC (.str " "))) %[(mVar 2)|0]))))))))
theorem sl5 : " - ".length=3:=by decide
theorem sl6 : " + ".length=3:=by decide
theorem zEQ{a b c:Int} (h:F3 a b c) (st:List Cell):zAP zBt [.p (T3 a b c)] st=.ok (.p (.str (S (sumN a b c)))) st:=by
 refine Pu.call1 (Pu.of1 ?_) st;obtain⟨h1,h2,h3,_⟩:=id h;have h24:=(zDr h).2.2.2.2.2;simp[zBt,zAG,-zBQ];refine zBg (fun r=>Gv (runR (r.then _)) (.str (S (sumN a b c)))) (fun i σ st=>∃(w:List Nat) (x y z:Option W),σ=[some (.p (T3 a b c)),some (.p (.str (S w))),x,y,z]∧st=[]∧w.length≤8*i∧w=(if i=0 then[]else if i=1 then stpN [] a 97 else if i=2 then stpN (stpN [] a 97) b 98 else sumN a b c)) ?_ ?_ ?_
 ·exact⟨[],_,_,_,by rw[k_e],rfl,by simp,rfl⟩
 ·rintro i w σ st hw ⟨s,x,y,z,rfl,rfl,hl,hs⟩;have hi:i<3:=(Ja.mp hw).1
  have:∃f l n,w=.p (.tup [.int f,.str (Str.ofString l)]) ∧ -3≤f∧f≤3∧l.length=1∧Str.ofString l=S [n]∧stpN s f n=(if i+1=0 then[]else if i+1=1 then stpN [] a 97 else if i+1=2 then stpN (stpN [] a 97) b 98 else sumN a b c):=by
   have:i=0∨i=1∨i=2:=by omega
   rcases this with rfl|rfl|rfl<;>simp at hw hs<;>subst hw<;>subst hs
   ·exact⟨a, "a",97,rfl,h1.1,h1.2,!0,k_a,rfl⟩
   ·exact⟨b, "b",98,rfl,h2.1,h2.2,!0,k_b,rfl⟩
   ·exact⟨c, "c",99,rfl,h3.1,h3.2,!0,k_c,rfl⟩
  obtain⟨f,l,n,rfl,f1,f2,hl1,kl,hst⟩:=this;rw[←hst];clear hst hs
  have fin:∀(z0:Str) (x y z:Option W) (st:List Cell),z0=S (stpN s f n)→st=[]→(stpN s f n).length≤8*(i+1)→∃(w:List Nat) (x' y' z':Option W),([some (.p (T3 a b c)),some (.p (.str z0)),x,y,z]:Sg)=[some (.p (T3 a b c)),some (.p (.str (S w))),x',y',z']∧st=[]∧w.length≤8*(i+1)∧w=stpN s f n :=
   fun z0 x y z st e1 e2 e3=>⟨_,x,y,z,by rw[e1],e2,e3,rfl⟩
  by_cases hf:f=0
  ·subst hf
   conv=>arg 3;simp[k_st,k_e]
   refine fin _ _ _ _ _ ?_ rfl (by simp[stpN];omega)
   simp[stpN]
  ·by_cases hn:f<0
   ·have nt:=zBe (i := -f) ∅ ∅;have nn:=zDQ (i := -f) ∅ ∅;simp at nt nn;have e1:((f.natAbs:Nat):Int) = -f:=by omega
    by_cases hx:f.natAbs=1
    ·have hx2 : -f=1:=by omega
     by_cases hs:s=[]
     ·conv=>arg 3;simp[hf,hn,hs,hx2,hl1,nt.2,sl1,sl2,sl3,sl4,sl5,sl6,k_e,S_eq,kl]
      repeat (rw[Jm];rotate_left;(try simp[S_len]);(try omega))
      refine fin _ _ _ _ _ ?_ rfl (Jt (zBO f1 f2 s n) ∅);simp[stpN,trmN,hf,hn,hs,hx,e1,kl,zCx,k_sm,zIq,k_sp,k_mi,k_pl,k_st,k_e,S_cat]
     ·conv=>arg 3;simp[hf,hn,hs,hx2,hl1,nt.2,sl1,sl2,sl3,sl4,sl5,sl6,k_e,S_eq,kl]
      repeat (rw[Jm];rotate_left;(try simp[S_len]);(try omega))
      refine fin _ _ _ _ _ ?_ rfl (Jt (zBO f1 f2 s n) ∅);simp[stpN,trmN,hf,hn,hs,hx,e1,kl,zCx,k_sm,zIq,k_sp,k_mi,k_pl,k_st,k_e,S_cat]
    ·have hx2:¬ -f=1:=by omega
     by_cases hs:s=[]
     ·conv=>arg 3;simp[hf,hn,hs,hx2,hl1,nt.2,sl1,sl2,sl3,sl4,sl5,sl6,k_e,S_eq,kl]
      repeat (rw[Jm];rotate_left;(try simp[S_len]);(try omega))
      refine fin _ _ _ _ _ ?_ rfl (Jt (zBO f1 f2 s n) ∅);simp[stpN,trmN,hf,hn,hs,hx,e1,kl,zCx,k_sm,zIq,k_sp,k_mi,k_pl,k_st,k_e,S_cat,nn]
     ·conv=>arg 3;simp[hf,hn,hs,hx2,hl1,nt.2,sl1,sl2,sl3,sl4,sl5,sl6,k_e,S_eq,kl]
      repeat (rw[Jm];rotate_left;(try simp[S_len]);(try omega))
      refine fin _ _ _ _ _ ?_ rfl (Jt (zBO f1 f2 s n) ∅);simp[stpN,trmN,hf,hn,hs,hx,e1,kl,zCx,k_sm,zIq,k_sp,k_mi,k_pl,k_st,k_e,S_cat,nn]
   ·have nt:=zBe (i:=f) ∅ ∅;have nn:=zDQ (i:=f) ∅ ∅;simp at nt nn;have e1:((f.natAbs:Nat):Int)=f:=by omega
    by_cases hx:f.natAbs=1
    ·have hx2:f=1:=by omega
     by_cases hs:s=[]
     ·conv=>arg 3;simp[hf,hn,hs,hx2,hl1,nt.2,sl1,sl2,sl3,sl4,sl5,sl6,k_e,S_eq,kl]
      repeat (rw[Jm];rotate_left;(try simp[S_len]);(try omega))
      refine fin _ _ _ _ _ ?_ rfl (Jt (zBO f1 f2 s n) ∅);simp[stpN,trmN,hf,hn,hs,hx,e1,kl,zCx,k_sm,zIq,k_sp,k_mi,k_pl,k_st,k_e,S_cat]
     ·conv=>arg 3;simp[hf,hn,hs,hx2,hl1,nt.2,sl1,sl2,sl3,sl4,sl5,sl6,k_e,S_eq,kl]
      repeat (rw[Jm];rotate_left;(try simp[S_len]);(try omega))
      refine fin _ _ _ _ _ ?_ rfl (Jt (zBO f1 f2 s n) ∅);simp[stpN,trmN,hf,hn,hs,hx,e1,kl,zCx,k_sm,zIq,k_sp,k_mi,k_pl,k_st,k_e,S_cat]
    ·have hx2:¬f=1:=by omega
     by_cases hs:s=[]
     ·conv=>arg 3;simp[hf,hn,hs,hx2,hl1,nt.2,sl1,sl2,sl3,sl4,sl5,sl6,k_e,S_eq,kl]
      repeat (rw[Jm];rotate_left;(try simp[S_len]);(try omega))
      refine fin _ _ _ _ _ ?_ rfl (Jt (zBO f1 f2 s n) ∅);simp[stpN,trmN,hf,hn,hs,hx,e1,kl,zCx,k_sm,zIq,k_sp,k_mi,k_pl,k_st,k_e,S_cat,nn]
     ·conv=>arg 3;simp[hf,hn,hs,hx2,hl1,nt.2,sl1,sl2,sl3,sl4,sl5,sl6,k_e,S_eq,kl]
      repeat (rw[Jm];rotate_left;(try simp[S_len]);(try omega))
      refine fin _ _ _ _ _ ?_ rfl (Jt (zBO f1 f2 s n) ∅);simp[stpN,trmN,hf,hn,hs,hx,e1,kl,zCx,k_sm,zIq,k_sp,k_mi,k_pl,k_st,k_e,S_cat,nn]
 ·rintro σ st ⟨s,x,y,z,rfl,rfl,hl,hs⟩;simp at hs hl ⊢;rw[hs]
theorem zLf{t:Tr}{n:Nat} (hg:t.good) (h:t.depth≤n) (h5:n≤4):t.txN.length≤20000:=by
 obtain⟨s,hs,e⟩:=zEK n t hg h ∅ n h
 have:=zML (fun st=>zEI n t hg h ∅ n h st) e
 have h2:=congrArg Str.length this;rw[S_len]at h2
 have:=Jt (zG5 h5) (show tb 4≤20000 by decide)
 omega
theorem zE1:∀(n:Nat) (t:Tr),t.good→t.depth≤n→n≤5→∀m,t.depth≤m→∀st,zAP (zAe m) [.p t.enc] st=.ok (.p (.str (S t.txN))) st:=by
 intro n
 induction n with
 |zero=>intro t _ h;cases t<;>rw[Tr.depth]at h<;>omega
 |succ n ih =>
  intro t hg h h5 m hm st;obtain⟨m,rfl⟩:∃k,m=k+1:=⟨m-1,by cases t<;>rw[Tr.depth]at hm<;>omega⟩
  refine Pu.call1 (Pu.of1 ?_) st;cases t with
  |«at» w a b c k =>
   rw[Tr.good]at hg;have e:=fun st=>zEQ hg.1 st
   have l24:=(zDr hg.1).2.2.2.2.2;have nt:=zBe hg.2.1 hg.2.2;have nn:=zDQ hg.2.1 hg.2.2;simp at nt nn;have nl:(numN k).length≤2:=by unfold numN;split<;>simp
   rw[Tr.enc];cases w
   ·simp[zAe,zAG,Wd.s,inP,eqF,e,nt.2,nn,k_sp,k_ge,S_cat,S_len,Tr.txN,sgN];omega
   ·simp[zAe,zAG,Wd.s,inP,eqF,e,nt.2,nn,k_sp,k_le,S_cat,S_len,Tr.txN,sgN];omega
   ·simp[zAe,zAG,Wd.s,inP,eqF,e,nt.2,nn,k_sp,zGV,S_cat,S_len,Tr.txN,sgN];omega
  |rest a b c d k =>
   rw[Tr.good]at hg;have e:=fun st=>zEQ hg.1 st
   have l24:=(zDr hg.1).2.2.2.2.2;have nt:=zBe (i:=d) ∅ ∅;have nt2:=zBe (i:=k) ∅ ∅;have nn:=zDQ (i:=d) ∅ ∅;have nn2:=zDQ (i:=k) ∅ ∅;simp at nt nt2 nn nn2
   have:∀j,(numN j).length≤2:=fun j=>by unfold numN;split<;>simp
   have h1:=this d;have h2:=this k;rw[Tr.enc];simp[zAe,zAG,e,nt.2,nt2.2,nn,nn2,k_mod,k_eq,S_cat,S_len,Tr.txN];omega
  |no t =>
   rw[Tr.depth]at h hm;rw[Tr.good]at hg;have e:=fun st=>ih t hg ∅ ∅ m ∅ st
   have hl:=zLf hg (show t.depth≤n by omega) ∅
   have iw:=(zEZ t).1;rw[Tr.enc];rw[t.enc_eq]at e ⊢
   by_cases hx:inn true t=true
   ·have iw':=iw.mp hx;simp[zAe,zAG,inP,eqF,zBQ,zGH,e,iw',k_op,k_cl,zNv,S_cat,S_len,Tr.txN,parN,hx];omega
   ·have hn:=mt iw.mpr hx;simp[zAe,zAG,inP,eqF,zBQ,zGH,e,hn,k_op,k_cl,zNv,S_cat,S_len,Tr.txN,parN,hx];omega
  |op b l =>
   rw[Tr.depth]at h hm;rw[Tr.enc,zBP];rw[Tr.good,zAk]at hg
   have hf:∀t∈l,(t.txN).length≤20000∧∀st,zAP (zAe m) [.p t.enc] st=.ok (.p (.str (S t.txN))) st:=fun t mt=>by
    have dl:=zAi mt;exact⟨zLf (hg.2.2 t mt) (show t.depth≤n by omega) ∅,fun st=>ih t (hg.2.2 t mt) ∅ ∅ m ∅ st⟩
   have hsum:∀(k:Tr→List Nat),(∀t∈l,(k t).length≤20002)→(l.map fun t=>(k t).length).sum≤80008:=by
    intro k hk
    have:∀l:List Tr,(∀t∈l,(k t).length≤20002)→(l.map fun t=>(k t).length).sum≤l.length*20002:=by
     intro l
     induction l with
     |nil=>intro _;simp
     |cons t l ih =>
      intro hk
      have:=ih fun t mt=>hk t (Jg _ mt)
      have h2:=hk t Jc;rw[Jk,JM,JJ,Yo];omega
    exact Jt (this l hk) (Jt (V0 20002 hg.2.1) (!0))
   have fin:∀(b:Bool),(∀t∈l,(parN (inn b t) t.txN).length≤20002)∧∀(w:List Nat),Txt.join (S w) (l.map fun t=>S (parN (inn b t) t.txN))=S (TL.joinL w (Tr.txNs b l)):=fun b =>
    ⟨fun t mt=>by have:=(hf t mt).1;unfold parN;split<;>simp<;>omega,fun w=>by rw[←SX.join_S,zEc,Jy];rfl⟩
   cases b
   ·simp[zAe,zAG,opw,inP,eqF,-zBQ];refine zBg (fun r=>Gv (runR (r.then _)) (.str (S (Tr.op false l).txN))) (fun i σ st=>∃x,σ=[some (.p (.tup (P.str (Str.ofString "or")::l.map Tr.enc))),some (.p (.lst [P.str (Str.ofString "or")])),some (.r 0),x]∧st=[Cell.lst (((l.take i).map fun t=>P.str (S (parN (inn false t) t.txN))).map W.p)]) ⟨_,rfl,by simp⟩ ?_ ?_
    ·rintro i w σ st hw ⟨x,rfl,rfl⟩
     have hi:i<l.length:=by
      have:=(Ja.mp hw).1
      simpa using this
     obtain⟨u,hu⟩:∃u,l[i]?=some u:=⟨l[i],Jf hi⟩
     have hw2:w=.p u.enc:=by
      rw[Ji,hu]at hw;simpa using hw.symm
     subst hw2;have mu:u∈l:=Jn hu;have q:=hf u mu
     have tk:(l.take (i+1)).map (fun t=>P.str (S (parN (inn false t) t.txN)))=(l.take i).map (fun t=>P.str (S (parN (inn false t) t.txN)))++[P.str (S (parN (inn false u) u.txN))]:=by
      rw[List.take_succ,hu];simp
     have lt:((l.take i).map fun t=>P.str (S (parN (inn false t) t.txN))).length<1000000:=by simp;omega
     rw[tk];generalize (l.take i).map (fun t=>P.str (S (parN (inn false t) t.txN)))=M at lt ⊢
     have iw:=(zEZ u).2;have ix:=fun st=>u.ix0 st
     by_cases hx:inn false u=true
     ·have iw':=iw.mp hx
      conv=>arg 3;simp[ix,inP,eqF,iw'.symm,q.2,k_op,k_cl,S_cat,S_len,show 1+u.txN.length≤1000000 by omega,show u.txN.length≤999999 by omega,show u.txN.length≤999998 by omega,lt]
      exact⟨_,rfl,by simp[hx,parN]⟩
     ·have hn:¬Str.ofString "or" = u.word:=fun z=>hx (iw.mpr z)
      conv=>arg 3;simp[ix,inP,eqF,hn,q.2,lt]
      exact⟨_,rfl,by simp[hx,parN]⟩
    ·rintro σ st ⟨x,rfl,rfl⟩;rw[Jb,Y6];have j:=(fin false).2 ([32]++([111,114]++[32]));have lj:(l.map fun t=>S (parN (inn false t) t.txN)).length≤4:=by simp;omega
     have hsm:=hsum _ (fin false).1
     have hsm2:((l.map fun t=>S (parN (inn false t) t.txN)).map (·.length)).sum=(l.map fun t=>(parN (inn false t) t.txN).length).sum:=by
      rw[Jy];congr 1;try (apply VJ;intro t _;exact S_len _)
     have e1:(l.map fun t=>P.str (S (parN (inn false t) t.txN)))=(l.map fun t=>S (parN (inn false t) t.txN)).map P.str:=by rw[Jy];rfl
     rw[e1];have so:=zFM (l.map fun t=>S (parN (inn false t) t.txN))
     have fin2:(Tr.op false l).txN=TL.joinL ([32]++([111,114]++[32])) (Tr.txNs false l):=by rw[Tr.txN];try rfl
     rw[fin2,←j];generalize (l.map fun t=>S (parN (inn false t) t.txN))=YY at so lj hsm2 ⊢
     have sq:seqP [Cell.lst ((YY.map P.str).map W.p)] (.r 0)=some (YY.map P.str):=by
      unfold seqP unC;simp only[VI,zBI]
     generalize ((YY.map P.str).map W.p)=N at sq ⊢;generalize YY.map P.str=Z at sq so;have l5:YY.length*5≤20:=by omega
     simp[k_sp,k_or,k_nt,S_eq,S_cat,S_len,sq,so,-zPe,show(Str.ofString "and").length=3 by decide +kernel]
     omega
   ·simp[zAe,zAG,opw,inP,eqF,-zBQ];refine zBg (fun r=>Gv (runR (r.then _)) (.str (S (Tr.op true l).txN))) (fun i σ st=>∃x,σ=[some (.p (.tup (P.str (Str.ofString "and")::l.map Tr.enc))),some (.p (.lst [P.str (Str.ofString "and"),P.str (Str.ofString "or")])),some (.r 0),x]∧st=[Cell.lst (((l.take i).map fun t=>P.str (S (parN (inn true t) t.txN))).map W.p)]) ⟨_,rfl,by simp⟩ ?_ ?_
    ·rintro i w σ st hw ⟨x,rfl,rfl⟩
     have hi:i<l.length:=by
      have:=(Ja.mp hw).1
      simpa using this
     obtain⟨u,hu⟩:∃u,l[i]?=some u:=⟨l[i],Jf hi⟩
     have hw2:w=.p u.enc:=by
      rw[Ji,hu]at hw;simpa using hw.symm
     subst hw2;have mu:u∈l:=Jn hu;have q:=hf u mu
     have tk:(l.take (i+1)).map (fun t=>P.str (S (parN (inn true t) t.txN)))=(l.take i).map (fun t=>P.str (S (parN (inn true t) t.txN)))++[P.str (S (parN (inn true u) u.txN))]:=by
      rw[List.take_succ,hu];simp
     have lt:((l.take i).map fun t=>P.str (S (parN (inn true t) t.txN))).length<1000000:=by simp;omega
     rw[tk];generalize (l.take i).map (fun t=>P.str (S (parN (inn true t) t.txN)))=M at lt ⊢
     have iw:=(zEZ u).1;have ix:=fun st=>u.ix0 st
     by_cases hx:inn true u=true
     ·have iw':=iw.mp hx
      conv=>arg 3;simp[ix,inP,eqF,iw',q.2,k_op,k_cl,S_cat,S_len,show 1+u.txN.length≤1000000 by omega,show u.txN.length≤999999 by omega,show u.txN.length≤999998 by omega,lt]
      exact⟨_,rfl,by simp[hx,parN]⟩
     ·have hn:¬(Str.ofString "and" = u.word∨Str.ofString "or" = u.word):=fun z=>hx (iw.mpr z)
      conv=>arg 3;simp[ix,inP,eqF,hn,q.2,lt]
      exact⟨_,rfl,by simp[hx,parN]⟩
    ·rintro σ st ⟨x,rfl,rfl⟩;rw[Jb,Y6];have j:=(fin true).2 ([32]++([97,110,100]++[32]));have lj:(l.map fun t=>S (parN (inn true t) t.txN)).length≤4:=by simp;omega
     have hsm:=hsum _ (fin true).1
     have hsm2:((l.map fun t=>S (parN (inn true t) t.txN)).map (·.length)).sum=(l.map fun t=>(parN (inn true t) t.txN).length).sum:=by
      rw[Jy];congr 1;try (apply VJ;intro t _;exact S_len _)
     have e1:(l.map fun t=>P.str (S (parN (inn true t) t.txN)))=(l.map fun t=>S (parN (inn true t) t.txN)).map P.str:=by rw[Jy];rfl
     rw[e1];have so:=zFM (l.map fun t=>S (parN (inn true t) t.txN))
     have fin2:(Tr.op true l).txN=TL.joinL ([32]++([97,110,100]++[32])) (Tr.txNs true l):=by rw[Tr.txN];try rfl
     rw[fin2,←j];generalize (l.map fun t=>S (parN (inn true t) t.txN))=YY at so lj hsm2 ⊢
     have sq:seqP [Cell.lst ((YY.map P.str).map W.p)] (.r 0)=some (YY.map P.str):=by
      unfold seqP unC;simp only[VI,zBI]
     generalize ((YY.map P.str).map W.p)=N at sq ⊢;generalize YY.map P.str=Z at sq so;have l5:YY.length*5≤20:=by omega
     simp[k_sp,zI8,k_nt,S_eq,S_cat,S_len,sq,so,-zPe,show(Str.ofString "and").length=3 by decide +kernel]
     omega
section
open Y YZ NS
def zCG:FM:=runF 1 3 (sSeq (sSet 1 (zLz (mVar 0)))
  (sRet (mLc (mSrc (mVar 0)) (.nm 2) [2] mYes (mBm "list" zGT (mVar 1) %[(mVar 2)|0]) finP)))
mutual
theorem zPj:∀a b:NestedKey,PyData.eqv a.data b.data=true↔a=b
 | .none,.none=>by simp[NestedKey.data,PyData.eqv]
 | .num i,.num j=>by simp[NestedKey.data,PyData.eqv]
 | .text x,.text y=>by simp[NestedKey.data,PyData.eqv]
 | .tup ks,.tup ls=>by
  simp only[NestedKey.data,PyData.eqv,zNi ks ls,NestedKey.tup.injEq]
 | .none,.num _=>by simp[NestedKey.data,PyData.eqv]
 | .none,.text _=>by simp[NestedKey.data,PyData.eqv]
 | .none,.tup _=>by simp[NestedKey.data,PyData.eqv]
 | .num _,.none=>by simp[NestedKey.data,PyData.eqv]
 | .num _,.text _=>by simp[NestedKey.data,PyData.eqv]
 | .num _,.tup _=>by simp[NestedKey.data,PyData.eqv]
 | .text _,.none=>by simp[NestedKey.data,PyData.eqv]
 | .text _,.num _=>by simp[NestedKey.data,PyData.eqv]
 | .text _,.tup _=>by simp[NestedKey.data,PyData.eqv]
 | .tup _,.none=>by simp[NestedKey.data,PyData.eqv]
 | .tup _,.num _=>by simp[NestedKey.data,PyData.eqv]
 | .tup _,.text _=>by simp[NestedKey.data,PyData.eqv]
theorem zNi:∀ks ls:List NestedKey,PyData.eqvAll (NestedKey.datas ks) (NestedKey.datas ls)=true↔ks=ls
 |[],[]=>by simp[NestedKey.datas,PyData.eqvAll]
 |[],_::_=>by simp[NestedKey.datas,PyData.eqvAll]
 |_::_,[]=>by simp[NestedKey.datas,PyData.eqvAll]
 |k::ks,l::ls=>by
  simp only[NestedKey.datas,PyData.eqvAll,Jj,zPj k l,zNi ks ls,List.cons.injEq]
end
structure Kys (l:List P):Prop where
 ok:∀x∈l,nkT x=some (nkOf x)
 few:l.length<64
 srt:zNP l=true
 lay:∀x∈l,(nkOf x).data.canLay0=true
theorem Kys.set{l:List P} (h:Kys l):setOk l=true:=by
 unfold setOk;rw[Jj,JR];exact⟨Jp.mpr fun x hx=>by rw[h.ok x hx];rfl,h.few⟩
def ord(l:List P):List P:=srtD (ddK l)
theorem zGb{l:List P}{x:P} (h:x∈ord l):x∈l:=zJZ l x ((V4 _ _).mem_iff.mp h)
theorem ord_nd(l:List P):((ord l).map nkOf).Nodup:=((V4 _ _).map nkOf).nodup_iff.mpr (zLj l)
theorem zQN{l:List P}{x:P} (h:x∈l):nkOf x∈(ord l).map nkOf:=((V4 _ _).map nkOf).mem_iff.mpr (zI7 l x h)
def pos(l:List P) (x:P):Nat:=(ord l).findIdx fun y=>decide (nkOf y=nkOf x)
theorem zKA{l:List P}{x:P} (h:x∈l):pos l x<(ord l).length:=by
 obtain⟨y,hy,e⟩:=Jx.mp (zQN h);exact Ye ⟨y,hy,JO e⟩
theorem nk_eq{l:List P} (h:Kys l){x y:P} (hx:x∈l) (hy:y∈l) (e:nkOf x=nkOf y):x=y:=by
 obtain⟨_,_,e1,_⟩:=zGi (h.ok x hx);obtain⟨_,_,e2,_⟩:=zGi (h.ok y hy);rw[e]at e1;exact zMd e1 e2
theorem zMm{l:List P} (h:Kys l){x:P} (hx:x∈l):(ord l)[pos l x]?=some x:=by
 have hl:=zKA hx;rw[Jf hl];have e:=List.findIdx_getElem (w:=hl);rw[nk_eq h (zGb (Vg hl)) hx (Jv e)]
theorem pos_of{l:List P} (h:Kys l){j:Nat} (hj:j<(ord l).length):∃x∈l,pos l x=j:=by
 refine⟨(ord l)[j],zGb (Vg hj),?_⟩;have hx:=zGb (Vg hj);have e:=zMm h hx;have hl:=zKA hx;have nd:=ord_nd l
 have e1:((ord l).map nkOf)[pos l (ord l)[j]]?=((ord l).map nkOf)[j]?:=by
  rw[Ji,Ji,e,Jf hj]
 exact(List.getElem?_inj (by rw[Jb];exact hl) nd).mp e1
theorem zQ7{l:List P} (h:Kys l){x y:P} (hx:x∈l) (hy:y∈l) (e:pos l x=pos l y):x=y:=by
 have a:=zMm h hx;rw[e,zMm h hy]at a;exact(Jd a).symm
theorem zIu:∀ {l:List P},(∀x∈l,nkT x=some (nkOf x))→toDs l=some (l.map fun x=>(nkOf x).data)
 |[],_=>by rw[toDs];rfl
 |x::l,h=>by
  obtain⟨_,_,e,_⟩:=zGi (h x Jc);rw[toDs,zMx e,zIu fun y hy=>h y (Jg _ hy)]
  rfl
theorem zEf:∀ {l:List P},(∀x∈l,(nkOf x).data.canLay0=true)→PyData.canLayAll0 (l.map fun x=>(nkOf x).data)=true
 |[],_=>rfl
 |x::l,h=>by
  rw[Jk,PyData.canLayAll0,Jj];exact⟨h x Jc,zEf fun y hy=>h y (Jg _ hy)⟩
mutual
theorem zHj:∀k:NestedKey,k.data.depth=k.depth
 | .none=>by rw[NestedKey.data,PyData.depth,NestedKey.depth]
 | .num _=>by rw[NestedKey.data,PyData.depth,NestedKey.depth]
 | .text _=>by rw[NestedKey.data,PyData.depth,NestedKey.depth]
 | .tup ks=>by rw[NestedKey.data,PyData.depth,NestedKey.depth,zIK ks]
theorem zIK:∀ks:List NestedKey,PyData.depthAll (NestedKey.datas ks)=NestedKey.depthAll ks
 |[]=>by rw[NestedKey.datas,PyData.depthAll,NestedKey.depthAll]
 |k::ks=>by rw[NestedKey.datas,PyData.depthAll,NestedKey.depthAll,zHj k,zIK ks]
end
theorem zFB:∀ {l:List P},(∀x∈l,nkT x=some (nkOf x))→PyData.depthAll (l.map fun x=>(nkOf x).data)≤8
 |[],_=>by rw[Vs,PyData.depthAll];omega
 |x::l,h=>by
  obtain⟨_,_,_,d⟩:=zGi (h x Jc)
  have:=zFB fun y hy=>h y (Jg _ hy)
  rw[Jk,PyData.depthAll,zHj];omega
theorem zKt{l:List P} (h:Kys l){x:P} (hx:x∈l){w:W}{st:List Cell} (e:listOf st w=some (ord l)):zGT w [.p x] st=.ok (.p (.int (pos l x:Nat))) st:=by
 have ho:∀y∈ord l,nkT y=some (nkOf y):=fun y hy=>h.ok y (zGb hy)
 obtain⟨_,_,e1,d1⟩:=zGi (h.ok x hx);unfold zGT;simp only[e,zIu ho,zMx e1]
 have sh:(SeqAt.shaped (.list ((ord l).map fun x=>(nkOf x).data))&&SeqAt.shaped (nkOf x).data)=true:=by
  rw[Jj];refine⟨?_,?_⟩
  ·unfold SeqAt.shaped;rw[Jj,JR,PyData.canLay0,PyData.depth];exact⟨zEf fun y hy=>h.lay y (zGb hy),by have:=zFB ho;omega⟩
  ·unfold SeqAt.shaped;rw[Jj,JR,zHj];exact⟨h.lay x hx,∅⟩
 have fi:((ord l).map fun x=>(nkOf x).data).findIdx? (fun z=>PyData.eqv z (nkOf x).data)=some (pos l x):=by
  rw[List.findIdx?_map]
  have ef:((fun z=>PyData.eqv z (nkOf x).data)∘fun x:P=>(nkOf x).data)=fun y=>decide (nkOf y=nkOf x):=by
   funext y
   rw[bj,decide_eq_true_iff];exact zPj _ _
  rw[ef,List.findIdx?_eq_some_iff_findIdx_eq];exact⟨zKA hx,rfl⟩
 unfold ixD;rw[Jm sh,fi]
theorem zFd{l:List P} (h:Kys l) (st:List Cell):zAP zCG [.p (.lst l)] st=.ok (.p (.lst ((l.map fun x=>((pos l x:Nat):Int)).map P.int))) st:=by
 refine Pu.call1 (Pu.of1 ?_) st;have v:=fun st=>zIP (st:=st) (w:=.p (.lst l)) rfl h.set h.srt
 have lim:l.length≤1000000:=by have:=h.few;omega
 have L:=zD8 (f:=W.p) (l:=l) (t:=.nm 2) (e:=mBm "list" zGT (mVar 1) %[(mVar 2)|0]) (σ0:=[some (.p (.lst l)),some (.p (.lst (ord l))),none]) (st:=[]) (fun x=>P.int (pos l x:Nat)) fun x hx=>by
  refine⟨_,zBq _ _,?_⟩;have ix:=zKt h hx (w:=.p (.lst (ord l))) (st:=[]) rfl;have tw:tyW [] (W.p (P.lst (ord l)))=some "list" := rfl;simp[ix,tw]
 have e:(l.map fun x=>P.int (pos l x:Nat))=(l.map fun x=>((pos l x:Nat):Int)).map P.int:=by rw[Jy];rfl
 rw[e]at L;have vo:srtD (ddK l)=ord l:=rfl;rw[vo]at v;simp[zCG,zAG,v,lim,L]
end
section
open Y YZ
abbrev Arcs:=List (Int×Int)
inductive Rch (A:Arcs) (a:Int):Int→Prop
 |refl:Rch A a a
 |step {b c:Int}:Rch A a b→(b,c)∈A→Rch A a c
theorem Rch.trans{A:Arcs}{a b c:Int} (h:Rch A a b) (k:Rch A b c):Rch A a c:=by
 induction k with
 |refl=>exact h
 |step _ m ih=>exact .step ih m
theorem Rch.mono{A B:Arcs} (s:∀q∈A,q∈B){a b:Int} (h:Rch A a b):Rch B a b:=by
 induction h with
 |refl=>exact .refl
 |step _ m ih=>exact .step ih (s _ m)
def swp(q:Int×Int):Int×Int:=(q.2,q.1)
theorem Rch.back{A:Arcs}{a b:Int} (h:Rch A a b):Rch (A.map swp) b a:=by
 induction h with
 |refl=>exact .refl
 |@step b c _ m ih=>exact Rch.trans (.step .refl (Jx.mpr ⟨(b,c),m,rfl⟩)) ih
def InN(n:Nat) (A:Arcs):Prop:=∀q∈A,0≤q.1∧q.1<n∧0≤q.2∧q.2<n
def Conn(n:Nat) (A:Arcs):Prop:=∀a b:Int,0≤a→a<n→0≤b→b<n→Rch A a b
theorem Conn.mono{n:Nat}{A B:Arcs} (h:Conn n A) (s:∀q∈A,q∈B):Conn n B:=fun a b a0 a1 b0 b1=>(h a b a0 a1 b0 b1).mono s
theorem zGs{α:Type} [DecidableEq α]:∀(l D:List α),l.Nodup→(∀x∈l,x∈D)→l.length≤D.length
 |[],_,_,_=>JI _
 |x::l,D,hn,hs=>by
  obtain⟨h1,h2⟩:=Vb.mp hn;have hx:x∈D:=hs x Jc
  have ih:=zGs l (D.erase x) h2 fun y hy=>by
   have hne:y≠x:=fun e=>h1 (e▸hy)
   exact(List.mem_erase_of_ne hne).2 (hs y (Jg _ hy))
  have e:=List.length_erase_of_mem hx
  have:=List.length_pos_of_mem hx
  rw[JJ];omega
end
section
open Y YZ
def Gc(v:P) (c:Cell) (r:Res W):Prop:=match r with
 | .ok (.p x) (d::_)=>x=v∧d=c
 |_=>False
@[simp]theorem Gc_ok(v x:P) (c d:Cell) (l:List Cell):Gc v c (.ok (.p x) (d::l))=(x=v∧d=c):=rfl
theorem Gc.ex{v:P}{c:Cell}{r:Res W} (h:Gc v c r):∃l,r=.ok (.p v) (c::l):=by
 unfold Gc at h;split at h
 ·obtain⟨rfl,rfl⟩:=h;exact⟨_,rfl⟩
 ·exact h.elim
theorem zOU{α:Type}{l:List α}{i:Nat}{c:α} (h:l[i]?=some c):l.set i c=l:=by
 obtain⟨hi,e⟩:=Ja.mp h;rw[←e];exact List.set_getElem_self hi
theorem Gc.call{F:FM}{ws ws':List W}{v:P}{c:Cell}{st:List Cell}{i:Nat} (e1:zAU ws=[i]) (e2:zC9 0 ws=ws') (h:Gc v c (F ws' [c])) (hp:zBS c=true) (hi:st[i]?=some c):zAP F ws st=.ok (.p v) st:=by
 obtain⟨l,e⟩:=h.ex;unfold zAP;rw[e1,Jm (by simp),e2]
 simp[Y.getCells,hi,hp,e,Y.callEnd,Y.putCells,zOU hi]
theorem Gc.call3{F:FM}{x y v:P}{c:Cell}{st:List Cell}{i:Nat} (h:Gc v c (F [.p x,.r 0,.p y] [c])) (hp:zBS c=true) (hi:st[i]?=some c):zAP F [.p x,.r i,.p y] st=.ok (.p v) st:=Gc.call rfl rfl h hp hi
theorem Gc.call2{F:FM}{x v:P}{c:Cell}{st:List Cell}{i:Nat} (h:Gc v c (F [.p x,.r 0] [c])) (hp:zBS c=true) (hi:st[i]?=some c):zAP F [.p x,.r i] st=.ok (.p v) st:=Gc.call rfl rfl h hp hi
end
section
open Y YZ
def sOf(l:List Nat):Str:=⟨l.toArray⟩
def chP(c:Nat):P:=.str ⟨#[c]⟩
structure Wb (s:Str) (A:Arcs):Prop where
 n0:0<s.length
 ch:∀c∈s.cps.toList,c=97∨c=98∨c=99∨c=109
 inn:InN s.length A
 cn:Conn s.length A
def wP(s:Str) (A:Arcs):P:=.tup [.str s,.lst (A.map tupP)]
def okC(c:Nat):Prop:=c=97∨c=98∨c=99∨c=109
end
section
open Y YZ
def nxt(n i:Nat):Int:=Int.ofNat ((i+1)%n)
@[simp]theorem vMulS_e(a:Str) (k:Int) (st:List Cell):zCP (.p (.str a)) (.p (.int k)) st=if 0≤k∧k≤1000∧a.length≤1000 then .ok (.p (.str (zBj a k.toNat))) st else .no:=rfl
end
section
open Y YZ
def LtS(s:Str):Prop:=0<s.length∧s.length≤30∧∀c∈s.cps.toList,okC c
theorem Wb.lt{s:Str}{A:Arcs} (h:Wb s A) (hs:s.length≤30):LtS s:=⟨h.n0,hs,h.ch⟩
def srcs(A:Arcs) (v:Int):List Int:=(A.filter fun q=>decide (q.2=v)).map (·.1)
theorem InN.small{n:Nat}{A:Arcs} (h:InN n A) (hn:n≤900):∀q∈A,zPV q:=fun q hq=>by
 obtain⟨a,b,c,d⟩:=h q hq;exact⟨a,∅,c,∅⟩
end
section
open Y YZ
def okb(c:Nat):Bool:=c==97||c==98||c==99||c==109
def letB(s:Str):Bool:=decide (1≤s.length)&&decide (s.length≤30)&&s.cps.all okb
theorem LtS.of{s:Str} (h:letB s=true):LtS s:=by
 unfold letB at h;rw[Jj,Jj,JR,JR]at h;obtain⟨⟨h1,h2⟩,h3⟩:=h;refine⟨h1,h2,fun c hc=>?_⟩
 rw[Array.all_eq_true']at h3;have h4:=h3 c (by simpa using hc)
 unfold okb at h4;unfold okC;simp at h4;omega
end
section
open Y YZ
abbrev AZ:=List ((Int×Int)×Int)
def kys(L:Arcs):List Key:=L.map fun q=>.inl q.1
end
section
open Y YZ
theorem fi(v:Int):∀ {o:List Int},v∈o→o.findIdx? (· == v)=some (o.idxOf v)
 |x::l,h=>by
  rw[List.findIdx?_cons,List.idxOf_cons]
  by_cases e:x=v
  ·subst e;simp
  ·have hv:v∈l:=(Jr.mp h).resolve_left fun z=>e z.symm
   have e2:(x==v)=false:=by simpa using e
   rw[e2,fi v hv];simp
def ix(o:List Int) (v:Int):Nat:=o.idxOf v
def gt(s:Str) (v:Int):Nat:=s.cps.toList.getD v.toNat 0
def mv(o:List Int) (s:Str):Str:=sOf (o.map (gt s))
def mQ(o:List Int) (q:Int×Int):Int×Int:=((ix o q.1:Nat),(ix o q.2:Nat))
def mA(o:List Int) (A:Arcs):Arcs:=A.map (mQ o)
theorem zKI{o:List Int}{v:Int} (h:v∈o) (st:List Cell):zI3 (.p (.lst (o.map P.int))) [.p (.int v)] st=.ok (.p (.int (ix o v:Nat))) st:=by
 unfold zI3;rw[show(listOf st (.p (.lst (o.map P.int)))).bind intsOf=some o by rw[zHS,V2,zEX]]
 simp only[fi v h];rfl
def bk(n:Nat) (o:List Int):List Int:=(List.range n).map fun(i:Nat)=>((ix o (i:Int):Nat):Int)
end
section
open Y YZ
inductive Pw (Z:AZ) (u:Int):Int→Int→Prop
 |nil:Pw Z u u 0
 |step {v w x z:Int}:Pw Z u v x→((v,w),z)∈Z→Pw Z u w (x+z)
theorem Pw.trans{Z:AZ}{u v w x y:Int} (h:Pw Z u v x) (k:Pw Z v w y):Pw Z u w (x+y):=by
 induction k with
 |nil=>rw[Int.add_zero];exact h
 |@step a b y z _ m ih =>
  rw[show x+(y+z)=(x+y)+z by omega]
  exact .step ih m
theorem Rch.pw{Z:AZ}{A:Arcs} (hA:A=Z.map Prod.fst){u v:Int} (h:Rch A u v):∃x,Pw Z u v x:=by
 induction h with
 |refl=>exact⟨0,.nil⟩
 |step _ m ih =>
  obtain⟨x,hx⟩:=ih;rw[hA]at m;obtain⟨⟨⟨a,b⟩,z⟩,hm,e⟩:=Jx.mp m;cases e;exact⟨_,.step hx hm⟩
def nd(k:Nat) (v i:Int):Int:=v*k+i
def Lp(k:Nat) (Z:AZ) (x:Int):Prop:=∃y,Pw Z 0 0 y∧(k:Int)∣x-y
theorem Lp.zero(k:Nat) (Z:AZ):Lp k Z 0:=⟨0,.nil,⟨0,by simp⟩⟩
end
section
open Y YZ
abbrev Tri:=Int×Int×Int
def gT(k:Nat) (x:Tri):Int×Int:=(nd k x.1 0,nd k x.2.1 x.2.2)
def hT(k:Nat) (q:Int×Int):Tri:=(q.1/k,q.2/k,q.2%k)
end
section
open Y YZ
def zDg:FM:=runF 2 3 (sRet (zAJ vLen %[(mLc (mSrc (mBin vIx (mVar 0) (mC (.int 1)))) (.nm 2) [2] (mTst (mBin (vEqB false) (mBin vIx (mVar 2) (mC (.int 0))) (mVar 1))) (mVar 2) finP)|0]))
def zCK:FM:=runF 2 4 (sSeq (sSet 2 (mBin (vInB false) (mVar 1) (mLst %[(mC (.str "counted")),(mC (.str "marked"))|0])))
  (sRet (mLc (zEs (zAJ vLen %[(mBin vIx (mVar 0) (mC (.int 0)))|0])) (.nm 3) [3] mYes (mTup %[(mBin vIx (mBin vIx (mVar 0) (mC (.int 0))) (mVar 3)),(mIfE (mTru (mVar 2)) (zAH zDg %[(mVar 0),(mVar 3)|0]) (mC (.int 0)))|0]) finP)))
def zDL:FM:=runF 2 4 (sRet (zAJ zEN %[(mLc (mSrc (mBin vIx (mVar 0) (mC (.int 1)))) (.tp [(.nm 2),(.nm 3)]) [2,3] (mTst (mBin (vEqB false) (mVar 3) (mVar 1))) (mVar 2) finP)|0]))
def outs(A:Arcs) (v:Int):Nat:=(A.filter fun q=>decide (q.1=v)).length
theorem zQL(A:Arcs) (v:Int) (x0:Option W) (st:List Cell) :
  lcL (.nm 2) (mTst (mBin (vEqB false) (mBin vIx (mVar 2) (mC (.int 0))) (mVar 1))) (mVar 2) [x0,some (.p (.int v)),none] (A.map (W.p∘tupP)) st=.ok (((A.filter fun q=>decide (q.1=v)).map tupP).map W.p) st:=by
 refine zNH (fun q=>decide (q.1=v)) tupP fun q hq=>⟨_,zBq _ _,?_,fun _=>?_⟩
 ·simp[tupP];rfl
 ·simp[tupP]
def kn:Wy→Bool
 | .counted=>true
 | .marked=>true
 |_=>false
def mk(w:Wy) (s:Str) (A:Arcs) (v:Nat):P:=.tup [match s.cps.toList[v]? with|some c=>.str ⟨#[c]⟩|none=>.non,.int (if kn w=true then outs A v else 0)]
theorem zFc{s:Str}{A:Arcs} (hA:∀q∈A,zPV q) (hl:A.length≤1000) (v:Int) (st:List Cell):zAP zDL [.p (wP s A),.p (.int v)] st=.ok (.p (.lst ((sortI (srcs A v)).map P.int))) st:=by
 refine Pu.call2 (Pu.of2 ?_) st
 have L:=zNH (f:=W.p∘tupP) (l:=A) (t:=.tp [(.nm 2),(.nm 3)]) (c:=mTst (mBin (vEqB false) (mVar 3) (mVar 1))) (e:=mVar 2) (σ0:=[some (.p (wP s A)),some (.p (.int v)),none,none]) (st:=[]) (fun q=>decide (q.2=v)) (fun q=>P.int q.1) fun q hq=>by
  obtain⟨a,b⟩:=q;refine⟨[some (.p (wP s A)),some (.p (.int v)),some (.p (.int a)),some (.p (.int b))],?_,?_,fun _=>?_⟩
  ·simp[tupP]
  ·simp;rfl
  ·simp
 have e:(A.filter fun q=>decide (q.2=v)).map (fun q=>P.int q.1)=(srcs A v).map P.int:=by unfold srcs;rw[Jy];rfl
 rw[e]at L
 have ll:(srcs A v).length≤1000:=by
  unfold srcs;rw[Jb];exact Jt (Va _ _) hl
 have w1:∀st,vIx (.p (wP s A)) (.p (.int 1)) st=.ok (.p (.lst (A.map tupP))) st:=fun st=>by simp[wP]
 simp[zDL,zAG,w1,show A.length≤1000000 by omega,L,show(srcs A v).length≤1000000 by omega,zIs]
end
section
open Y YZ NS
def mkP(q:Nat×Int):P:=.tup [chP q.1,.int q.2]
theorem mkP_nk(q:Nat×Int):nkT (mkP q)=some (nkOf (mkP q)):=by
 simp[nkOf,nkT,mkP,chP,nkP,nkPs,NestedKey.depth,NestedKey.depthAll]
def nxP(q:Int×List Int):P:=.tup [.int q.1,.tup (q.2.map P.int)]
theorem zG6:∀l:List Int,nkPs (l.map P.int)=some (l.map NestedKey.num)
 |[]=>by rw[Vs,nkPs];rfl
 |x::l=>by rw[Jk,nkPs,nkP,zG6 l];rfl
theorem zFL:∀l:List Int,NestedKey.depthAll (l.map NestedKey.num)=0
 |[]=>by rw[Vs,NestedKey.depthAll]
 |x::l=>by rw[Jk,NestedKey.depthAll,NestedKey.depth,zFL l];rfl
theorem nxP_nk(q:Int×List Int):nkT (nxP q)=some (nkOf (nxP q)):=by
 simp[nkOf,nkT,nxP,nkP,nkPs,zG6,NestedKey.depth,NestedKey.depthAll,zFL]
def zEx:FM:=runF 2 5 (sSeq (sSet 2 (zCs mNil))
  (sSeq (sFor (zEs (zAJ vLen %[(mBin vIx (mVar 0) (mC (.int 0)))|0])) (.nm 3) (zEG (mBm "list" zBm (mVar 2) %[(mTup %[(mBin vIx (mVar 1) (mVar 3)),(zAJ zCI %[(zAJ zEN %[(mLc (mSrc (zAH zDL %[(mVar 0),(mVar 3)|0])) (.nm 4) [4] mYes (mBin vIx (mVar 1) (mVar 4)) finP)|0])|0])|0])|0])))
  (sRet (zAH zCG %[(mVar 2)|0]))))
def zC1:FM:=runF 2 4 (sSeq (sSet 2 (zCs %[(zAH zCG %[(zAH zCK %[(mVar 0),(mVar 1)|0])|0])|0]))
  (sSeq (zDa 1000 (mTst (mBin vLe (zAJ vLen %[(mVar 2)|0]) (zAJ vLen %[(mBin vIx (mVar 0) (mC (.int 0)))|0]))) (sSeq (sSet 3 (zAH zEx %[(mVar 0),(mBin vIx (mVar 2) (mNeg (mC (.int 1))))|0]))
  (sSeq (sIf (mTst (mBin (vEqB false) (zAJ zHe %[(mVar 3)|0]) (zAJ zHe %[(mBin vIx (mVar 2) (mNeg (mC (.int 1))))|0]))) sBrk sNx)
  (zEG (mBm "list" zBm (mVar 2) %[(mVar 3)|0])))))
  (sRet (mFrz (mVar 2)))))
theorem mkP_d(q:Nat×Int):toD (mkP q)=some (.tuple [.str ⟨#[q.1]⟩,.int q.2]):=by simp[mkP,chP,toD,toDs]
theorem mk_kys{l:List (Nat×Int)} (hc:∀q∈l,okC q.1) (hl:l.length<64):Kys (l.map mkP) where
 ok:=fun x hx=>by
  obtain⟨q,_,rfl⟩:=Jx.mp hx;exact mkP_nk q
 few:=by rw[Jb];exact hl
 srt:=zKM mkP_d (fun a b=>by simp[PySem.W.alike,PySem.W.alikeAll]) (fun a=>rfl) (fun a=>by simp[PyData.depth,PyData.depthAll]) l
 lay:=fun x hx=>by
  obtain⟨q,hq,rfl⟩:=Jx.mp hx;have e:(nkOf (mkP q)).data=.tuple [.str ⟨#[q.1]⟩,.int q.2]:=by simp[nkOf,nkT,mkP,chP,nkP,nkPs,NestedKey.depth,NestedKey.depthAll,NestedKey.data,NestedKey.datas]
  rw[e]
  have:=hc q hq
  simp only[PyData.canLay0,PyData.canLayAll0,Bool.and_true];rcases this with h|h|h|h<;>rw[h]<;>simp[PyData.strOk]
theorem zMN:∀l:List Int,toDs (l.map P.int)=some (l.map PyData.int):=fun l=>zJf (fun a=>by simp[toD]) l
def nxD(q:Int×List Int):PyData:=.tuple [.int q.1,.tuple (q.2.map .int)]
theorem nxP_d(q:Int×List Int):toD (nxP q)=some (nxD q):=by
 simp[nxP,nxD,toD,toDs,zMN]
theorem zHT:∀l:List Int,NestedKey.datas (l.map NestedKey.num)=l.map PyData.int
 |[]=>by rw[Vs,NestedKey.datas];rfl
 |x::l=>by rw[Jk,NestedKey.datas,NestedKey.data,zHT l];rfl
theorem zGm:∀l:List Int,PyData.canLayAll0 (l.map PyData.int)=true
 |[]=>rfl
 |x::l=>by rw[Jk,PyData.canLayAll0,PyData.canLay0,zGm l];rfl
theorem zPT{l:List (Int×List Int)} (hl:l.length<64):Kys (l.map nxP) where
 ok:=fun x hx=>by
  obtain⟨q,_,rfl⟩:=Jx.mp hx;exact nxP_nk q
 few:=by rw[Jb];exact hl
 srt:=zKM nxP_d (fun a b=>by simp[nxD,PySem.W.alike,PySem.W.alikeAll,PySem.W.alike_ints]) (fun a=>rfl) (fun a=>by simp[nxD,PyData.depth,PyData.depthAll,PySem.W.depth_ints]) l
 lay:=fun x hx=>by
  obtain⟨q,hq,rfl⟩:=Jx.mp hx;have e:(nkOf (nxP q)).data=nxD q:=by simp[nkOf,nkT,nxP,nxD,nkP,nkPs,zG6,NestedKey.depth,NestedKey.depthAll,zFL,NestedKey.data,NestedKey.datas,zHT]
  rw[e];simp[nxD,PyData.canLay0,PyData.canLayAll0,zGm]
structure Nums (n m:Nat) (N:List Int):Prop where
 len:N.length=n
 bd:∀x∈N,0≤x∧x<m
 all:∀j:Nat,j<m→(j:Int)∈N
theorem zNX{l:List P} (h:Kys l):Nums l.length (ord l).length (l.map fun x=>((pos l x:Nat):Int)) where
 len:=by rw[Jb]
 bd:=fun x hx=>by
  obtain⟨y,hy,rfl⟩:=Jx.mp hx
  have:=zKA hy
  omega
 all:=fun j hj=>by
  obtain⟨x,hx,e⟩:=pos_of h hj;exact Jx.mpr ⟨x,hx,by rw[e]⟩
theorem Nums.pos{n m:Nat}{N:List Int} (h:Nums n m N) (hn:0<n):0<m:=by
 obtain⟨x,hx⟩:∃x,x∈N:=by
  cases N with
  |nil=>have:=h.len;simp at this;omega
  |cons a N=>exact⟨a,Jc⟩
 have:=h.bd x hx
 omega
theorem zM2:∀ {N:List Int}{m:Int},(∀x∈N,x≤m)→m∈N→maxI N=m
 |[],m,_,h=>by cases h
 |[a],m,_,h=>by rw[Vc.mp h];rfl
 |a::b::N,m,hb,h=>by
  have ha:=hb a Jc;show max a (maxI (b::N))=m;rcases Jr.mp h with e|h
  ·have:∀ {N:List Int},N≠[]→(∀x∈N,x≤m)→maxI N≤m:=by
    intro N
    induction N with
    |nil=>intro h;exact absurd rfl h
    |cons c N ih =>
     intro _ hN;cases N with
     |nil=>exact hN c Jc
     |cons d N =>
      show max c (maxI (d::N))≤m
      have:=ih (by simp) fun x hx=>hN x (Jg _ hx)
      have:=hN c Jc
      omega
   have:=this (N:=b::N) (by simp) fun x hx=>hb x (Jg _ hx)
   omega
  ·rw[zM2 (fun x hx=>hb x (Jg _ hx)) h]
   omega
theorem Nums.max{n m:Nat}{N:List Int} (h:Nums n m N) (hn:0<n):maxI N=(m:Int)-1:=by
 have hm:=h.pos hn;refine zM2 (fun x hx=>by have:=h.bd x hx;omega) ?_
 have:=h.all (m-1) ∅
 rwa [show((m-1:Nat):Int)=(m:Int)-1 by omega]at this
theorem zJC{l:List P} (h:Kys l) (i:Nat) (st:List Cell) (hi:st[i]?=some (.lst (l.map W.p))):zAP zCG [.r i] st=.ok (.p (.lst ((l.map fun x=>((pos l x:Nat):Int)).map P.int))) st:=by
 refine Gc.call rfl rfl (ws':=[.r 0]) ?_ ?_ hi
 ·have v:=zIP (st:=[.lst (l.map W.p)]) (w:=.r 0) (l:=l) (by simp) h.set h.srt
  have lim:l.length≤1000000:=by have:=h.few;omega
  have vo:srtD (ddK l)=ord l:=rfl;rw[vo]at v
  have L:=lcC_fl (f:=W.p) (l:=l) (t:=.nm 2) (vs:=[2]) (c:=mYes) (e:=mBm "list" zGT (mVar 1) %[(mVar 2)|0]) (fin:=finP) (j:=0) (m:=l.length) (σ:=[some (.r 0),some (.p (.lst (ord l))),none]) (st:=[.lst (l.map W.p)]) (fun _=>true) (fun x=>P.int (pos l x:Nat)) rfl rfl lim fun x hx=>by
   refine⟨_,zBq _ _,rfl,fun _=>?_⟩
   have ix:=zKt h hx (w:=.p (.lst (ord l))) (st:=[.lst (l.map W.p)]) rfl;have tw:tyW [.lst (l.map W.p)] (W.p (P.lst (ord l)))=some "list" := rfl;simp[ix,tw]
  have e:(l.filter fun _=>true).map (fun x=>P.int (pos l x:Nat))=(l.map fun x=>((pos l x:Nat):Int)).map P.int:=by
   rw[List.filter_eq_self.mpr (fun _ _=>rfl),Jy];rfl
  rw[e]at L;simp[zCG,zAG,v,lim,L]
 ·show(pures (l.map W.p)).isSome=true;rw[zBI];rfl
def at0(N:List Int) (v:Int):Int:=(N[v.toNat]?).getD 0
def nxt1(A:Arcs) (N:List Int) (v:Nat):Int×List Int:=(at0 N v,sortI ((sortI (srcs A v)).map (at0 N)))
theorem zMq{n m:Nat}{N:List Int} (h:Nums n m N){v:Int} (v0:0≤v) (v1:v<n):L2.atI (N.map P.int) v=some (.int (at0 N v)):=by
 have hl:=h.len;rw[YZ.atI_nat v0,Ji];obtain⟨x,hx⟩:∃x,N[v.toNat]?=some x:=⟨_,Jf ∅⟩;unfold at0;rw[hx];rfl
theorem zM6{n:Nat}{A:Arcs} (hA:InN n A) (v:Int):∀x∈srcs A v,0≤x∧x<n:=fun x hx=>by
 obtain⟨q,hq,rfl⟩:=Jx.mp hx;obtain⟨a,b,_,_⟩:=hA q (List.mem_filter.mp hq).1;exact⟨a,b⟩
theorem zRB{w:Wy}{s:Str}{A:Arcs}:(List.range s.length).map (mk w s A)=((List.range s.length).map fun(v:Nat)=>((s.cps.toList[v]?).getD 0,(if kn w=true then(outs A v:Int)else 0))).map mkP:=by
 rw[Jy];refine VJ fun v hv=>?_
 have hv:v<s.cps.toList.length:=Vj.mp hv;have hx:=Jf hv;show mk w s A v=mkP ((s.cps.toList[v]?).getD 0,_);unfold mk mkP;simp only[hx,Y9];rfl
theorem zIa{w:Wy}{s:Str}{A:Arcs} (hW:Wb s A) (hs:s.length<64):Kys ((List.range s.length).map (mk w s A)):=by
 rw[zRB];refine mk_kys (fun q hq=>?_) (by rw[Jb,Vu];exact hs)
 obtain⟨v,hv,rfl⟩:=Jx.mp hq;have hv:v<s.cps.toList.length:=Vj.mp hv;rw[Jf hv];exact hW.ch _ (Vg hv)
theorem atI_last{α:Type} (l:List α) (x:α):L2.atI (l++[x]) (-1)=some x:=by
 unfold L2.atI L2.ixN;have e:(-1+((l.length:Int)+1)).toNat=l.length:=by omega
 simp[e,show(1:Int)≤(l.length:Int)+1 by omega]
def rndV(Ls:List (List Int)) (N:List Int):P:=.lst ((Ls++[N]).map fun N=>.lst (N.map P.int))
end
section
open Y YZ NS
def zEq:FM:=runF 2 10 (sSeq (sPut (.tp [(.nm 2),(.nm 3)]) (mTup %[(mBin vIx (zAH zC1 %[(mVar 0),(mVar 1)|0]) (mNeg (mC (.int 1)))),(zAH zCK %[(mVar 0),(mVar 1)|0])|0]))
  (sSeq (sPar 4 5 %[(zCs mNil),(mBin vAdd (zAJ zHe %[(mVar 2)|0]) (mC (.int 1)))|0])
  (sSeq (sFor (zEs (mVar 5)) (.nm 6) (sSeq (sSet 7 (mLc (mSrc (zAH zDL %[(mVar 0),(mBm "list" zI3 (mVar 2) %[(mVar 6)|0])|0])) (.nm 8) [8] mYes (mBin vIx (mVar 2) (mVar 8)) finP))
  (zEG (mBm "list" zBm (mVar 4) %[(mLc (zEs (mVar 5)) (.nm 9) [9] mYes (zAJ vLen %[(mLc (mSrc (mVar 7)) (.nm 8) [8] (mTst (mBin (vEqB false) (mVar 8) (mVar 9))) (mVar 8) finP)|0]) finP)|0]))))
  (sRet (mTup %[(mLc (zEs (mVar 5)) (.nm 6) [6] mYes (mBin vIx (mVar 3) (mBm "list" zI3 (mVar 2) %[(mVar 6)|0])) finP),(mFrz (mVar 4))|0])))))
structure BsD (m:Nat) (M:List (Nat×Int)) (R:List (List Int)):Prop where
 p:0<m
 few:m<64
 lm:M.length=m
 lr:R.length=m
 row:∀r∈R,r.length=m
 lets:∀q∈M,okC q.1
def rowP(r:List Int):P:=.lst (r.map P.int)
def bsP(M:List (Nat×Int)) (R:List (List Int)):P:=.tup [.lst (M.map mkP),.lst (R.map rowP)]
def mkQ(w:Wy) (s:Str) (A:Arcs) (v:Nat):Nat×Int:=((s.cps.toList[v]?).getD 0,(if kn w=true then(outs A v:Int)else 0))
theorem mkQ_e{w:Wy}{s:Str}{A:Arcs}{v:Nat} (hv:v<s.length):mk w s A v=mkP (mkQ w s A v):=by
 have hx:=Jf (show v<s.cps.toList.length from hv)
 unfold mk mkP mkQ;simp only[hx,Y9];rfl
def cntR(m:Nat) (T:List Int):List Int:=(List.range m).map fun(k:Nat)=>(((T.filter fun x=>decide (x=(k:Int))).length:Nat):Int)
theorem Nums.lt_n{n m:Nat}{N:List Int} (h:Nums n m N):m≤n:=by
 have:=zGs ((List.range m).map fun(j:Nat)=>(j:Int)) N ?_ ?_
 ·rw[Jb,Vu,h.len]at this;exact this
 ·unfold List.Nodup;rw[YJ];exact YQ (fun ha hb hne e=>hne ∅) (List.nodup_range (n:=m))
 ·intro x hx;obtain⟨j,hj,rfl⟩:=Jx.mp hx;exact h.all j (Vj.mp hj)
theorem zPk{n m:Nat}{N:List Int} (h:Nums n m N){j:Nat} (hj:j<m):ix N (j:Int)<n:=by
 have hm:=h.all j hj
 have:ix N (j:Int)<N.length:=Ye ⟨_,hm,by simp⟩
 rw[h.len]at this;exact this
theorem zRV{m:Nat}{T:List Int}{k:Nat} (hk:k<m):(cntR m T)[k]?=some (((T.filter fun x=>decide (x=(k:Int))).length:Nat):Int):=by
 unfold cntR;rw[Ji,Vx hk];rfl
end
section
open Y YZ NS
theorem zIQ{s:Str}{A:Arcs} (hl:A.length≤1000) (v:Int) (st:List Cell):zAP zDg [.p (wP s A),.p (.int v)] st=.ok (.p (.int (outs A v))) st:=by
 refine Pu.call2 (Pu.of2 ?_) st;have L:=zQL A v;have l4:A.length≤1000000:=by omega
 have l5:(A.filter fun q=>decide (q.1=v)).length≤1000000:=Jt (Va _ _) l4
 simp[zDg,zAG,wP,l4,L,l5];rfl
theorem zMC{w:Wy}{s:Str}{A:Arcs} (hs:s.length≤1000) (hl:A.length≤1000) (st:List Cell):zAP zCK [.p (wP s A),.p (.str w.s)] st=.ok (.p (.lst ((List.range s.length).map (mk w s A)))) st:=by
 refine Pu.call2 (Pu.of2 ?_) st;have lo:=fun v st=>zIQ (s:=s) hl v st
 have l1:s.length≤1000000:=by omega
 have l2:(s.length:Int)≤1000000:=by omega
 have l3:(-1000000:Int)≤s.length:=by omega
 have kv:vInB false (.p (.str w.s)) (.p (.lst [.str (Str.ofString "counted"),.str (Str.ofString "marked")])) []=.ok (.p (.bl (kn w))) []:=by
  cases w<;>simp[Wy.s,kn]
 have L:∀x2,lcL (.nm 3) mYes (mTup %[(mBin vIx (mBin vIx (mVar 0) (mC (.int 0))) (mVar 3)),(mIfE (mTru (mVar 2)) (zAH zDg %[(mVar 0),(mVar 3)|0]) (mC (.int 0)))|0]) [some (.p (wP s A)),some (.p (.str w.s)),some (.p (.bl (kn w))),x2] (rngL 0 s.length) []
   = .ok (((List.range s.length).map (mk w s A)).map W.p) []:=by
  intro x2;rw[zQq,zD8 (fun(v:Nat)=>mk w s A v)]
  intro v hv;have hv2:v<s.cps.toList.length:=Vj.mp hv
  have hx:L2.atI s.cps.toList (v:Int)=some (s.cps.toList[v]'hv2):=by
   rw[YZ.atI_nat ∅,Yk,Jf hv2]
  refine⟨_,zBq _ _,?_⟩;unfold mk;rw[Jf hv2];have lo:=lo v;unfold wP at lo ⊢;cases kn w<;>simp[lo,l1,hx]
 unfold wP at L ⊢;simp[zCK,zAG,kv,l1,l2,l3,L]
theorem wp0(s:Str) (A:Arcs) (st:List Cell):vIx (.p (wP s A)) (.p (.int 0)) st=.ok (.p (.str s)) st:=by simp[wP]
theorem Wb.more{s:Str}{A:Arcs} (hW:Wb s A){B:Arcs} (hB:InN s.length B):Wb s (A++B) :=
 ⟨hW.n0,hW.ch,fun q hq=>(JC.mp hq).elim (hW.inn q) (hB q),hW.cn.mono fun q hq=>Yr _ hq⟩
end
section
open Y YZ NS
def rk(l:List P):List Int:=l.map fun x=>((pos l x:Nat):Int)
def nxK(n:Nat) (A:Arcs) (N:List Int):List P:=((List.range n).map (nxt1 A N)).map nxP
def nxtN(n:Nat) (A:Arcs) (N:List Int):List Int:=rk (nxK n A N)
def rnd(w:Wy) (s:Str) (A:Arcs):Nat→List Int
 |0=>rk ((List.range s.length).map (mk w s A))
 |k+1=>nxtN s.length A (rnd w s A k)
def mny(w:Wy) (s:Str) (A:Arcs):Nat→Nat
 |0=>(ord ((List.range s.length).map (mk w s A))).length
 |k+1=>(ord (nxK s.length A (rnd w s A k))).length
theorem zLy{n:Nat} (hn:n<64) (A:Arcs) (N:List Int):Kys (nxK n A N):=zPT (by rw[Jb,Vu];exact hn)
theorem zQO(n:Nat) (A:Arcs) (N:List Int):(nxK n A N).length=n:=by unfold nxK;rw[Jb,Jb,Vu]
theorem zNm{n:Nat} (hn:n<64) (A:Arcs) (N:List Int):Nums n (ord (nxK n A N)).length (nxtN n A N):=by
 have h:=zNX (zLy hn A N);rw[zQO]at h;exact h
theorem zDq{w:Wy}{s:Str}{A:Arcs} (hW:Wb s A) (hs:s.length<64):∀k,Nums s.length (mny w s A k) (rnd w s A k)
 |0=>by
  have h:=zNX (zIa (w:=w) hW hs);rw[Jb,Vu]at h;exact h
 |k+1=>zNm hs A _
theorem rk_at{l:List P}{i:Nat}{x:P} (h:l[i]?=some x):(rk l)[i]?=some ((pos l x:Nat):Int):=by
 unfold rk;rw[Ji,h];rfl
theorem zKe{n:Nat}{A:Arcs}{N:List Int}{i:Nat} (h:i<n):(nxK n A N)[i]?=some (nxP (nxt1 A N i)):=by
 unfold nxK;rw[Ji,Ji,Vx h];rfl
theorem zRQ{n:Nat} (hn:n<64){A:Arcs}{N:List Int}{i j:Nat} (hi:i<n) (hj:j<n) (e:(nxtN n A N)[i]?=(nxtN n A N)[j]?):nxt1 A N i=nxt1 A N j:=by
 have k:=zLy hn A N;have e1:=rk_at (zKe (A:=A) (N:=N) hi);have e2:=rk_at (zKe (A:=A) (N:=N) hj);unfold nxtN at e;rw[e1,e2]at e
 have e3:pos (nxK n A N) (nxP (nxt1 A N i))=pos (nxK n A N) (nxP (nxt1 A N j)):=by
  have:=Jd e
  omega
 have e4:=zQ7 k (Jn (zKe hi)) (Jn (zKe hj)) e3;unfold nxP at e4;injection e4 with e4
 injection e4 with a b
 injection a with a
 injection b with b _
 injection b with b
 have inj:∀ {x y:List Int},x.map P.int=y.map P.int→x=y:=fun{x y} h=>(List.map_inj_right fun a b h=>by injection h).mp h
 exact Prod.ext a (inj b)
theorem zGR{n m:Nat}{N:List Int} (h:Nums n m N){i:Nat} (hi:i<n):N[i]?=some (at0 N (i:Int)):=by
 have hl:=h.len;unfold at0;rw[Yk,Jf ∅];rfl
theorem mny_le{w:Wy}{s:Str}{A:Arcs} (hW:Wb s A) (hs:s.length<64) (k:Nat):mny w s A k≤mny w s A (k+1):=by
 have h1:=zDq (w:=w) hW hs k;have h2:=zDq (w:=w) hW hs (k+1)
 -- each old number has a node,each node a new number
 have pick:∀j:Nat,j<mny w s A k→∃v:Nat,v<s.length∧(rnd w s A k)[v]?=some (j:Int):=fun j hj=>by
  obtain⟨v,hv⟩:=Ve (h1.all j hj);exact⟨v,by rw[←h1.len];exact(Ja.mp hv).1,hv⟩
 have:((List.range (mny w s A k)).map fun j=>if h:j<mny w s A k then(at0 (rnd w s A (k+1)) ((pick j h).choose:Int)).toNat else 0).length≤(List.range (mny w s A (k+1))).length:=by
  refine zGs _ (List.range (mny w s A (k+1))) ?_ ?_
  ·unfold List.Nodup;rw[YJ];refine YQ (fun{a b} ha hb hne e=>hne ?_) (List.nodup_range (n:=mny w s A k))
   have ha:=Vj.mp ha;have hb:=Vj.mp hb;rw[dif_pos ha,dif_pos hb]at e;obtain⟨a1,a2⟩:=(pick a ha).choose_spec;obtain⟨b1,b2⟩:=(pick b hb).choose_spec;generalize (pick a ha).choose=u at *
   generalize (pick b hb).choose=v at *
   have g1:=zGR h2 a1;have g2:=zGR h2 b1;have p1:=h2.bd _ (Jn g1);have p2:=h2.bd _ (Jn g2);have e':at0 (rnd w s A (k+1)) (u:Int)=at0 (rnd w s A (k+1)) (v:Int):=by omega
   have eo:=zRQ hs (N:=rnd w s A k) (A:=A) a1 b1 (by show(rnd w s A (k+1))[u]?=(rnd w s A (k+1))[v]?;rw[g1,g2,e'])
   have e5:at0 (rnd w s A k) (u:Int)=at0 (rnd w s A k) (v:Int):=congrArg Prod.fst eo;rw[zGR h1 a1]at a2;rw[zGR h1 b1]at b2
   have:=Jd a2
   have:=Jd b2
   omega
  ·intro x hx;obtain⟨j,hj,rfl⟩:=Jx.mp hx;have hj:=Vj.mp hj;rw[dif_pos hj];obtain⟨a1,_⟩:=(pick j hj).choose_spec;generalize (pick j hj).choose=u at *
   have p1:=h2.bd _ (Jn (zGR h2 a1));exact Vj.mpr ∅
 simpa using this
theorem zJT{w:Wy}{s:Str}{A:Arcs} (hW:Wb s A) (hs:s.length<64):∃T,mny w s A (T+1)=mny w s A T∧(∀k,k<T→mny w s A k<mny w s A (k+1))∧T<s.length:=by
 have hm:=fun k=>mny_le (w:=w) hW hs k
 have hb:∀k,mny w s A k≤s.length:=fun k=>(zDq (w:=w) hW hs k).lt_n
 have h0:0<mny w s A 0:=(zDq (w:=w) hW hs 0).pos hW.n0
 have go:∀d k,s.length-mny w s A k≤d→(∀j,j<k→mny w s A j<mny w s A (j+1))→k+1≤mny w s A k→∃T,mny w s A (T+1)=mny w s A T∧(∀k,k<T→mny w s A k<mny w s A (k+1))∧T<s.length:=by
  intro d
  induction d with
  |zero =>
   intro k hd hk hk1
   have:=hm k;have:=hb (k+1);have:=hb k
   exact⟨k,∅,hk,∅⟩
  |succ d ih =>
   intro k hd hk hk1
   have:=hm k;have:=hb (k+1);have:=hb k
   by_cases e:mny w s A (k+1)=mny w s A k
   ·exact⟨k,e,hk,∅⟩
   ·refine ih (k+1) ∅ (fun j hj=>?_) ∅
    by_cases z:j=k
    ·subst z;omega
    ·exact hk j ∅
 exact go s.length 0 ∅ (fun j hj=>absurd hj (Ya _)) ∅
noncomputable def stb {w:Wy}{s:Str}{A:Arcs} (hW:Wb s A) (hs:s.length<64):Nat:=(zJT (w:=w) hW hs).choose
theorem zJg{s:Str}{A:Arcs}{m:Nat}{N:List Int} (hA:InN s.length A) (hs:s.length<64) (hl:A.length≤1000) (h:Nums s.length m N):∀st,zAP zEx [.p (wP s A),.p (.lst (N.map P.int))] st=.ok (.p (.lst ((nxtN s.length A N).map P.int))) st:=by
 have sml:=hA.small ∅;have kys:=zPT (l:=(List.range s.length).map (nxt1 A N)) (by rw[Jb,Vu];exact hs)
 unfold nxtN rk nxK;refine fun st=>Pu.call2 (Pu.of2 ?_) st
 ·have lr:=fun st=>zFd kys st
  have lh:=fun v st=>zFc (s:=s) sml hl v st
  have wp0:∀st,vIx (.p (wP s A)) (.p (.int 0)) st=.ok (.p (.str s)) st:=fun st=>by simp[wP]
  simp[zEx,zAG,wp0,show s.length≤1000000 by omega,show(s.length:Int)≤1000000 by omega,show(-1000000:Int)≤s.length by omega,-zBQ,-zGH]
  refine zBg (fun r=>Gv (runR (r.then _)) _) (fun i σ st=>∃x3,σ=[some (.p (wP s A)),some (.p (.lst (N.map P.int))),some (.r 0),x3,none]∧st=[.lst ((List.range i).map ((W.p∘nxP)∘nxt1 A N))]) ⟨none,rfl,by simp⟩ ?_ ?_
  ·rintro i w σ st hw ⟨x3,rfl,rfl⟩;obtain⟨hi,rfl⟩:=zKv hw;have hin:∀x∈sortI (srcs A i),0≤x∧x<s.length:=fun x hx=>zM6 hA _ x ((sortI_perm _).mem_iff.mp hx)
   have L:=zD8 (f:=W.p∘P.int) (l:=sortI (srcs A i)) (t:=.nm 4) (e:=mBin vIx (mVar 1) (mVar 4)) (σ0:=[some (.p (wP s A)),some (.p (.lst (N.map P.int))),some (.r 0),some (.p (.int i)),none]) (st:=[.lst ((List.range i).map ((W.p∘nxP)∘nxt1 A N))]) (fun x=>P.int (at0 N x)) fun x hx=>by
    obtain⟨x0,x1⟩:=hin x hx;refine⟨_,zBq _ _,?_⟩;simp[zMq h x0 x1]
   have e1:(sortI (srcs A i)).map (fun x=>P.int (at0 N x))=((sortI (srcs A i)).map (at0 N)).map P.int:=by rw[Jy];rfl
   rw[e1]at L;have ai:=zMq h (v:=(i:Int)) ∅ ∅
   have sl:(sortI (srcs A i)).length≤1000:=by
    rw[(sortI_perm _).length_eq];unfold srcs;rw[Jb];exact Jt (Va _ _) hl
   have si:=zIs ((sortI (srcs A i)).map (at0 N));have l5:(sortI ((sortI (srcs A i)).map (at0 N))).length≤1000000:=by rw[(sortI_perm _).length_eq,Jb];omega
   have nx:nxt1 A N i=(at0 N i,sortI ((sortI (srcs A i)).map (at0 N))):=rfl;generalize (sortI (srcs A i)).map (at0 N)=M at *
   conv=>arg 3;simp[lh,show(sortI (srcs A i)).length≤1000000 by omega,L,si,l5,ai,show i<1000000 by omega]
   refine⟨_,rfl,?_⟩;rw[YA,JV];simp[nx,nxP]
  ·rintro σ st ⟨x3,rfl,rfl⟩;rw[zH7];have lr':=fun i st hi=>zJC kys i st hi
   rw[Jy]at lr'
   conv=>arg 1;simp[lr']
   rfl
def rndL(w:Wy) (s:Str) (A:Arcs) (T:Nat):List P:=(List.range T).map fun k=>P.lst ((rnd w s A k).map P.int)
theorem zP0(w:Wy) (s:Str) (A:Arcs) (T:Nat):rndL w s A (T+1)=rndL w s A T++[P.lst ((rnd w s A T).map P.int)]:=by unfold rndL;rw[YA,JV];rfl
theorem zO5(w:Wy) (s:Str) (A:Arcs) (T:Nat):(rndL w s A T).length=T:=by unfold rndL;rw[Jb,Vu]
theorem zH6{w:Wy}{s:Str}{A:Arcs} (hW:Wb s A) (hs:s.length<64) (hl:A.length≤1000) (hml:∀st,zAP zCK [.p (wP s A),.p (.str w.s)] st=.ok (.p (.lst ((List.range s.length).map (mk w s A)))) st) (st:List Cell) :
  zAP zC1 [.p (wP s A),.p (.str w.s)] st=.ok (.p (.lst (rndL w s A (stb (w:=w) hW hs+1)))) st:=by
 refine Pu.call2 (Pu.of2 ?_) st;have hstab:=(zJT (w:=w) hW hs).choose_spec;generalize hT:stb (w:=w) hW hs=T;have hT':(zJT (w:=w) hW hs).choose=T:=hT;rw[hT']at hstab;obtain⟨eT,gT,lT⟩:=hstab;have kys:=zIa (w:=w) hW hs;have lr:=fun st=>zFd kys st
 have r0:((List.range s.length).map (mk w s A)).map (fun x=>((pos ((List.range s.length).map (mk w s A)) x:Nat):Int))=rnd w s A 0:=rfl
 rw[r0]at lr;have wp0:∀st,vIx (.p (wP s A)) (.p (.int 0)) st=.ok (.p (.str s)) st:=fun st=>by simp[wP]
 simp[zC1,zAG,hml,lr]
 have fin:∀x3:Option W,Gv (runR ((SR.ok .nx [some (W.p (wP s A)),some (W.p (P.str w.s)),some (W.r 0),x3] [.lst ((rndL w s A (T+1)).map W.p)]).then (sRet (mFrz (mVar 2))))) (.lst (rndL w s A (T+1))):=fun x3=>by
  have pc:=zBI (rndL w s A (T+1));generalize (rndL w s A (T+1)).map W.p=C at *
  conv=>arg 1;simp
  simp[zRl,pc]
  try rfl
 refine zJx (n:=1000) (fun r=>Gv (runR (r.then (sRet (mFrz (mVar 2))))) (.lst (rndL w s A (T+1)))) (fun d σ st=>∃(k:Nat) (x3:Option W),d=T+1-k∧k≤T∧σ=[some (.p (wP s A)),some (.p (.str w.s)),some (.r 0),x3]∧st=[.lst ((rndL w s A (k+1)).map W.p)]) (T+1) ∅ ⟨0,none,rfl,∅,rfl,rfl⟩ ?_
 rintro d σ st ⟨k,x3,rfl,hk,rfl,rfl⟩;have hN:=zDq (w:=w) hW hs k;have hN':=zDq (w:=w) hW hs (k+1);have ln:=fun st=>zJg hW.inn hs hl hN st
 have ne:nxtN s.length A (rnd w s A k)=rnd w s A (k+1):=rfl;rw[ne]at ln
 have last:L2.atI ((rndL w s A (k+1)).map W.p) (-1)=some (.p (.lst ((rnd w s A k).map P.int))):=by
  rw[zP0,JV];exact atI_last _ _
 have n1:=hN.max hW.n0;have n2:=hN'.max hW.n0;have N0':0<(rnd w s A k).length:=by rw[hN.len];exact hW.n0
 have N1':0<(rnd w s A (k+1)).length:=by rw[hN'.len];exact hW.n0
 have lL:((rndL w s A (k+1)).map W.p).length=k+1:=by rw[Jb,zO5]
 have hc1:(rndL w s A (k+1)).map W.p++[W.p (.lst ((rnd w s A (k+1)).map P.int))]=(rndL w s A (k+1+1)).map W.p:=by rw[zP0 w s A (k+1),JV];rfl
 refine .inr ⟨[.lst ((rndL w s A (k+1)).map W.p)],T+1-(k+1),?_,∅,?_⟩
 ·generalize (rndL w s A (k+1)).map W.p=C at *
  simp[lL,wp0,show k+1≤1000000 by omega,show s.length≤1000000 by omega]
  omega
 ·by_cases he:k=T
  ·subst he;have he':(mny w s A (k+1):Int)-1=mny w s A k-1:=by rw[eT]
   generalize (rndL w s A (k+1)).map W.p=C at *
   conv=>arg 3;simp[last,ln,N0',N1',n1,n2,he']
   exact fin _
  ·have:=gT k ∅
   have he':¬(mny w s A (k+1):Int)-1=mny w s A k-1:=by omega
   generalize (rndL w s A (k+1)).map W.p=C at *
   conv=>arg 3;simp[last,ln,N0',N1',n1,n2,he',lL,show k+1<1000000 by omega]
   exact⟨k+1,_,rfl,∅,rfl,by rw[hc1]⟩
end
section
open Y YZ NS
def bM(w:Wy) (s:Str) (A:Arcs) (m:Nat) (N:List Int):List (Nat×Int):=(List.range m).map fun(j:Nat)=>mkQ w s A (ix N j)
def bR(A:Arcs) (m:Nat) (N:List Int):List (List Int):=(List.range m).map fun(j:Nat)=>cntR m ((sortI (srcs A (ix N (j:Int):Nat))).map (at0 N))
theorem zJn{w:Wy}{s:Str}{A:Arcs}{m:Nat}{N:List Int}{Ls:List (List Int)} (hW:Wb s A) (hs:s.length<64) (hl:A.length≤1000) (hml:∀st,zAP zCK [.p (wP s A),.p (.str w.s)] st=.ok (.p (.lst ((List.range s.length).map (mk w s A)))) st) (hN:Nums s.length m N) (lr:∀st,zAP zC1 [.p (wP s A),.p (.str w.s)] st=.ok (.p (rndV Ls N)) st) :
  BsD m (bM w s A m N) (bR A m N)∧∀st,zAP zEq [.p (wP s A),.p (.str w.s)] st=.ok (.p (bsP (bM w s A m N) (bR A m N))) st:=by
 have hm:=hN.pos hW.n0;have hmn:=hN.lt_n;have sml:=hW.inn.small ∅;have lh:=fun v st=>zFc (s:=s) sml hl v st
 have mx:=hN.max hW.n0;have N0':0<N.length:=by rw[hN.len];exact hW.n0
 have last:∀st,vIx (.p (rndV Ls N)) (.p (.int (-1))) st=.ok (.p (.lst (N.map P.int))) st:=fun st=>by
  have e:=atI_last (Ls.map fun N=>P.lst (N.map P.int)) (P.lst (N.map P.int))
  simp[rndV,e]
 unfold bM bR;refine⟨⟨hm,∅,by simp,by simp,fun r hr=>?_,fun q hq=>?_⟩,fun st=>Pu.call2 (Pu.of2 ?_) st⟩
 ·obtain⟨j,_,rfl⟩:=Jx.mp hr;simp[cntR]
 ·obtain⟨j,hj,rfl⟩:=Jx.mp hq;have hx:=zPk hN (Vj.mp hj);have hx':ix N (j:Int)<s.cps.toList.length:=hx;unfold mkQ;rw[Jf hx'];exact hW.ch _ (Vg hx')
 ·have hin:∀(v:Int),∀x∈sortI (srcs A v),0≤x∧x<s.length:=fun v x hx=>zM6 hW.inn _ x ((sortI_perm _).mem_iff.mp hx)
  have sl:∀v:Int,(sortI (srcs A v)).length≤1000:=fun v=>by
   rw[(sortI_perm _).length_eq];unfold srcs;rw[Jb];exact Jt (Va _ _) hl
  simp[zEq,zAG,lr,last,hml,N0',mx,show(m:Int)≤1000000 by omega,show(-1000000:Int)≤m by omega,show m≤1000000 by omega,-zBQ,-zGH]
  refine zBg (fun r=>Gv (runR (r.then _)) _) (fun i σ st=>∃x6 x7,σ=[some (.p (wP s A)),some (.p (.str w.s)),some (.p (.lst (N.map P.int))),some (.p (.lst ((List.range s.length).map (mk w s A)))),some (.r 0),some (.p (.int m)),x6,x7,none,none]∧st=[.lst ((List.range i).map fun(j:Nat)=>W.p (rowP (cntR m ((sortI (srcs A (ix N (j:Int):Nat))).map (at0 N)))))]) ⟨none,none,rfl,by simp⟩ ?_ ?_
  ·rintro i w0 σ st hw ⟨x6,x7,rfl,rfl⟩;obtain⟨hi,rfl⟩:=zKv hw;have hix:=hN.all i hi;have vi:=fun st=>zKI hix st
   have tw:∀st,tyW st (W.p (P.lst (N.map P.int)))=some "list" := fun st=>rfl
   have L:=fun(x6 x7:Option W) st=>zD8 (f:=W.p∘P.int) (l:=sortI (srcs A (ix N (i:Int):Nat))) (t:=.nm 8) (e:=mBin vIx (mVar 2) (mVar 8)) (σ0:=[some (.p (wP s A)),some (.p (.str w.s)),some (.p (.lst (N.map P.int))),some (.p (.lst ((List.range s.length).map (mk w s A)))),some (.r 0),some (.p (.int m)),x6,x7,none,none]) (st:=st) (fun x=>P.int (at0 N x)) fun x hx=>by
    obtain⟨u0,u1⟩:=hin _ x hx;refine⟨_,zBq _ _,?_⟩;simp[zMq hN u0 u1]
   have e1:(sortI (srcs A (ix N (i:Int):Nat))).map (fun x=>P.int (at0 N x))=((sortI (srcs A (ix N (i:Int):Nat))).map (at0 N)).map P.int:=by rw[Jy];rfl
   rw[e1]at L;have sl1:=sl (ix N (i:Int):Nat);have tl:((sortI (srcs A (ix N (i:Int):Nat))).map (at0 N)).length≤1000:=by rw[Jb];exact sl1
   generalize hT:(sortI (srcs A (ix N (i:Int):Nat))).map (at0 N)=T at *
   have L2:=fun(x6:Option W) st=>zD8 (f:=fun(k:Nat)=>W.p (.int (k:Int))) (l:=List.range m) (t:=.nm 9) (e:=zAJ vLen %[(mLc (mSrc (mVar 7)) (.nm 8) [8] (mTst (mBin (vEqB false) (mVar 8) (mVar 9))) (mVar 8) finP)|0]) (σ0:=[some (.p (wP s A)),some (.p (.str w.s)),some (.p (.lst (N.map P.int))),some (.p (.lst ((List.range s.length).map (mk w s A)))),some (.r 0),some (.p (.int m)),x6,some (.p (.lst (T.map P.int))),none,none]) (st:=st) (fun(k:Nat)=>P.int (((T.filter fun x=>decide (x=(k:Int))).length:Nat):Int)) fun k hk=>by
    refine⟨_,zBq _ _,?_⟩;have L3:=zNH (f:=W.p∘P.int) (l:=T) (t:=.nm 8) (c:=mTst (mBin (vEqB false) (mVar 8) (mVar 9))) (e:=mVar 8) (σ0:=[some (.p (wP s A)),some (.p (.str w.s)),some (.p (.lst (N.map P.int))),some (.p (.lst ((List.range s.length).map (mk w s A)))),some (.r 0),some (.p (.int m)),x6,some (.p (.lst (T.map P.int))),none,some (.p (.int (k:Int)))]) (st:=st) (fun x=>decide (x=(k:Int))) (fun x=>P.int x) fun x hx=>⟨_,zBq _ _,by simp;rfl,fun _=>by simp⟩
    have fl:=Jt (Va (fun x=>decide (x=(k:Int))) T) tl
    simp[show T.length≤1000000 by omega,L3,show(T.filter fun x=>decide (x=(k:Int))).length≤1000000 by omega]
   have e2:(List.range m).map (fun(k:Nat)=>P.int (((T.filter fun x=>decide (x=(k:Int))).length:Nat):Int))=(cntR m T).map P.int:=by unfold cntR;rw[Jy];rfl
   rw[e2,←zQq]at L2
   conv=>arg 3;simp[tw,vi,lh,show(sortI (srcs A (ix N (i:Int):Nat))).length≤1000000 by omega,L,L2,show(m:Int)≤1000000 by omega,show(-1000000:Int)≤m by omega,show m≤1000000 by omega,show i<1000000 by omega]
   exact⟨_,_,rfl,by rw[YA,JV];simp[rowP,hT]⟩
  ·rintro σ st ⟨x6,x7,rfl,rfl⟩;rw[zH7]
   have L4:=fun st=>zD8 (f:=fun(j:Nat)=>W.p (.int (j:Int))) (l:=List.range m) (t:=.nm 6) (e:=mBin vIx (mVar 3) (mBm "list" zI3 (mVar 2) %[(mVar 6)|0])) (σ0:=[some (.p (wP s A)),some (.p (.str w.s)),some (.p (.lst (N.map P.int))),some (.p (.lst ((List.range s.length).map (mk w s A)))),some (.r 0),some (.p (.int m)),none,x7,none,none]) (st:=st) (fun(j:Nat)=>mkP (mkQ w s A (ix N j))) fun j hj=>by
    have hj:=Vj.mp hj;refine⟨_,zBq _ _,?_⟩;have vi:=fun st=>zKI (hN.all j hj) st
    have tw:∀st,tyW st (W.p (P.lst (N.map P.int)))=some "list" := fun st=>rfl
    have hix:=zPk hN hj
    have ia:L2.atI ((List.range s.length).map (mk w s A)) ((ix N (j:Int):Nat):Int)=some (mkP (mkQ w s A (ix N j))):=by
     rw[YZ.atI_nat ∅,Yk,Ji,Vx hix,←mkQ_e hix];rfl
    simp[tw,vi,ia]
   have e4:(List.range m).map (fun(j:Nat)=>mkP (mkQ w s A (ix N j)))=((List.range m).map fun(j:Nat)=>mkQ w s A (ix N j)).map mkP:=by rw[Jy];rfl
   rw[e4,←zQq]at L4
   have pc:pures ((List.range m).map fun(j:Nat)=>W.p (rowP (cntR m ((sortI (srcs A (ix N (j:Int):Nat))).map (at0 N)))))=some (((List.range m).map fun(j:Nat)=>cntR m ((sortI (srcs A (ix N (j:Int):Nat))).map (at0 N))).map rowP):=by
    have e:(List.range m).map (fun(j:Nat)=>W.p (rowP (cntR m ((sortI (srcs A (ix N (j:Int):Nat))).map (at0 N)))))=(((List.range m).map fun(j:Nat)=>cntR m ((sortI (srcs A (ix N (j:Int):Nat))).map (at0 N))).map rowP).map W.p:=by rw[Jy,Jy];rfl
    rw[e,zBI]
   generalize (List.range m).map (fun(j:Nat)=>W.p (rowP (cntR m ((sortI (srcs A (ix N (j:Int):Nat))).map (at0 N)))))=C at *
   conv=>arg 1;simp[show(m:Int)≤1000000 by omega,show(-1000000:Int)≤m by omega,show m≤1000000 by omega,L4,pc]
   simp only[bsP,Jy];rfl
theorem rndL_V(w:Wy) (s:Str) (A:Arcs) (T:Nat):P.lst (rndL w s A (T+1))=rndV ((List.range T).map (rnd w s A)) (rnd w s A T):=by
 unfold rndL rndV;rw[YA,JV,JV,Jy];rfl
noncomputable def stN {w:Wy}{s:Str}{A:Arcs} (hW:Wb s A) (hs:s.length<64):List Int:=rnd w s A (stb (w:=w) hW hs)
noncomputable def stM {w:Wy}{s:Str}{A:Arcs} (hW:Wb s A) (hs:s.length<64):Nat:=mny w s A (stb (w:=w) hW hs)
theorem zNz{w:Wy}{s:Str}{A:Arcs} (hW:Wb s A) (hs:s.length<64):Nums s.length (stM (w:=w) hW hs) (stN (w:=w) hW hs):=zDq hW hs _
theorem zJy{w:Wy}{s:Str}{A:Arcs} (hW:Wb s A) (hs:s.length<64) (hl:A.length≤1000) :
  BsD (stM (w:=w) hW hs) (bM w s A (stM (w:=w) hW hs) (stN (w:=w) hW hs)) (bR A (stM (w:=w) hW hs) (stN (w:=w) hW hs))∧∀st,zAP zEq [.p (wP s A),.p (.str w.s)] st=.ok (.p (bsP (bM w s A (stM (w:=w) hW hs) (stN (w:=w) hW hs)) (bR A (stM (w:=w) hW hs) (stN (w:=w) hW hs)))) st:=by
 have hml:=fun st=>zMC (w:=w) (s:=s) (A:=A) ∅ hl st
 refine zJn hW hs hl hml (zNz hW hs) (Ls:=(List.range (stb (w:=w) hW hs)).map (rnd w s A)) fun st=>?_
 rw[zH6 hW hs hl hml st,rndL_V];rfl
end
section
open Y YZ NS
section
variable {w:Wy}{s:Str}{A:Arcs}
@[simp]theorem nox_ok(f:Fl) (σ:Sg) (st:List Cell):SR.nox (.ok f σ st)=.ok f σ st:=rfl
end
end
section
open Y YZ NS
def gth(p:Int→Bool) (g:Int→Int) (l acc:List Int):List Int:=l.foldl (fun a x=>if p x=true then(if g x∈a then a else a++[g x])else a) acc
end
section
open Y YZ NS
def plF(now near:List Int) (c:Int):Int:=((near.filter fun u=>decide (at0 now u=c))[0]?).getD 0
def nbs(now near:List Int):List Int:=dsI (gth (fun _=>true) (at0 now) near [])
def kOf(now near ahd:List Int):List Int:=(nbs now near).map fun c=>at0 ahd (plF now near c)
section
variable {w:Wy}{s:Str}{A:Arcs}{near now ahd:List Int}{m1 m2:Nat}
variable (hn:∀u∈near,0≤u∧u<(s.length:Int)) (nl:near.length≤60) (N1:Nums s.length m1 now) (N2:Nums s.length m2 ahd) (hs:s.length≤60)
include hn N1 in
def ixK(now near ahd:List Int) (u:Int):Nat:=(kOf now near ahd).idxOf (at0 ahd u)
end
end
section
open Y YZ NS
def refs(b n:Nat):List W:=(List.range n).map fun j=>W.r (b+j)
end
section
open Y YZ NS
def rg(R:List (List Int)) (i j:Nat):Int:=(((R[i]?).getD [])[j]?).getD 0
def row2(R:List (List Int)) (m a b:Nat):List Int:=((List.replicate m (0:Int)).set a (rg R a b)).set b (-(rg R b a))
def eq2(R:List (List Int)) (m:Nat):List (List Int):=(List.range m).flatMap fun a=>(List.range a).map fun b=>row2 R m a b
def nmb(M:List (Nat×Int)) (t:Nat):Int:=((M[t]?).getD (0,0)).2
def row1(M:List (Nat×Int)) (R:List (List Int)) (m t:Nat):List Int:=((List.range m).map fun j => -(rg R j t)).set t (-(rg R t t)+nmb M t)
def eq1(M:List (Nat×Int)) (R:List (List Int)) (m:Nat):List (List Int):=(List.range m).map fun t=>row1 M R m t
section
variable {m:Nat}{M:List (Nat×Int)}{R:List (List Int)}
theorem BsD.ent(h:BsD m M R){i j:Nat} (hi:i<m) (hj:j<m):L2.atI (((R[i]?).getD []).map P.int) (j:Int)=some (.int (rg R i j)):=by
 have li:i<R.length:=by rw[h.lr];exact hi
 have lr:(R[i]'li).length=m:=h.row _ (Vg li);unfold rg;rw[Jf li,Y9,YZ.atI_nat ∅,Yk,Ji,Jf (by rw[lr];exact hj)];rfl
end
end
section
open Y YZ NS
def xa(L:List Int) (i:Nat):Int:=(L[i]?).getD 0
end
section
open Y YZ NS
def Bd(k:Nat) (L:List Int):Prop:=∀x∈L,x.natAbs<2^k
theorem Bd.mono{k k':Nat}{L:List Int} (h:Bd k L) (hk:k≤k'):Bd k' L:=fun x hx=>JZ (h x hx) (Nat.pow_le_pow_right (!0) hk)
def kL(Ld:List (Nat×List Int)):List Key:=Ld.map fun q=>(Sum.inl (q.1:Int):Key)
def pL(Ld:List (Nat×List Int)):List P:=Ld.map fun q=>rowP q.2
def vL(Ld:List (Nat×List Int)):List W:=(pL Ld).map W.p
abbrev rs(a0 a1 a3 a4 a5 a6 a7 a8 a9 a10:Option W):Sg:=[a0,a1,some (.r 0),a3,a4,a5,a6,a7,a8,a9,a10]
theorem zN3{Ld:List (Nat×List Int)}{c:Nat}:hasK (kL Ld) (Sum.inl (c:Int))=true↔∃p∈Ld,p.1=c:=by
 unfold hasK kL;rw[List.any_map,Y7];constructor
 ·rintro⟨p,hp,e⟩;have e:=Jv e;injection e with e
  exact⟨p,hp,∅⟩
 ·rintro⟨p,hp,rfl⟩;exact⟨p,hp,by simp⟩
theorem zPp(c:Nat) (w:W):∀Ld:List (Nat×List Int),List.zipWith (fun(j:Key) x=>if j=Sum.inl (c:Int)then w else x) (kL Ld) (vL Ld)=Ld.map fun q=>if q.1=c then w else .p (rowP q.2)
 |[]=>rfl
 |q::Ld=>by
  show(if(Sum.inl (q.1:Int):Key)=Sum.inl (c:Int)then w else .p (rowP q.2))::List.zipWith _ (kL Ld) (vL Ld)=_
  rw[zPp c w Ld,Jk]
  congr 1
  by_cases h:q.1=c
  ·rw[Jm (by rw[h]),Jm h]
  ·rw[Js (fun z=>h (by injection z with z;omega)),Js h]
theorem zNK{D:List (Nat×List Int)}{c:Nat}{w:W} (h:∀p∈D,p.1≠c):(D.map fun q=>if q.1=c then w else W.p (rowP q.2))=vL D:=by
 unfold vL pL;rw[Jy];exact VJ fun p hp=>by rw[Js (h p hp)];rfl
theorem putK{D R:List (Nat×List Int)}{q:Nat×List Int}{v:List Int} (h:∀p∈D,p.1≠q.1) (h2:∀p∈R,p.1≠q.1):dkPut (kL (D++q::R)) (vL (D++q::R)) (Sum.inl (q.1:Int)) (.p (rowP v))=(kL (D++(q.1,v)::R),vL (D++(q.1,v)::R)):=by
 unfold dkPut;rw[Jm (zN3.mpr ⟨q,by simp,rfl⟩),zPp,JV,Jk,zNK h,zNK h2,Jm rfl]
 unfold vL pL kL;simp
end
section
open Y YZ NS
theorem lstK_e(Ld:List (Nat×List Int)) (rest:List Cell):vLstK [.r 0] (.dk (kL Ld) (vL Ld)::rest)=.ok (.p (.lst (Ld.map fun q=>P.int (q.1:Int)))) (.dk (kL Ld) (vL Ld)::rest):=by
 show Res.ok (W.p (.lst ((kL Ld).map keyD))) _=_;unfold kL;rw[Jy];rfl
end
section
open Y YZ NS
structure Pos (n:Nat) (z:List Int):Prop where
 len:z.length=n
 pos:∀i,i<n→0<xa z i
end
section
open Y YZ NS
abbrev Ru:=Int×Int×Int×Int
def gS(q:Ru):Prop:=(0≤q.1∧q.1≤7)∧(0≤q.2.1∧q.2.1≤7)∧(0≤q.2.2.1∧q.2.2.1≤7)∧(0≤q.2.2.2∧q.2.2.2≤7)
def lat(R:List Ru) (own:Int) (h:List Int):Int:=match R with
 |[]=>own
 |q::R=>if q.1=own∧q.2.2.1≤(h.count q.2.1:Nat)then q.2.2.2 else lat R own h
def stA(t:Ru) (c:Nat):Int:=if c=97 then t.1 else if c=98 then t.2.1 else if c=99 then t.2.2.1 else t.2.2.2
def sq0(t:Ru) (s:Str):List Int:=s.cps.toList.map (stA t)
def sqN(R:List Ru) (A:Arcs) (n:Nat) (S:List Int):List Int:=(List.range n).map fun(v:Nat)=>lat R (at0 S (v:Int)) ((sortI (srcs A (v:Int))).map (at0 S))
def sq(t:Ru) (R:List Ru) (s:Str) (A:Arcs):Nat→List Int
 |0=>sq0 t s
 |k+1=>sqN R A s.length (sq t R s A k)
theorem zOg(A:Arcs) (v:Int):(srcs A v).length≤A.length:=by
 unfold srcs;rw[Jb];exact Va _ _
end
section
open Y YZ NS
def SqX(I:Sg→List Cell→Prop) (F:SR→Prop):SR→Prop
 | .ok .nx σ st=>I σ st
 | .ok .ct σ st=>I σ st
 | .ok .bk σ st=>F (.ok .nx σ st)
 | .ok (.rt w) σ st=>F (.ok (.rt w) σ st)
 | .exc x σ st=>F (.exc x σ st)
 | .no=>False
end
section
open Y YZ NS
section
variable {w:Wy}{s:Str}{A:Arcs}
def cls(w:Wy) (s:Str) (A:Arcs) (k v:Nat):Int:=at0 (rnd w s A k) (v:Int)
end
end
section
open Y YZ NS
structure Wc (s:Str) (A:Arcs):Prop where
 n0:0<s.length
 ch:∀c∈s.cps.toList,c=97∨c=98∨c=99∨c=109
 inn:InN s.length A
theorem Wb.c{s:Str}{A:Arcs} (h:Wb s A):Wc s A:=⟨h.n0,h.ch,h.inn⟩
end
section
open Y YZ NS
def shA(n:Nat) (A:Arcs):Arcs:=A.map fun q=>(q.1+n,q.2+n)
def unA(n:Nat) (A B:Arcs):Arcs:=A++shA n B
end
section
open Y YZ NS
section
variable {w:Wy}{s t:Str}{A B:Arcs}
structure Rl (w:Wy) (s:Str) (A:Arcs) (t:Str) (B:Arcs) (E:Nat→Nat→Prop):Prop where
 l:∀u,u<s.length→∃v,v<t.length∧E u v
 r:∀v,v<t.length→∃u,u<s.length∧E u v
 m:∀u v,u<s.length→v<t.length→E u v→mkQ w s A u=mkQ w t B v
 h:∀u v,u<s.length→v<t.length→E u v→∀g1 g2:Int→Int,(∀x y,x<s.length→y<t.length→E x y→g1 ((x:Nat):Int)=g2 ((y:Nat):Int))→((srcs A (u:Int)).map g1).Perm ((srcs B (v:Int)).map g2)
def Un(w:Wy) (s t:Str) (A B:Arcs) (T u v:Nat):Prop:=cls w (s++t) (unA s.length A B) T u=cls w (s++t) (unA s.length A B) T (s.length+v)
end
end
section
open Y YZ NS
def stepC(pt:Nat→W→Sg→Option Sg) (b:SMm) (i:Nat) (l:List P) (σ:Sg) (st:List Cell):SR:=match pt i (.r st.length) σ with
 |some σ1=>b σ1 (st++[.lst (l.map W.p)])
 |none=>.no
theorem zIH{r:LR}{pt:Nat→W→Sg→Option Sg}{b:SMm} (F:SR→Prop) (I:Nat→Sg→List Cell→Prop){σ:Sg}{st:List Cell} (h0:I 0 σ st)
  (all:∀(i:Nat) (z:P),r.src.1[i]?=some z→∃l,z=.lst l) (step:∀(i:Nat) (l:List P) σ st,r.src.1[i]?=some (.lst l)→I i σ st→SqX (I (i+1)) F (stepC pt b i l σ st)) (fin:∀σ st,I r.src.1.length σ st→r.src.2=true∧F (.ok .nx σ st)):F (forC r pt b (r.src.1.length+1) 0 σ st):=by
 have go:∀(n i:Nat) (σ:Sg) (st:List Cell),i≤r.src.1.length→r.src.1.length-i<n→I i σ st→F (forC r pt b n i σ st):=by
  intro n
  induction n with
  |zero=>intro i σ st _ h;omega
  |succ n ih =>
   intro i σ st hi hn hI;unfold forC
   by_cases hl:i<r.src.1.length
   ·have hz:r.src.1[i]?=some r.src.1[i]:=Jf hl;obtain⟨l,el⟩:=all i _ hz;rw[el]at hz;have s:=step i l σ st hz hI;simp only[hz];unfold stepC at s;cases ep:pt i (.r st.length) σ with
    |none=>rw[ep]at s;exact s.elim
    |some σ1 =>
     rw[ep]at s;have s:SqX (I (i+1)) F (b σ1 (st++[.lst (l.map W.p)])):=s;dsimp only;cases er:b σ1 (st++[.lst (l.map W.p)])with
     |no=>rw[er]at s;exact s.elim
     |exc x σ2 st2=>rw[er]at s;exact s
     |ok fl σ2 st2 =>
      rw[er]at s;cases fl with
      |nx=>exact ih (i+1) σ2 st2 hl ∅ s
      |ct=>exact ih (i+1) σ2 st2 hl ∅ s
      |bk=>exact s
      |rt w=>exact s
   ·have hi':i=r.src.1.length:=by omega
    subst hi';obtain⟨h1,h2⟩:=fin σ st hI;simp only[Jw (Jq _)];rw[Jm h1];exact h2
 exact go _ 0 σ st (JI _) ∅ h0
end
section
open Y YZ NS
abbrev sm(m:Nat) (f:Nat→Int):Int:=((List.range m).map f).sum
section
variable {w:Wy}{s:Str}{A:Arcs}
def hdT(A:Arcs) (N:List Int) (j:Nat):List Int:=(sortI (srcs A (ix N (j:Int):Nat))).map (at0 N)
theorem rg_bR{m:Nat}{N:List Int}{i j:Nat} (hi:i<m) (hj:j<m):rg (bR A m N) j i=((hdT A N j).count (i:Int):Nat):=by
 unfold rg bR;rw[Ji,Vx hj];show((cntR m (hdT A N j))[i]?).getD 0=_;rw[zRV hi];show(((hdT A N j).filter fun x=>decide (x=(i:Int))).length:Int)=_
 rw[List.count,List.countP_eq_length_filter]
 congr 2
def eqW(w:Wy) (M:List (Nat×Int)) (R:List (List Int)) (m:Nat):List (List Int):=match w with
 | .two=>eq2 R m
 |_=>eq1 M R m
theorem zRU{R:List (List Int)}{j i:Nat}{r:List Int} (h:R[j]?=some r) (hi:r.length≤i):rg R j i=0:=by
 unfold rg;rw[h];show(r[i]?).getD 0=0;rw[Jw hi];rfl
theorem zQh{R:List (List Int)}{j i:Nat} (h:R.length≤j):rg R j i=0:=by
 have e:R[j]?=none:=Jw h;unfold rg;rw[e];rfl
theorem zNn(hW:Wb s A) (hs:s.length<64) (hl:A.length<100){i j:Nat}:0≤rg (bR A (stM (w:=w) hW hs) (stN (w:=w) hW hs)) j i∧rg (bR A (stM (w:=w) hW hs) (stN (w:=w) hW hs)) j i<100:=by
 have hB:=(zJy (w:=w) hW hs ∅).1
 by_cases hj:j<stM (w:=w) hW hs
 ·by_cases hi:i<stM (w:=w) hW hs
  ·rw[rg_bR hi hj]
   have:(hdT A (stN (w:=w) hW hs) j).count (i:Int)≤(hdT A (stN (w:=w) hW hs) j).length:=List.count_le_length
   have e:(hdT A (stN (w:=w) hW hs) j).length<100:=by
    unfold hdT;rw[Jb,(sortI_perm _).length_eq];exact Nat.lt_of_le_of_lt (zOg _ _) hl
   omega
  ·have hj2:j<(bR A (stM (w:=w) hW hs) (stN (w:=w) hW hs)).length:=by rw[hB.lr];exact hj
   have:rg (bR A (stM (w:=w) hW hs) (stN (w:=w) hW hs)) j i=0:=zRU (Jf hj2) (by
    have lr:=hB.row _ (Vg hj2)
    omega)
   omega
 ·have:rg (bR A (stM (w:=w) hW hs) (stN (w:=w) hW hs)) j i=0:=zQh (by rw[hB.lr];omega)
  omega
theorem zMJ(hl:A.length<100){m:Nat}{N:List Int}{t:Nat}:0≤nmb (bM w s A m N) t∧nmb (bM w s A m N) t<100:=by
 unfold nmb bM;rw[Ji];cases(List.range m)[t]? with
 |none=>exact⟨Int.le_refl _,by show(0:Int)<100;decide⟩
 |some j =>
  show 0≤(mkQ w s A _).2∧(mkQ w s A _).2<100;unfold mkQ;show 0≤(if kn w=true then _ else _:Int)∧(if kn w=true then _ else _:Int)<100
  split
  ·have:outs A (ix N (j:Int):Nat)≤A.length:=Va _ _
   omega
  ·omega
theorem zNY(hW:Wb s A) (hs:s.length<64) (hl:A.length<100):(∀r∈eqW w (bM w s A (stM (w:=w) hW hs) (stN (w:=w) hW hs)) (bR A (stM (w:=w) hW hs) (stN (w:=w) hW hs)) (stM (w:=w) hW hs),r.length=stM (w:=w) hW hs∧Bd 7 r):=by
 have bs:=fun{i j:Nat}=>zNn (w:=w) hW hs hl (i:=i) (j:=j)
 have ns:=fun{t:Nat}=>zMJ (w:=w) (s:=s) hl (m:=stM (w:=w) hW hs) (N:=stN (w:=w) hW hs) (t:=t)
 generalize bM w s A (stM (w:=w) hW hs) (stN (w:=w) hW hs)=M at *
 generalize bR A (stM (w:=w) hW hs) (stN (w:=w) hW hs)=R at *
 generalize stM (w:=w) hW hs=m at *
 have one:∀r∈eq1 M R m,r.length=m∧Bd 7 r:=fun r hr=>by
  obtain⟨t,ht,rfl⟩:=Jx.mp hr;unfold row1;refine⟨by simp,fun x hx=>?_⟩
  rcases VE hx with hx|rfl
  ·obtain⟨j,_,rfl⟩:=Jx.mp hx
   have:=bs (i:=t) (j:=j)
   show(-(rg R j t)).natAbs<128;omega
  ·have:=bs (i:=t) (j:=t)
   have:=ns (t:=t)
   show(-(rg R t t)+nmb M t).natAbs<128;omega
 cases w with
 |two =>
  intro r hr;obtain⟨a,ha,hr⟩:=List.mem_flatMap.mp hr;obtain⟨t,ht,rfl⟩:=Jx.mp hr;unfold row2;refine⟨by simp,fun x hx=>?_⟩
  have b1:=bs (i:=t) (j:=a);have b2:=bs (i:=a) (j:=t);rcases VE hx with hx|rfl
  ·rcases VE hx with hx|rfl
   ·rw[(List.mem_replicate.mp hx).2];decide
   ·show(rg R a t).natAbs<128;omega
  ·show(-(rg R t a)).natAbs<128;omega
 |_=>exact one
end
end
section
open Y YZ NS
def hd3(s:Str):List Int:=[if 97∈s.cps.toList then 1 else 0,if 98∈s.cps.toList then 1 else 0,if 99∈s.cps.toList then 1 else 0]
end
section
open Y YZ
structure En4 where
 x:Int
 y:Int
 z:Int
 n:Nat
def En4.P(q:Tr) (e:En4):P:=rstate q e.x e.y e.z e.n
def En4.C(e:En4):Y.P:=T3 e.x e.y e.z
def En4.nx(e:En4) (d:Int×Int×Int):En4:=⟨e.x+d.1*tw e.n,e.y+d.2.1*tw e.n,e.z+d.2.2*tw e.n,e.n+1⟩
def En4.ok(e:En4):Prop:=(0≤e.x∧e.x<tw e.n)∧(0≤e.y∧e.y<tw e.n)∧(0≤e.z∧e.z<tw e.n)
end
section
open Y YZ
open Classical in
def keep(q:Tr):Pjk→En4→P
 | .id,e=>.tup [e.P q,e.C]
 | .fst,e=>e.P q
end
section
open Y YZ
theorem lg{x:Int}{n:Nat} (h:n≤900) (hx:0≤x∧x<tw n):x.natAbs.log2<9000:=by
 have t:=tw_nat n;have l1:x.natAbs<2^n:=by rw[←t];omega
 exact Nat.lt_of_le_of_lt (Nat.le_of_lt_succ (Nat.lt_succ_of_lt (log2_lt (k:=n+1) (Nat.lt_trans l1 (Nat.pow_lt_pow_right (!0) (Vf n))) ∅))) ∅
section
variable {q:Tr}{es:List En4}{v:P}
def kc:P:=.str (Str.ofString "constant")
def kl:P:=.str (Str.ofString "letters")
def ks:P:=.str (Str.ofString "shares")
end
end
section
open Y YZ
def F8:List P:=[0,1].flatMap fun a=>[0,1].flatMap fun b=>[0,1].map fun c=>T3 a b c
def S1(R:List P):List P:=R.flatMap fun r=>F8.map fun f=>.tup [.tup [r],f]
def S2(R R':List P):List P:=R.flatMap fun r=>R'.flatMap fun r'=>F8.map fun f=>.tup [.tup [r,r'],f]
end
section
open Y YZ
def wi:Wy→Int
 | .heard=>1
 | .counted=>2
 | .two=>2
 | .marked=>3
variable {q:Tr}{es:List En4}{v:P}
end
section
open Y YZ NS
def zBf:FM:=runF 1 1 (sRet (mFld [(0,0)] (mVar 0)))
theorem zRK(t:Tr) (st:List Cell):zAP zBf [.p (qob t)] st=.ok (.p t.enc) st:=Pu.call1 (Pu.of1 (by simp[zBf,zAG,qob])) st
end
end YS
namespace K33
open Y YZ YS NS
section
def zDu:List EM:=[(zPD 0 zBf (zFg 0 zAK [] %[(mVar 4)|0])),
 (zFg 0 zAK [] %[(mVar 4)|0])]
def sm_law:FM:=runF 1 10 (sSeq (sSet 1 (zAH zCZ %[(mVar 0)|0]))
  (sSeq (sSet 2 (zCs %[(mC (.str "")),(mC (.str " ")),(mC (.str "a")),(mC (.str "a >=")),(mC (.str "a >= 1 ")),(mC (.str " a >= 1")),(mC (.str "a >= 01")),(mC (.str "a >= -0"))|0]))
  (sSeq (sSet 2 (mBin zCy (mVar 2) (mLst %[(mC (.str "1*a >= 1")),(mC (.str "0*a >= 1")),(mC (.str "4*a >= 1")),(mC (.str "a >= 10"))|0])))
  (sSeq (sSet 2 (mBin zCy (mVar 2) (mLst %[(mC (.str "a > 1")),(mC (.str "a >= 1 and")),(mC (.str "and a >= 1")),(mC (.str "a>=1")),(mC (.str "b + a >= 1"))|0])))
  (sSeq (sSet 2 (mBin zCy (mVar 2) (mLst %[(mC (.str "a + a >= 1")),(mC (.str "- a >= 1")),(mC (.str "-a >= 1")),(mC (.str "a mod 2 = 2"))|0])))
  (sSeq (sSet 2 (mBin zCy (mVar 2) (mLst %[(mC (.str "a mod 6 = 1")),(mC (.str "a mod 2 >= 1")),(mC (.str "a mod 1 = 0")),(mC (.str "(a >= 1)"))|0])))
  (sSeq (sSet 2 (mBin zCy (mVar 2) (mLst %[(mC (.str "not (a >= 1)")),(mC (.str "not not a >= 1")),(mC (.str "a >= 1 or (b >= 1 and c >= 1)"))|0])))
  (sSeq (sSet 2 (mBin zCy (mVar 2) (mLst %[(mC (.str "(a >= 1 or b >= 1")),(mC (.str "a >= 1) or b >= 1"))|0])))
  (sSeq (sSet 2 (mBin zCy (mVar 2) (mLst %[(mC (.str "a >= 1 and b >= 1 and c >= 1 and a >= 1")),(mBin vAdd (mBin zCP (mC (.str "not ")) (mC (.int 3))) (mC (.str "a = -9")))|0])))
  (sSeq (sSet 2 (mBin zCy (mVar 2) (mLst %[(mBin vAdd (mBin zCP (mC (.str "not ")) (mC (.int 4))) (mC (.str "a = -9"))),(mC (.str "m >= 1")),(mC (.str "a <= 9")),(mC (.str "a = 1 or b = 1 and c = 1"))|0])))
  (sSeq (sSet 2 (mBin zCy (mVar 2) (mLst %[(mC (.str "A >= 1"))|0])))
  (sSeq (sFor (zEs (mC (.int 10))) (.nm 3) (sSeq (sSet 4 (zAH (zAe 12) %[(zAH (zBs 12) %[(mVar 1),(mC (.int 3)),(mC (.int 3)),(mC (.int 9))|0])|0]))
  (sSeq (sFor (zEs (mBin vAdd (mC (.int 1)) (zAH zAS %[(mVar 1),(mC (.int 2))|0]))) (.nm 6) (sSeq (sSet 8 (zAH zAS %[(mVar 1),(mBin vAdd (zAJ vLen %[(mVar 4)|0]) (mC (.int 1)))|0]))
  (sSet 4 (mBin vAdd (mBin vAdd (mSl (mVar 4) zCi (zA0 (mVar 8))) (zAH zCM %[(mVar 1),(mLst %[(mC (.str "")),(mC (.str " ")),(mC (.str "a")),(mC (.str "(")),(mC (.str ")")),(mC (.str "-")),(mC (.str "1")),(mC (.str "*")),(mC (.str "=")),(mC (.str "not ")),(mC (.str "2*"))|0])|0])) (mSl (mVar 4) (zA0 (mBin vAdd (mVar 8) (zAH zAS %[(mVar 1),(mC (.int 2))|0]))) zCi)))))
  (zEG (mBm "list" zBm (mVar 2) %[(mVar 4)|0])))))
  (sSeq (sFor (mSrc (mVar 2)) (.nm 4) (sSeq (sPut (.tp [(.nm 7),(.nm 8)]) (zAH (zAn (zAO 12)) %[(mBm "str" zGQ (zHB ")" " )" (zHB "(" "( " (mVar 4))) %[(mC (.str " "))|0]),(mC (.int 0)),(mC (.int 0))|0]))
  (sSeq (sSet 9 (zCS (mBin (vIsN true) (mVar 7) (mC .non)) (zCS (mBin (vEqB false) (mBin vIx (zAH zAr %[(mVar 7)|0]) (mC (.int 0))) (mC (.str "value"))) (mBin (vEqB false) (zAH (zAe 12) %[(mVar 7)|0]) (mVar 4)))))
  (sIf (zDK (mTru (zAH (zAg 12) %[(zMK [(29, "InvalidQuestion",none),(30, "TooMany",some "most"),(31, "InvalidText",none)] 0 zDu (mLam 0 0)),(mIfE (mTru (mVar 9)) (mTup %[(mC (.str "value")),(mVar 7)|0]) (mTup %[(mC (.str "InvalidText")),(mC .non)|0]))|0]))) (sRet (mC (.bl false))) sNx))))
  (sSeq (sSet 5 (mLst %[(mBin zCP (mC (.str "(")) (mC (.int 900))),(mBin vAdd (mBin zCP (mC (.str "not ")) (mC (.int 450))) (mC (.str "a = 1"))),(mBin vAdd (mBin vAdd (mBin zCP (mC (.str "(")) (mC (.int 300))) (mC (.str "a = 1"))) (mBin zCP (mC (.str ")")) (mC (.int 300))))|0]))
  (sSeq (sSet 5 (mBin vAdd (mVar 5) (mLst %[(mBin vAdd (mC (.str "a = 1")) (mBin zCP (mC (.str " and a = 1")) (mC (.int 180)))),(mBin vAdd (mBin vAdd (mBin zCP (mC (.str "(")) (mC (.int 13))) (mC (.str "a = 1"))) (mBin zCP (mC (.str ")")) (mC (.int 13))))|0])))
  (sRet (mBin (vEqB false) (mLc (mSrc (mVar 5)) (.nm 4) [4] mYes (nlM (zFT [(29, "InvalidQuestion",none),(30, "TooMany",some "most"),(31, "InvalidText",none)] 1 (oneF 1 (zFg 0 zAK [] %[(mVar 4)|0])) (mLam 1 1))) finP) (mBin zJa (mLst %[(mC (.str "InvalidText"))|0]) (mC (.int 5))))))))))))))))))))
def b3:SMm:=(sSeq (sSet 8 (zAH zAS %[(mVar 1),(mBin vAdd (zAJ vLen %[(mVar 4)|0]) (mC (.int 1)))|0])) (sSet 4 (mBin vAdd (mBin vAdd (mSl (mVar 4) zCi (zA0 (mVar 8))) (zAH zCM %[(mVar 1),(mLst %[(mC (.str "")),(mC (.str " ")),(mC (.str "a")),(mC (.str "(")),(mC (.str ")")),(mC (.str "-")),(mC (.str "1")),(mC (.str "*")),(mC (.str "=")),(mC (.str "not ")),(mC (.str "2*"))|0])|0])) (mSl (mVar 4) (zA0 (mBin vAdd (mVar 8) (zAH zAS %[(mVar 1),(mC (.int 2))|0]))) zCi))))
def b1:SMm:=(sSeq (sSet 4 (zAH (zAe 12) %[(zAH (zBs 12) %[(mVar 1),(mC (.int 3)),(mC (.int 3)),(mC (.int 9))|0])|0])) (sSeq (sFor (zEs (mBin vAdd (mC (.int 1)) (zAH zAS %[(mVar 1),(mC (.int 2))|0]))) (.nm 6) b3) (zEG (mBm "list" zBm (mVar 2) %[(mVar 4)|0]))))
def b2:SMm:=(sSeq (sPut (.tp [(.nm 7),(.nm 8)]) (zAH (zAn (zAO 12)) %[(mBm "str" zGQ (zHB ")" " )" (zHB "(" "( " (mVar 4))) %[(mC (.str " "))|0]),(mC (.int 0)),(mC (.int 0))|0])) (sSeq (sSet 9 (zCS (mBin (vIsN true) (mVar 7) (mC .non)) (zCS (mBin (vEqB false) (mBin vIx (zAH zAr %[(mVar 7)|0]) (mC (.int 0))) (mC (.str "value"))) (mBin (vEqB false) (zAH (zAe 12) %[(mVar 7)|0]) (mVar 4))))) (sIf (zDK (mTru (zAH (zAg 12) %[(zMK [(29 , "InvalidQuestion" ,none),(30 , "TooMany" ,some "most"),(31 , "InvalidText" ,none)] 0 zDu (mLam 0 0)),(mIfE (mTru (mVar 9)) (mTup %[(mC (.str "value")),(mVar 7)|0]) (mTup %[(mC (.str "InvalidText")),(mC .non)|0]))|0]))) (sRet (mC (.bl false))) sNx)))
def bE:SMm:=(sSeq (sSet 5 (mLst %[(mBin zCP (mC (.str "(")) (mC (.int 900))),(mBin vAdd (mBin zCP (mC (.str "not ")) (mC (.int 450))) (mC (.str "a = 1"))),(mBin vAdd (mBin vAdd (mBin zCP (mC (.str "(")) (mC (.int 300))) (mC (.str "a = 1"))) (mBin zCP (mC (.str ")")) (mC (.int 300))))|0])) (sSeq (sSet 5 (mBin vAdd (mVar 5) (mLst %[(mBin vAdd (mC (.str "a = 1")) (mBin zCP (mC (.str " and a = 1")) (mC (.int 180)))),(mBin vAdd (mBin vAdd (mBin zCP (mC (.str "(")) (mC (.int 13))) (mC (.str "a = 1"))) (mBin zCP (mC (.str ")")) (mC (.int 13))))|0]))) (sRet (mBin (vEqB false) (mLc (mSrc (mVar 5)) (.nm 4) [4] mYes (nlM (zFT [(29 , "InvalidQuestion" ,none),(30 , "TooMany" ,some "most"),(31 , "InvalidText" ,none)] 1 (oneF 1 (zFg 0 zAK [] %[(mVar 4)|0])) (mLam 1 1))) finP) (mBin zJa (mLst %[(mC (.str "InvalidText"))|0]) (mC (.int 5)))))))
def bX:SMm:=(sSeq (sFor (zEs (mC (.int 10))) (.nm 3) b1) (sSeq (sFor (mSrc (mVar 2)) (.nm 4) b2) bE))
def zLc:FM:=runF 1 10 (sSeq (sSet 1 (zAH zCZ %[(mVar 0)|0])) (sSeq (sSet 2 (zCs %[(mC (.str "")),(mC (.str " ")),(mC (.str "a")),(mC (.str "a >=")),(mC (.str "a >= 1 ")),(mC (.str " a >= 1")),(mC (.str "a >= 01")),(mC (.str "a >= -0"))|0])) (sSeq (sSet 2 (mBin zCy (mVar 2) (mLst %[(mC (.str "1*a >= 1")),(mC (.str "0*a >= 1")),(mC (.str "4*a >= 1")),(mC (.str "a >= 10"))|0]))) (sSeq (sSet 2 (mBin zCy (mVar 2) (mLst %[(mC (.str "a > 1")),(mC (.str "a >= 1 and")),(mC (.str "and a >= 1")),(mC (.str "a>=1")),(mC (.str "b + a >= 1"))|0]))) (sSeq (sSet 2 (mBin zCy (mVar 2) (mLst %[(mC (.str "a + a >= 1")),(mC (.str "- a >= 1")),(mC (.str "-a >= 1")),(mC (.str "a mod 2 = 2"))|0]))) (sSeq (sSet 2 (mBin zCy (mVar 2) (mLst %[(mC (.str "a mod 6 = 1")),(mC (.str "a mod 2 >= 1")),(mC (.str "a mod 1 = 0")),(mC (.str "(a >= 1)"))|0]))) (sSeq (sSet 2 (mBin zCy (mVar 2) (mLst %[(mC (.str "not (a >= 1)")),(mC (.str "not not a >= 1")),(mC (.str "a >= 1 or (b >= 1 and c >= 1)"))|0]))) (sSeq (sSet 2 (mBin zCy (mVar 2) (mLst %[(mC (.str "(a >= 1 or b >= 1")),(mC (.str "a >= 1) or b >= 1"))|0]))) (sSeq (sSet 2 (mBin zCy (mVar 2) (mLst %[(mC (.str "a >= 1 and b >= 1 and c >= 1 and a >= 1")),(mBin vAdd (mBin zCP (mC (.str "not ")) (mC (.int 3))) (mC (.str "a = -9")))|0]))) (sSeq (sSet 2 (mBin zCy (mVar 2) (mLst %[(mBin vAdd (mBin zCP (mC (.str "not ")) (mC (.int 4))) (mC (.str "a = -9"))),(mC (.str "m >= 1")),(mC (.str "a <= 9")),(mC (.str "a = 1 or b = 1 and c = 1"))|0]))) (sSeq (sSet 2 (mBin zCy (mVar 2) (mLst %[(mC (.str "A >= 1"))|0]))) bX)))))))))))
theorem law_eq:sm_law=zLc:=rfl
def Yes(r:Res W):Prop:=∃st,r=.ok (.p (.bl true)) st
open SX (S S_inj S_len S_cat S_beq S_tl)
theorem zL8{x:P} (h:datP 11 x=true) (st:List Cell):zAP (zAg 12) [.p x,.p x] st=.ok (.p (.bl true)) st:=same_refl 11 x h st
theorem zQm{v:P}{n:Nat} (ho:RdP n v) (hn:n≤28) (hf:isT 4 v=false) (st:List Cell):zAP zAr [.p v] st=.ok (.p (.tup [.str "InvalidQuestion",.non])) st:=by
 refine Pu.call1 (Pu.of1 ?_) st;have e:=fun st=>zEO 4 12 n v (!0) (!0) ho.od (ho.sz.mono ∅) 1 (!0) st
 simp[zAr,zAG,e,hf]
theorem zPS{t:Tr}{n:Nat} (ho:RdP n t.enc) (hn:n≤28) (hg:t.good) (hd:t.depth≤4) (hf:isT 4 t.enc=true) (st:List Cell):zAP zAr [.p t.enc] st=.ok (.p (if t.atoms.length≤3 then .tup [.str "value",t.enc]else .tup [.str "TooMany",.int 3])) st:=by
 refine Pu.call1 (Pu.of1 ?_) st;have e:=fun st=>zEO 4 12 n t.enc (!0) (!0) ho.od (ho.sz.mono ∅) 1 (!0) st
 have:t.atoms.length≤256:=Jt (zET 4 t hg hd) (!0)
 by_cases h3:t.atoms.length≤3
 ·simp[zAr,zAG,e,hf,zFW 12 t hg ∅ ∅,h3,show(t.atoms.length:Int)≤3 by omega]
 ·simp[zAr,zAG,e,hf,zFW 12 t hg ∅ ∅,h3,show ¬(t.atoms.length:Int)≤3 by omega]
def gt(z:Str):Bool:=decide (z.cps.toList.length≤179)&&z.cps.toList.all fun c=>decide (c<256)
theorem S_of(z:Str):z=S z.cps.toList:=by cases z;simp[S]
theorem gt_S{l:List Nat} (h:l.length≤179) (hc:∀c∈l,c<256):gt (S l)=true:=by
 unfold gt;rw[Jj];have e:(S l).cps.toList=l:=by simp[S]
 rw[e];exact⟨JO h,Jp.mpr fun c m=>JO (hc c m)⟩
theorem gt_of{z:Str} (h:gt z=true):∃l,z=S l∧l.length≤179∧∀c∈l,c<256:=by
 unfold gt at h;rw[Jj]at h;exact⟨_,S_of z,Jv h.1,fun c m=>Jv (Jp.mp h.2 c m)⟩
def sg0(a0 a3 a4 a6 a7 a8 a9:Option W):Sg:=[a0,some (.r 0),some (.r 10),a3,a4,none,a6,a7,a8,a9]
def bI:SMm:=(sSeq (sSet 9 (zCS (mBin (vIsN true) (mVar 7) (mC .non)) (zCS (mBin (vEqB false) (mBin vIx (zAH zAr %[(mVar 7)|0]) (mC (.int 0))) (mC (.str "value"))) (mBin (vEqB false) (zAH (zAe 12) %[(mVar 7)|0]) (mVar 4))))) (sIf (zDK (mTru (zAH (zAg 12) %[(zMK [(29 , "InvalidQuestion" ,none),(30 , "TooMany" ,some "most"),(31 , "InvalidText" ,none)] 0 zDu (mLam 0 0)),(mIfE (mTru (mVar 9)) (mTup %[(mC (.str "value")),(mVar 7)|0]) (mTup %[(mC (.str "InvalidText")),(mC .non)|0]))|0]))) (sRet (mC (.bl false))) sNx))
theorem b2_eq:b2=(sSeq (sPut (.tp [(.nm 7),(.nm 8)]) (zAH (zAn (zAO 12)) %[(mBm "str" zGQ (zHB ")" " )" (zHB "(" "( " (mVar 4))) %[(mC (.str " "))|0]),(mC (.int 0)),(mC (.int 0))|0])) bI):=rfl
theorem zNe(x:P) (st:List Cell):vIsN true (.p x) (.p .non) st=.ok (.p (.bl (!isNon x))) st:=by
 cases x<;>rfl
theorem bI_yes{a0 a3 a6 a8 a9:Option W}{t:Tr} (tf:t.fit){n:Nat} (hp:RdP n t.enc) (hn:n≤28) (st:List Cell) :
  bI (sg0 a0 a3 (some (.p (.str (S t.txN)))) a6 (some (.p t.enc)) a8 a9) st=.ok .nx (sg0 a0 a3 (some (.p (.str (S t.txN)))) a6 (some (.p t.enc)) a8 (some (.p (.bl true)))) st:=by
 obtain⟨hg,hd,ha⟩:=id tf;have nn:=fun st=>zNe t.enc st
 rw[zGd]at nn
 have hT:isT 4 t.enc=true:=by
  have e1:=zFP 12 t 1 hg ∅ ∅ ∅ [];rw[zFl 4 12 n t.enc (!0) (!0) ∅ hp 1 (!0) []]at e1;simpa using e1
 have du:=fun st=>zPS hp hn hg hd hT st
 rw[Jm ha]at du;have lt:=fun st=>zE1 4 t hg hd (!0) 12 ∅ st
 have rx:=fun st=>zOE tf st
 have qt:=fun st=>zRK t st
 have cq:∀st,clsOf st (.p (qob t))=some 0:=fun _=>rfl
 have s1:=fun st=>zL8 (x:=.tup [.str "value",t.enc]) (by simp[datP,(Sz.enc hg 10 ∅).2]) st
 simp[bI,sg0,nn,du,lt,rx,qt,cq,s1,zDu]
theorem bI_no{a0 a3 a6 a8 a9:Option W}{l:List Nat} (hl:l.length≤179) (hc:∀c∈l,c<256) (hne:∀t:Tr,t.fit→t.txN≠l){r:P}{n:Nat} (hp:RdP n r) (hn:n≤28) (st:List Cell) :
  bI (sg0 a0 a3 (some (.p (.str (S l)))) a6 (some (.p r)) a8 a9) st=.ok .nx (sg0 a0 a3 (some (.p (.str (S l)))) a6 (some (.p r)) a8 (some (.p (.bl false)))) st:=by
 have nn:=fun st=>zNe r st
 have rx:=fun st=>zOc hl hc hne st
 have s1:=fun st=>zL8 (x:=.tup [.str "InvalidText",.non]) (by simp[datP]) st
 by_cases h1:isNon r=true
 ·simp[bI,sg0,nn,h1,rx,s1,zDu,JE]
 ·by_cases hT:isT 4 r=true
  ·obtain⟨t,rfl,hg,hd⟩:=zPJ 4 r hT;have du:=fun st=>zPS hp hn hg hd hT st
   have lt:=fun st=>zE1 4 t hg hd (!0) 12 ∅ st
   by_cases ha:t.atoms.length≤3
   ·rw[Jm ha]at du;have ne:=hne t ⟨hg,hd,ha⟩;simp[bI,sg0,nn,h1,du,lt,rx,s1,zDu,JE,S_eq,ne]
   ·rw[Js ha]at du;simp[bI,sg0,nn,h1,du,rx,s1,zDu,JE]
  ·have du:=fun st=>zQm hp hn (by simpa using hT) st
   simp[bI,sg0,nn,h1,du,rx,s1,zDu,JE]
theorem b2_ok{a0 a3 a6 a7 a8 a9:Option W}{z:Str} (hz:gt z=true) (st:List Cell):∃b7 b8 b9,b2 (sg0 a0 a3 (some (.p (.str z))) a6 a7 a8 a9) st=.ok .nx (sg0 a0 a3 (some (.p (.str z))) a6 b7 b8 b9) st:=by
 obtain⟨l,rfl,hl,hc⟩:=gt_of hz;obtain⟨w1,w2,w3,_⟩:=zKX hl hc;obtain⟨r,j,e,hp,rd⟩:=zPF w2 w1 w3;have r1:=fun a=>zKD (c:=40) (!0) a [40,32]
 have r2:=fun a=>zKD (c:=41) (!0) a [32,41]
 have l1:=zIn 40 40 32 l;have l2:=zIn 41 32 41 (rp 40 [40,32] l);have sp:=zJ7 (rp 41 [32,41] (rp 40 [40,32] l));have rd:∀st,zAP (zAn (zAO 12)) [.p (.lst ((rwds l).map (P.str∘S))),.p (.int 0),.p (.int 0)] st=.ok (.p (.tup [r,.int ((j:Nat):Int)])) st:=rd
 have step:b2 (sg0 a0 a3 (some (.p (.str (S l)))) a6 a7 a8 a9) st=bI (sg0 a0 a3 (some (.p (.str (S l)))) a6 (some (.p r)) (some (.p (.int j))) a9) st:=by
  rw[b2_eq];unfold rwds rep2 at rd;simp[sg0,k_op,k_cl,k_op2,k_cl2,k_sp,r1,r2,S_len,sp];rw[Jm ∅,Jm ∅,Jm ∅];simp[rd]
 rw[step]
 by_cases he:∃t:Tr,t.fit∧t.txN=l
 ·obtain⟨t,tf,rfl⟩:=he;rw[zIN tf.1,zLL tf.1 (by have:=tf.2.1;omega) 10 (!0)]at e
  cases e;exact⟨_,_,_,bI_yes tf hp (!0) st⟩
 ·exact⟨_,_,_,bI_no hl hc (fun t f q=>he ⟨t,f,q⟩) hp (!0) st⟩
def bits:List P:=[.str "",.str " ",.str "a",.str "(",.str ")",.str "-",.str "1",.str "*",.str "=",.str "not ",.str "2*"]
theorem bit_ok{x:P} (h:x∈bits):∃u:List Nat,x=.str (S u)∧u.length≤4∧∀c∈u,c<256:=by
 have k:∀z∈[Str.ofString "", " ", "a", "(", ")", "-", "1", "*", "=", "not ", "2*"],z.cps.toList.length≤4∧∀c∈z.cps.toList,c<256:=by decide +kernel
 have e:bits=([Str.ofString "", " ", "a", "(", ")", "-", "1", "*", "=", "not ", "2*"]).map P.str:=rfl;rw[e]at h;obtain⟨z,mz,rfl⟩:=Jx.mp h;exact⟨z.cps.toList,by rw[←S_of],(k z mz).1,(k z mz).2⟩
theorem b3_ok{a0 a3 a6 a8:Option W}{l:List Nat} (hl:l.length≤500){c:Cell} (hc:GB c) (rest:List Cell):∃l' c' b8,GB c'∧(l'.length≤l.length+4∧∀x∈l',x∈l∨x<256) ∧
  b3 (sg0 a0 a3 (some (.p (.str (S l)))) a6 none a8 none) (c::rest)=.ok .nx (sg0 a0 a3 (some (.p (.str (S l')))) a6 none b8 none) (c'::rest):=by
 obtain⟨_,c1,e1,hc1,i,rfl,hi,hi2⟩:=(zCf (n:=(l.length:Int)+1) ∅ (zBp ∅ ∅)).call1 hc rest;obtain⟨x,c2,e2,hc2,hx⟩:=(zNj (l:=bits) (by simp[bits]) (by simp[bits])).call1 hc1 rest
 obtain⟨u,rfl,hu,hu2⟩:=bit_ok hx;obtain⟨_,c3,e3,hc3,d,rfl,hd,hd2⟩:=(zCf (n:=2) (!0) ⋯).call1 hc2 rest;unfold bits at e2;obtain⟨i,rfl⟩:=Vq hi;obtain⟨d,rfl⟩:=Vq hd;refine⟨l.take i++u++l.drop (i+d),c3,some (.p (.int i)),hc3,⟨by simp;omega,fun x mx=>?_⟩,?_⟩
 ·rcases JC.mp mx with m|m
  ·rcases JC.mp m with m|m
   ·exact .inl (Yt m)
   ·exact .inr (hu2 x m)
  ·exact .inl (Yu m)
 ·have t1:cutS (S l) none (some (i:Int))=S (l.take i):=by rw[zEn,zM4 ∅];rfl
  have t2:cutS (S l) (some ((i:Int)+(d:Int))) none=S (l.drop (i+d)):=by rw[zEn,zGJ ∅];rfl
  simp[b3,sg0,S_len,show l.length≤1000000 by omega,e1,e2,e3,t1,t2,S_cat]
  rw[Jm ∅,Jm ∅]
theorem zJ1(z:List Nat):∀(l:List (List Nat)) (x:Nat),x∈TL.joinL z l→x∈z∨∃p∈l,x∈p
 |[],x,h=>by simp[TL.joinL]at h
 |[p],x,h=>.inr ⟨p,by simp,by simpa[TL.joinL]using h⟩
 |p::q::l,x,h=>by
  rw[zBv _ _ (by simp)]at h
  rcases JC.mp h with h|h
  ·exact .inr ⟨p,by simp,h⟩
  ·rcases JC.mp h with h|h
   ·exact .inl h
   ·rcases zJ1 z (q::l) x h with h|⟨r,mr,h⟩
    ·exact .inl h
    ·exact .inr ⟨r,Jg _ mr,h⟩
theorem zPd:∀a∈i7,∀b∈i7,∀c∈i7,∀x∈sumN a b c,x<256:=by decide +kernel
theorem zMF{i:Int} (h : -9≤i) (h2:i≤9):∀x∈numN i,x<256:=by
 intro x m;unfold numN at m;split at m<;>simp at m<;>omega
theorem zPZ{k:Bool}{l:List Nat} (h:∀x∈l,x<256):∀x∈parN k l,x<256:=by
 intro x m;unfold parN at m;split at m
 ·rcases Jr.mp m with rfl|m
  ·decide
  ·rcases JC.mp m with m|m
   ·exact h x m
   ·have:x=41:=by simpa using m
    omega
 ·exact h x m
theorem zRk:∀(n:Nat) (t:Tr),t.depth≤n→t.good→∀x∈t.txN,x<256
 |0,t,h,_,_,_=>by cases t<;>rw[Tr.depth]at h<;>omega
 |n+1,.at w a b c k,_,hg,x,m=>by
  rw[Tr.good]at hg;rw[Tr.txN]at m;obtain⟨h3,h4,h5⟩:=hg;have s:=zPd a (mem7 h3.1.1 h3.1.2) b (mem7 h3.2.1.1 h3.2.1.2) c (mem7 h3.2.2.1.1 h3.2.2.1.2) x;have n1:=zMF h4 h5 x;have g:x∈sgN w→x<256:=by cases w<;>simp[YS.sgN]<;>omega
  simp only[JC]at m;rcases m with m|m|m|m|m
  ·exact s m
  ·simp at m;omega
  ·exact g m
  ·simp at m;omega
  ·exact n1 m
 |n+1,.rest a b c d k,_,hg,x,m=>by
  rw[Tr.good]at hg;rw[Tr.txN]at m;obtain⟨h3,h4,h5,h6,h7⟩:=hg;have s:=zPd a (mem7 h3.1.1 h3.1.2) b (mem7 h3.2.1.1 h3.2.1.2) c (mem7 h3.2.2.1.1 h3.2.2.1.2) x;have n1:=zMF (i:=k) ∅ ∅ x;have n2:=zMF (i:=d) ∅ ∅ x;simp only[JC]at m;rcases m with m|m|m|m|m
  ·exact s m
  ·simp at m;omega
  ·exact n2 m
  ·simp at m;omega
  ·exact n1 m
 |n+1,.no t,h,hg,x,m=>by
  rw[Tr.depth]at h;rw[Tr.good]at hg;rw[Tr.txN]at m;rcases JC.mp m with m|m
  ·simp at m;omega
  ·exact zPZ (zRk n t ∅ hg) x m
 |n+1,.op b l,h,hg,x,m=>by
  rw[Tr.depth]at h;rw[Tr.good,zAk]at hg;rw[Tr.txN,zEc]at m;rcases zJ1 _ _ x m with m|⟨p,mp,m⟩
  ·cases b<;>simp[opN]at m<;>omega
  ·obtain⟨t,mt,rfl⟩:=Jx.mp mp;exact zPZ (zRk n t (by have:=zAi mt;omega) (hg.2.2 t mt)) x m
abbrev TT(T:List Str):Cell:=Cell.lst (T.map fun z=>W.p (.str z))
theorem nl_TT(T:List Str):nlC (TT T)=true:=by
 show(T.map fun z=>W.p (.str z)).all nlW=true
 rw[List.all_map,Jp];intro x _;show nlP (.str x)=true;simp[nlP]
theorem b1_ok(F:SR→Prop){a0 a3 a4 a6 a8:Option W}{c:Cell} (hc:GB c){rest:List Cell}{T:List Str} (hT:rest[9]?=some (TT T)) (hg:T.all gt=true) (hn:T.length≤900) (hr:rest.all nlC=true) :
  Sq (fun σ st=>∃c' a3 a4 a6 a8 rest' T',GB c'∧rest'.all nlC=true∧rest'[9]?=some (TT T')∧T'.all gt=true∧T'.length=T.length+1∧σ=sg0 a0 a3 a4 a6 none a8 none∧st=c'::rest') F (b1 (sg0 a0 a3 a4 a6 none a8 none) (c::rest)):=by
 obtain⟨_,c1,e1,hc1,t,rfl,tok,td,ta⟩:=(zRj (m:=3) (b:=9) (!0) (!0) (!0) (!0) 12 3 (!0) (!0) (!0)).call3 hc rest;have tf:t.fit:=⟨zNg (!0) (!0) t.depth t (Jq _) tok,∅,∅⟩;obtain⟨_,c2,e2,hc2,n,rfl,hn1,hn2⟩:=(zCf (n:=2) (!0) ⋯).call1 hc1 rest;have lt:=fun st=>zE1 4 t tf.1 tf.2.1 (!0) 12 (by have:=tf.2.1;omega) st
 have sz:=zKF tf;have tc:∀x∈t.txN,x<256:=zRk t.depth t (Jq _) tf.1;obtain⟨n,rfl⟩:=Vq hn1
 conv=>arg 3;simp[b1,sg0,e1,lt,e2,-zBQ]
 rw[Jm ∅]
 have ll:(rngL 0 (1+(n:Int)).toNat).length≤2:=by
  rw[zH7];omega
 generalize rngL 0 (1+(n:Int)).toNat=L at ll;refine zBg (fun r=>Sq _ F (r.then _)) (fun i σ st=>∃c l a6 a8,GB c∧l.length≤171+4*i∧(∀x∈l,x<256)∧σ=sg0 a0 a3 (some (.p (.str (S l)))) a6 none a8 none∧st=c::rest) ⟨c2,t.txN,_,_,hc2,∅,tc,rfl,rfl⟩ ?_ ?_
 ·rintro i w σ st hi ⟨c,l,a6,a8,hc,hl,hx,rfl,rfl⟩;have hi:i<L.length:=(Ja.mp hi).1;obtain⟨l',c',b8,hc',⟨h1,h2⟩,e⟩:=b3_ok (a0:=a0) (a3:=a3) (a6:=some w) (a8:=a8) (l:=l) ∅ hc rest;have e2:zFu (.nm 6) b3 w (sg0 a0 a3 (some (.p (.str (S l)))) a6 none a8 none) (c::rest)=b3 (sg0 a0 a3 (some (.p (.str (S l)))) (some w) none a8 none) (c::rest):=by simp[sg0]
  rw[e2,e];exact⟨c',l',_,_,hc',∅,fun x m=>(h2 x m).elim (hx x) id,rfl,rfl⟩
 ·rintro σ st ⟨c,l,a6,a8,hc,hl,hx,rfl,rfl⟩
  have e:(zEG (mBm "list" zBm (mVar 2) %[(mVar 4)|0])) (sg0 a0 a3 (some (.p (.str (S l)))) a6 none a8 none) (c::rest)=.ok .nx (sg0 a0 a3 (some (.p (.str (S l)))) a6 none a8 none) (c::rest.set 9 (TT (T++[S l]))):=by
   simp[sg0,hT,show T.length<1000000 by omega]
   simp[TT]
  show Sq _ F (zEG _ _ _);rw[e];refine⟨c,a3,_,a6,a8,_,T++[S l],hc,?_,?_,?_,by simp,rfl,rfl⟩
  ·refine Jp.mpr fun x mx=>?_
   rcases VE mx with m|rfl
   ·exact Jp.mp hr x m
   ·exact nl_TT _
  ·rw[JL (Ja.mp hT).1]
  ·rw[List.all_append,hg];simp;exact gt_S ∅ hx
def wM:EM:=nlM (zFT [(29 , "InvalidQuestion" ,none),(30 , "TooMany" ,some "most"),(31 , "InvalidText" ,none)] 1 (oneF 1 (zFg 0 zAK [] %[(mVar 4)|0])) (mLam 1 1))
theorem bE_eq:bE=(sSeq (sSet 5 (mLst %[(mBin zCP (mC (.str "(")) (mC (.int 900))),(mBin vAdd (mBin zCP (mC (.str "not ")) (mC (.int 450))) (mC (.str "a = 1"))),(mBin vAdd (mBin vAdd (mBin zCP (mC (.str "(")) (mC (.int 300))) (mC (.str "a = 1"))) (mBin zCP (mC (.str ")")) (mC (.int 300))))|0])) (sSeq (sSet 5 (mBin vAdd (mVar 5) (mLst %[(mBin vAdd (mC (.str "a = 1")) (mBin zCP (mC (.str " and a = 1")) (mC (.int 180)))),(mBin vAdd (mBin vAdd (mBin zCP (mC (.str "(")) (mC (.int 13))) (mC (.str "a = 1"))) (mBin zCP (mC (.str ")")) (mC (.int 13))))|0]))) (sRet (mBin (vEqB false) (mLc (mSrc (mVar 5)) (.nm 4) [4] mYes wM finP) (mBin zJa (mLst %[(mC (.str "InvalidText"))|0]) (mC (.int 5))))))):=rfl
def far(z:Str):Bool:=decide (z.cps.toList.length≤1000000)&&(decide (250<z.cps.toList.length)||decide (12<z.cps.toList.count 40))
theorem zMc{z:Str} (hz:far z=true){σ:Sg} (h4:σ[4]?=some (some (.p (.str z)))){st:List Cell} (hn:st.all nlC=true):wM σ st=.ok (.p (.str (Str.ofString "InvalidText"))) st:=by
 unfold far at hz;rw[Jj,VS]at hz;have h1:=Jv hz.1;have h2:250<z.cps.toList.length∨12<z.cps.toList.count 40:=hz.2.imp Jv Jv;have rx:=fun st=>zIb h1 h2 st
 rw[←S_of]at rx;unfold wM;rw[zPH]
 have e:(zDB [(29 , "InvalidQuestion" ,none),(30 , "TooMany" ,some "most"),(31 , "InvalidText" ,none)] (zFg 0 zAK [] %[(mVar 4)|0]) σ st).bind zE7=.ok (.p (.str (Str.ofString "InvalidText"))) st:=by
  simp[zDB,h4,rx,JE,zE7]
 rw[e];dsimp only;rw[Jm ⟨rfl,hn⟩]
theorem zM7{l:List Nat} (h:l.length≤1000000) (h2:250<l.length∨12<l.count 40):far (S l)=true:=by
 unfold far;have e:(S l).cps.toList=l:=by simp[S]
 rw[Jj,VS,e];exact⟨JO h,h2.imp (fun z=>JO z) fun z=>JO z⟩
theorem zI9(a:List Nat) (n:Nat):zBj (S a) n=S (List.replicate n a).flatten:=by simp[zBj,S]
theorem zFp(a:List Nat) (n:Nat):(List.replicate n a).flatten.length=n*a.length:=by simp[List.length_flatten]
theorem rep_c(n:Nat):(List.replicate n [40]).flatten.count 40=n:=by
 induction n with
 |zero=>rfl
 |succ n ih=>rw[VH,Yi,JT,ih];simp;omega
theorem k_nots:Str.ofString "not " = S [110,111,116,32]:=by decide +kernel
theorem k_a1:Str.ofString "a = 1" = S [97,32,61,32,49]:=by decide +kernel
theorem k_ands:Str.ofString " and a = 1" = S [32,97,110,100,32,97,32,61,32,49]:=by decide +kernel
theorem bE_ok{a0 a3 a4 a6 a7 a8 a9:Option W}{st:List Cell} (hn:st.all nlC=true):Yes (runR (bE (sg0 a0 a3 a4 a6 a7 a8 a9) st)):=by
 obtain⟨x1,e1,q1⟩:∃x,zBj (Str.ofString "(") 900=x∧far x=true:=⟨_,rfl,by rw[k_op,zI9];exact zM7 (by rw[zFp];decide) (.inl (by rw[zFp];decide))⟩
 obtain⟨y2,e2,q2⟩:∃x,zBj (Str.ofString "not ") 450=x∧x.length=1800∧far (x++Str.ofString "a = 1")=true:=⟨_,rfl,by rw[zBw];rfl,by
  rw[k_nots,k_a1,zI9,S_cat]
  exact zM7 (by rw[Jl,zFp];decide) (.inl (by rw[Jl,zFp];decide))⟩
 obtain⟨y3,e3,q3⟩:∃x,zBj (Str.ofString "(") 300=x∧x.length=300∧∃y,zBj (Str.ofString ")") 300=y∧y.length=300∧far (x++Str.ofString "a = 1" ++ y)=true:=⟨_,rfl,by rw[zBw];rfl,_,rfl,by rw[zBw];rfl,by
  rw[k_op,k_cl,k_a1,zI9,zI9,S_cat,S_cat]
  exact zM7 (by rw[Jl,Jl,zFp,zFp];decide) (.inl (by rw[Jl,Jl,zFp,zFp];decide))⟩
 obtain⟨m3,z3,e3',n3,q3⟩:=q3
 obtain⟨y4,e4,n4,q4⟩:∃x,zBj (Str.ofString " and a = 1") 180=x∧x.length=1800∧far (Str.ofString "a = 1" ++ x)=true:=⟨_,rfl,by rw[zBw];rfl,by
  rw[k_ands,k_a1,zI9,S_cat]
  exact zM7 (by rw[Jl,zFp];decide) (.inl (by rw[Jl,zFp];decide))⟩
 obtain⟨y5,e5,m5,z5,e5',n5,q5⟩:∃x,zBj (Str.ofString "(") 13=x∧x.length=13∧∃y,zBj (Str.ofString ")") 13=y∧y.length=13∧far (x++Str.ofString "a = 1" ++ y)=true:=⟨_,rfl,by rw[zBw];rfl,_,rfl,by rw[zBw];rfl,by
  rw[k_op,k_cl,k_a1,zI9,zI9,S_cat,S_cat]
  exact zM7 (by rw[Jl,Jl,zFp,zFp];decide) (.inr (by rw[JT,JT,rep_c];omega))⟩
 obtain⟨m2,q2⟩:=q2;have w1:=fun{σ:Sg} h4=>zMc q1 (σ:=σ) h4 hn
 have w2:=fun{σ:Sg} h4=>zMc q2 (σ:=σ) h4 hn
 have w3:=fun{σ:Sg} h4=>zMc q3 (σ:=σ) h4 hn
 have w4:=fun{σ:Sg} h4=>zMc q4 (σ:=σ) h4 hn
 have w5:=fun{σ:Sg} h4=>zMc q5 (σ:=σ) h4 hn
 have l1 : "(".length=1:=rfl;have l2 : ")".length=1:=rfl;have l3 : "not ".length=4:=rfl;have l4 : "a = 1".length=5:=rfl;have l5 : " and a = 1".length=10:=rfl;rw[bE_eq];simp[sg0,zBH,zCQ,l1,l2,l3,l4,l5,e1,e2,e3,e3',e4,e5,e5',m2,m3,n3,n4,m5,n5,w1,w2,w3,w4,w5]
 have vq:vEqB false (.p (.lst [P.str (Str.ofString "InvalidText"),P.str (Str.ofString "InvalidText"),P.str (Str.ofString "InvalidText"),P.str (Str.ofString "InvalidText"),P.str (Str.ofString "InvalidText")])) (.p (.lst [P.str (Str.ofString "InvalidText"),P.str (Str.ofString "InvalidText"),P.str (Str.ofString "InvalidText"),P.str (Str.ofString "InvalidText"),P.str (Str.ofString "InvalidText")])) st=.ok (.p (.bl true)) st:=by
  rw[zDC (by simp) (by simp)]
  simp
 rw[vq];exact⟨_,rfl⟩
theorem nl_GB{c:Cell} (h:GB c):nlC c=true:=by
 obtain⟨ns,a,b,s,rfl,_⟩:=h
 have e:∀ns:List Int,nlPs (ns.map P.int)=true:=by
  intro ns
  induction ns with
  |nil=>rw[Vs,nlPs]
  |cons i ns ih=>simp[nlPs,ih,nlP]
 simp[bagC,nlC,nlW,nlP,e]
def B0:List Str:=[Str.ofString "",Str.ofString " ",Str.ofString "a",Str.ofString "a >=",Str.ofString "a >= 1 ",Str.ofString " a >= 1",Str.ofString "a >= 01",Str.ofString "a >= -0"]
def B1:List Str:=[Str.ofString "1*a >= 1",Str.ofString "0*a >= 1",Str.ofString "4*a >= 1",Str.ofString "a >= 10"]
def B2:List Str:=[Str.ofString "a > 1",Str.ofString "a >= 1 and",Str.ofString "and a >= 1",Str.ofString "a>=1",Str.ofString "b + a >= 1"]
def B3:List Str:=[Str.ofString "a + a >= 1",Str.ofString "- a >= 1",Str.ofString "-a >= 1",Str.ofString "a mod 2 = 2"]
def B4:List Str:=[Str.ofString "a mod 6 = 1",Str.ofString "a mod 2 >= 1",Str.ofString "a mod 1 = 0",Str.ofString "(a >= 1)"]
def B5:List Str:=[Str.ofString "not (a >= 1)",Str.ofString "not not a >= 1",Str.ofString "a >= 1 or (b >= 1 and c >= 1)"]
def B6:List Str:=[Str.ofString "(a >= 1 or b >= 1",Str.ofString "a >= 1) or b >= 1"]
def B7:List Str:=[Str.ofString "a >= 1 and b >= 1 and c >= 1 and a >= 1",zBj (Str.ofString "not ") 3++Str.ofString "a = -9"]
def B8:List Str:=[zBj (Str.ofString "not ") 4++Str.ofString "a = -9",Str.ofString "m >= 1",Str.ofString "a <= 9",Str.ofString "a = 1 or b = 1 and c = 1"]
def B9:List Str:=[Str.ofString "A >= 1"]
def T0:List Str:=((((((((B0++B1)++B2)++B3)++B4)++B5)++B6)++B7)++B8)++B9
theorem T0_ok:T0.all gt=true∧T0.length=37:=by decide +kernel
abbrev sgI(a0:Option W) (i:Nat):Sg:=[a0,some (.r 0),some (.r i),none,none,none,none,none,none,none]
theorem zDp{m:EM}{A B:List Str}{k:SMm}{i:Nat}{a0:Option W}{st:List Cell} (hm:m (sgI a0 i) st=.ok (.p (.lst (B.map P.str))) st) (hi:st[i]?=some (TT A)) (hl:A.length+B.length≤1000000):sSeq (sSet 2 (mBin zCy (mVar 2) m)) k (sgI a0 i) st=k (sgI a0 st.length) (st++[TT (A++B)]):=by
 have e:zCy (.r i) (.p (.lst (B.map P.str))) st=.ok (.r st.length) (st++[TT (A++B)]):=by
  have p:pures (A.map fun z=>W.p (.str z))=some (A.map P.str):=by
   have:=zBI (A.map P.str)
   rw[Jy]at this;exact this
  unfold zCy unC;simp[hi,TT,p,hl];rfl
 simp[sgI,hm,e]
theorem zQA{I J:Sg→List Cell→Prop}{F:SR→Prop}{r:SR} (h:∀σ st,I σ st→J σ st) (q:Sq I F r):Sq J F r:=by
 unfold Sq at q ⊢;split<;>simp_all
theorem bX_ok{a0:Option W}{c:Cell} (hc:GB c){rest:List Cell} (hT:rest[9]?=some (TT T0)) (hr:rest.all nlC=true):Yes (runR (bX (sg0 a0 none none none none none none) (c::rest))):=by
 conv=>arg 1;simp[bX,-zBQ]
 refine zBg (fun r=>Yes (runR (r.then _))) (fun i σ st=>∃c' a3 a4 a6 a8 rest' T',GB c'∧rest'.all nlC=true∧rest'[9]?=some (TT T')∧T'.all gt=true∧T'.length=37+i∧σ=sg0 a0 a3 a4 a6 none a8 none∧st=c'::rest') ⟨c,_,_,_,_,rest,T0,hc,hr,hT,T0_ok.1,T0_ok.2,rfl,rfl⟩ ?_ ?_
 ·rintro i w σ st hi ⟨c,a3,a4,a6,a8,rest,T,hc,hr,hT,hg,hn,rfl,rfl⟩
  have hi:i<10:=by
   have:=(Ja.mp hi).1
   simpa using this
  have e2:zFu (.nm 3) b1 w (sg0 a0 a3 a4 a6 none a8 none) (c::rest)=b1 (sg0 a0 (some w) a4 a6 none a8 none) (c::rest):=by simp[sg0]
  rw[e2];refine zQA (fun σ st h=>?_) (b1_ok _ hc hT hg ∅ hr)
  obtain⟨c',b3,b4,b6,b8,rest',T',h1,h2,h3,h4,h5,h6,h7⟩:=h;exact⟨c',b3,b4,b6,b8,rest',T',h1,h2,h3,h4,∅,h6,h7⟩
 ·rintro σ st ⟨c,a3,a4,a6,a8,rest,T,hc,hr,hT,hg,hn,rfl,rfl⟩;have hT2:(c::rest)[10]?=some (Cell.lst (T.map fun z=>W.p (.str z))):=hT
  have e:sSeq (sFor (mSrc (mVar 2)) (.nm 4) b2) bE (sg0 a0 a3 a4 a6 none a8 none) (c::rest)=(zLR (.nm 4) b2 (sg0 a0 a3 a4 a6 none a8 none) (srcC 10 T.length) (c::rest)).then bE:=by
   generalize c::rest=st at hT2;simp[sg0,hT2]
  show Yes (runR (sSeq (sFor (mSrc (mVar 2)) (.nm 4) b2) bE (sg0 a0 a3 a4 a6 none a8 none) (c::rest)));rw[e];refine zIH (fun r=>Yes (runR (r.then bE))) (fun i σ st=>∃a4 a7 a8 a9,σ=sg0 a0 a3 a4 a6 a7 a8 a9∧st=c::rest) (l:=T.map fun z=>W.p (.str z)) (by simp) ?_ ⟨_,_,_,_,rfl,rfl⟩ ?_ ?_
  ·rintro i σ st _ ⟨b4,b7,b8,b9,rfl,rfl⟩;exact hT2
  ·rintro i w σ st hw ⟨b4,b7,b8,b9,rfl,rfl⟩;obtain⟨z,mz,rfl⟩:=Jx.mp (Jn hw);have hz:=Jp.mp hg z mz;obtain⟨c7,c8,c9,e⟩:=b2_ok (a0:=a0) (a3:=a3) (a6:=a6) (a7:=b7) (a8:=b8) (a9:=b9) hz (c::rest);have e2:zFu (.nm 4) b2 (.p (.str z)) (sg0 a0 a3 b4 a6 b7 b8 b9) (c::rest)=b2 (sg0 a0 a3 (some (.p (.str z))) a6 b7 b8 b9) (c::rest):=by simp[sg0]
   rw[e2,e];exact⟨_,_,_,_,rfl,rfl⟩
  ·rintro σ st ⟨b4,b7,b8,b9,rfl,rfl⟩;exact bE_ok (by rw[VW,nl_GB hc,hr];rfl)
theorem plain(ns:List Int) (h:ns.length≤63):∃st,sm_law [.p (.scr ns)] []=.ok (.p (.bl true)) st:=by
 show Yes (sm_law [.p (.scr ns)] []);rw[law_eq];obtain⟨c0,e0,hc0⟩:=zOC ns;have l1 : "not ".length=4:=rfl;have l2 : "a = -9".length=6:=rfl;have l3:(zBj (Str.ofString "not ") 3).length=12:=by rw[zBw];rfl
 have l4:(zBj (Str.ofString "not ") 4).length=16:=by rw[zBw];rfl
 unfold zLc;rw[zAG,Jm (by rfl)]
 have e1:∀k:SMm,sSeq (sSet 1 (zAH zCZ %[(mVar 0)|0])) (sSeq (sSet 2 (zCs %[(mC (.str "")),(mC (.str " ")),(mC (.str "a")),(mC (.str "a >=")),(mC (.str "a >= 1 ")),(mC (.str " a >= 1")),(mC (.str "a >= 01")),(mC (.str "a >= -0"))|0])) k) ([W.p (P.scr ns)].map some++List.replicate (10-1) none) []=k (sgI (some (.p (.scr ns))) 1) [c0,TT B0]:=fun k=>by
  simp[e0,sgI,B0];rfl
 rw[e1];rw[zDp (A:=B0) (B:=B1) (by simp[B1,sgI]) rfl (!0)]
 rw[zDp (A:=(B0++B1)) (B:=B2) (by simp[B2,sgI]) rfl (!0)]
 rw[zDp (A:=((B0++B1)++B2)) (B:=B3) (by simp[B3,sgI]) rfl (!0)]
 rw[zDp (A:=(((B0++B1)++B2)++B3)) (B:=B4) (by simp[B4,sgI]) rfl (!0)]
 rw[zDp (A:=((((B0++B1)++B2)++B3)++B4)) (B:=B5) (by simp[B5,sgI]) rfl (!0)]
 rw[zDp (A:=(((((B0++B1)++B2)++B3)++B4)++B5)) (B:=B6) (by simp[B6,sgI]) rfl (!0)]
 rw[zDp (A:=((((((B0++B1)++B2)++B3)++B4)++B5)++B6)) (B:=B7) (by simp[B7,sgI,l1,l2,l3,l4]) rfl (!0)]
 rw[zDp (A:=(((((((B0++B1)++B2)++B3)++B4)++B5)++B6)++B7)) (B:=B8) (by simp[B8,sgI,l1,l2,l3,l4]) rfl (!0)]
 rw[zDp (A:=((((((((B0++B1)++B2)++B3)++B4)++B5)++B6)++B7)++B8)) (B:=B9) (by simp[B9,sgI]) rfl (!0)]
 exact bX_ok (a0:=some (.p (.scr ns))) hc0 (rest:=[TT B0,_,_,_,_,_,_,_,_,TT T0]) rfl (by simp[nl_TT])
end
section
open Y YZ YS
/-- what the head says -/
structure Fcts (P:Program) (K:PySem.W.Frag) (w:World) (mg:Str→Option Value):Prop where
 g__law_bag:mg "_law_bag" = some (.ref (He.ga K "_law_bag"))
 g__law_sum_text:mg "_law_sum_text" = some (.ref (He.ga K "_law_sum_text"))
 g__law_text:mg "_law_text" = some (.ref (He.ga K "_law_text"))
 g__law_pull:mg "_law_pull" = some (.ref (He.ga K "_law_pull"))
 g__law_of:mg "_law_of" = some (.ref (He.ga K "_law_of"))
 g__law_sum:mg "_law_sum" = some (.ref (He.ga K "_law_sum"))
 g__law_atom:mg "_law_atom" = some (.ref (He.ga K "_law_atom"))
 g__law_mixed:mg "_law_mixed" = some (.ref (He.ga K "_law_mixed"))
 g__law_depth:mg "_law_depth" = some (.ref (He.ga K "_law_depth"))
 g__law_tree:mg "_law_tree" = some (.ref (He.ga K "_law_tree"))
 g__law_read_all:mg "_law_read_all" = some (.ref (He.ga K "_law_read_all"))
 g__law_read_any:mg "_law_read_any" = some (.ref (He.ga K "_law_read_any"))
 g__law_read_atom:mg "_law_read_atom" = some (.ref (He.ga K "_law_read_atom"))
 g__law_read_part:mg "_law_read_part" = some (.ref (He.ga K "_law_read_part"))
 g__law_is_number:mg "_law_is_number" = some (.ref (He.ga K "_law_is_number"))
 g__law_is_sum:mg "_law_is_sum" = some (.ref (He.ga K "_law_is_sum"))
 g__law_is_tree:mg "_law_is_tree" = some (.ref (He.ga K "_law_is_tree"))
 g__law_atoms:mg "_law_atoms" = some (.ref (He.ga K "_law_atoms"))
 g__law_tree_due:mg "_law_tree_due" = some (.ref (He.ga K "_law_tree_due"))
 g__law_same:mg "_law_same" = some (.ref (He.ga K "_law_same"))
 g_is_digit:mg "is_digit" = some (.ref (He.ga K "is_digit"))
 g_is_number:mg "is_number" = some (.ref (He.ga K "is_number"))
 g_is_within:mg "is_within" = some (.ref (He.ga K "is_within"))
 g_are_factors:mg "are_factors" = some (.ref (He.ga K "are_factors"))
 g_is_atom:mg "is_atom" = some (.ref (He.ga K "is_atom"))
 g_is_tree:mg "is_tree" = some (.ref (He.ga K "is_tree"))
 g_atoms_in:mg "atoms_in" = some (.ref (He.ga K "atoms_in"))
 g_sum_text:mg "sum_text" = some (.ref (He.ga K "sum_text"))
 g_tree_text:mg "tree_text" = some (.ref (He.ga K "tree_text"))
 g_law:mg "law" = some (.ref (He.ga K "law"))
 g__law_try:mg "_law_try" = some (.ref (He.ga K "_law_try"))
 g__law_field:mg "_law_field" = some (.ref (He.ga K "_law_field"))
 g__law_word:mg "_law_word" = some (.ref (He.ga K "_law_word"))
 g_InvalidQuestion:mg "InvalidQuestion" = some (.ref (He.ga K "InvalidQuestion"))
 g_TooMany:mg "TooMany" = some (.ref (He.ga K "TooMany"))
 g_InvalidText:mg "InvalidText" = some (.ref (He.ga K "InvalidText"))
 g_Question:mg "Question" = some (.ref (He.ga K "Question"))
 g_Reader:mg "Reader" = some (.ref (He.ga K "Reader"))
 g_SIGNS_OF:mg "SIGNS_OF" = some (.ref (He.ga K "SIGNS_OF"))
 g_Missing:mg "Missing" = some (.ref (He.ga K "Missing"))
 g_NothingLeft:mg "NothingLeft" = some (.ref (He.ga K "NothingLeft"))
 g_SayError:mg "SayError" = some (.ref (He.ga K "SayError"))
 b_abs:mg "abs" = none
 b_all:mg "all" = none
 b_any:mg "any" = none
 b_bool:mg "bool" = none
 b_int:mg "int" = none
 b_isinstance:mg "isinstance" = none
 b_len:mg "len" = none
 b_list:mg "list" = none
 b_max:mg "max" = none
 b_range:mg "range" = none
 b_str:mg "str" = none
 b_super:mg "super" = none
 b_tuple:mg "tuple" = none
 b_zip:mg "zip" = none
 i_MOST_ATOMS:∃t,mg "MOST_ATOMS" = some (.int 3 t)
 i_MOST_BOUND:∃t,mg "MOST_BOUND" = some (.int 9 t)
 i_MOST_BRACKETS:∃t,mg "MOST_BRACKETS" = some (.int 12 t)
 i_MOST_DEPTH:∃t,mg "MOST_DEPTH" = some (.int 4 t)
 i_MOST_FACTOR:∃t,mg "MOST_FACTOR" = some (.int 3 t)
 i_MOST_PARTS:∃t,mg "MOST_PARTS" = some (.int 4 t)
 i_MOST_TEXT:∃t,mg "MOST_TEXT" = some (.int 250 t)
 x_InvalidQuestion_SayError:PySem.W.exmOne K (.ref (He.ga K "InvalidQuestion")) (.ref (He.ga K "SayError"))=some true
 x_InvalidText_SayError:PySem.W.exmOne K (.ref (He.ga K "InvalidText")) (.ref (He.ga K "SayError"))=some true
 x_TooMany_SayError:PySem.W.exmOne K (.ref (He.ga K "TooMany")) (.ref (He.ga K "SayError"))=some true
 c_Question:L2.Cls K (He.ga K "Question")
 mk_Question:Mk K (He.ga K "Question") (He.fAd K ("Question",some "__init__"))
 c_Reader:L2.Cls K (He.ga K "Reader")
 mk_Reader:Mk K (He.ga K "Reader") (He.fAd K ("Reader",some "__init__"))
 m_Reader_all_of:Meth K (He.ga K "Reader") "all_of" (He.fAd K ("Reader",some "all_of"))
 m_Reader_any_of:Meth K (He.ga K "Reader") "any_of" (He.fAd K ("Reader",some "any_of"))
 m_Reader_atom:Meth K (He.ga K "Reader") "atom" (He.fAd K ("Reader",some "atom"))
 m_Reader_ending:Meth K (He.ga K "Reader") "ending" (He.fAd K ("Reader",some "ending"))
 m_Reader_joined_parts:Meth K (He.ga K "Reader") "joined_parts" (He.fAd K ("Reader",some "joined_parts"))
 m_Reader_next:Meth K (He.ga K "Reader") "next" (He.fAd K ("Reader",some "next"))
 m_Reader_part:Meth K (He.ga K "Reader") "part" (He.fAd K ("Reader",some "part"))
 f_Question_leaves:∀ {fr:List (Str×List (Str×Addr))},zGW K (cl K fr) "leaves" 0 1
 f_Question_shape:∀ {fr:List (Str×List (Str×Addr))},zGW K (cl K fr) "shape" 0 0
 f_Question_written:∀ {fr:List (Str×List (Str×Addr))},zGW K (cl K fr) "written" 0 2
 f_Reader_at:∀ {fr:List (Str×List (Str×Addr))},zGW K (cl K fr) "at" 1 1
 f_Reader_words:∀ {fr:List (Str×List (Str×Addr))},zGW K (cl K fr) "words" 1 0
 t_SIGNS_OF:KTab K w (He.ga K "SIGNS_OF") zAf
 tl_SIGNS_OF:zI2 K w (He.ga K "SIGNS_OF") zAf
 e_InvalidQuestion:excB K "InvalidQuestion" "/claim/cut.py" none=true
 de_InvalidQuestion:fnE K (He.ma K (He.ga K "InvalidQuestion") "__init__")=zCO.val
 dd_InvalidQuestion:zCO.okB K=true
 e_TooMany:excB K "TooMany" "/claim/cut.py" (some "most")=true
 de_TooMany:fnE K (He.ma K (He.ga K "TooMany") "__init__")=zFN.val
 dd_TooMany:zFN.okB K=true
 e_InvalidText:excB K "InvalidText" "/claim/cut.py" none=true
 de_InvalidText:fnE K (He.ma K (He.ga K "InvalidText") "__init__")=zDW.val
 dd_InvalidText:zDW.okB K=true
 p_Question_tree:PropOf K (He.ga K "Question") "tree" (zBn K (He.ga K "Question") "tree").1 (zBn K (He.ga K "Question") "tree").2
 d_Question_tree:∃fd,FunD K "tree" "Question.tree" (defArgs zBE) (defBody zBE) (defScope zBE) [] [] ((zBn K (He.ga K "Question") "tree").2) fd
 p_Question_read:ClsM K (He.ga K "Question") "read"
 d_Question_read:∃fd,FunD K "read" "Question.read" (defArgs zBF) (defBody zBF) (defScope zBF) [] [] ((He5.wf K (He.ga K "Question") "classmethod" "read")) fd
 pf:FileOf P "/claim/cut.py"
 d_law_bag:∃fd,FunD K "_law_bag" "_law_bag" (defArgs zC8) (defBody zC8) (defScope zC8) [] [] (He.fAd K ("_law_bag",none)) fd
 d_law_sum_text:∃fd,FunD K "_law_sum_text" "_law_sum_text" (defArgs zBM) (defBody zBM) (defScope zBM) [] [] (He.fAd K ("_law_sum_text",none)) fd
 d_law_text:∃fd,FunD K "_law_text" "_law_text" (defArgs zCb) (defBody zCb) (defScope zCb) [] [] (He.fAd K ("_law_text",none)) fd
 d_law_pull:∃fd,FunD K "_law_pull" "_law_pull" (defArgs zCa) (defBody zCa) (defScope zCa) [] [] (He.fAd K ("_law_pull",none)) fd
 d_law_of:∃fd,FunD K "_law_of" "_law_of" (defArgs zDl) (defBody zDl) (defScope zDl) [] [] (He.fAd K ("_law_of",none)) fd
 d_law_sum:∃fd,FunD K "_law_sum" "_law_sum" (defArgs zDH) (defBody zDH) (defScope zDH) [] [] (He.fAd K ("_law_sum",none)) fd
 d_law_atom:∃fd,FunD K "_law_atom" "_law_atom" (defArgs zCc) (defBody zCc) (defScope zCc) [] [] (He.fAd K ("_law_atom",none)) fd
 d_law_mixed:∃fd,FunD K "_law_mixed" "_law_mixed" (defArgs zB9) (defBody zB9) (defScope zB9) [] [] (He.fAd K ("_law_mixed",none)) fd
 d_law_depth:∃fd,FunD K "_law_depth" "_law_depth" (defArgs zCE) (defBody zCE) (defScope zCE) [] [] (He.fAd K ("_law_depth",none)) fd
 d_law_tree:∃fd,FunD K "_law_tree" "_law_tree" (defArgs zCe) (defBody zCe) (defScope zCe) [] [] (He.fAd K ("_law_tree",none)) fd
 d_law_read_all:∃fd,FunD K "_law_read_all" "_law_read_all" (defArgs zBK) (defBody zBK) (defScope zBK) [] [] (He.fAd K ("_law_read_all",none)) fd
 d_law_read_any:∃fd,FunD K "_law_read_any" "_law_read_any" (defArgs zBJ) (defBody zBJ) (defScope zBJ) [] [] (He.fAd K ("_law_read_any",none)) fd
 d_law_read_atom:∃fd,FunD K "_law_read_atom" "_law_read_atom" (defArgs zA6) (defBody zA6) (defScope zA6) [] [] (He.fAd K ("_law_read_atom",none)) fd
 d_law_read_part:∃fd,FunD K "_law_read_part" "_law_read_part" (defArgs zA8) (defBody zA8) (defScope zA8) [] [] (He.fAd K ("_law_read_part",none)) fd
 d_law_is_number:∃fd,FunD K "_law_is_number" "_law_is_number" (defArgs zBB) (defBody zBB) (defScope zBB) [] [] (He.fAd K ("_law_is_number",none)) fd
 d_law_is_sum:∃fd,FunD K "_law_is_sum" "_law_is_sum" (defArgs zBu) (defBody zBu) (defScope zBu) [] [] (He.fAd K ("_law_is_sum",none)) fd
 d_law_is_tree:∃fd,FunD K "_law_is_tree" "_law_is_tree" (defArgs zBc) (defBody zBc) (defScope zBc) [] [] (He.fAd K ("_law_is_tree",none)) fd
 d_law_atoms:∃fd,FunD K "_law_atoms" "_law_atoms" (defArgs zCB) (defBody zCB) (defScope zCB) [] [] (He.fAd K ("_law_atoms",none)) fd
 d_law_tree_due:∃fd,FunD K "_law_tree_due" "_law_tree_due" (defArgs zBL) (defBody zBL) (defScope zBL) [] [] (He.fAd K ("_law_tree_due",none)) fd
 d_law_same:∃fd,FunD K "_law_same" "_law_same" (defArgs zCW) (defBody zCW) (defScope zCW) [] [] (He.fAd K ("_law_same",none)) fd
 d_Reader_init:∃fd,FunD K "__init__" "Reader.__init__" (defArgs zBd) (defBody zBd) (defScope zBd) [] [] (He.fAd K ("Reader",some "__init__")) fd
 d_Reader_next:∃fd,FunD K "next" "Reader.next" (defArgs zBY) (defBody zBY) (defScope zBY) [] [] (He.fAd K ("Reader",some "next")) fd
 d_Reader_joined_parts:∃fd,FunD K "joined_parts" "Reader.joined_parts" (defArgs zAj) (defBody zAj) (defScope zAj) [] [] (He.fAd K ("Reader",some "joined_parts")) fd
 d_Reader_all_of:∃fd,FunD K "all_of" "Reader.all_of" (defArgs zA9) (defBody zA9) (defScope zA9) [] [] (He.fAd K ("Reader",some "all_of")) fd
 d_Reader_any_of:∃fd,FunD K "any_of" "Reader.any_of" (defArgs zBC) (defBody zBC) (defScope zBC) [] [] (He.fAd K ("Reader",some "any_of")) fd
 d_is_digit:∃fd,FunD K "is_digit" "is_digit" (defArgs zCY) (defBody zCY) (defScope zCY) [] [] (He.fAd K ("is_digit",none)) fd
 d_Reader_ending:∃fd,FunD K "ending" "Reader.ending" (defArgs zA7) (defBody zA7) (defScope zA7) [] [] (He.fAd K ("Reader",some "ending")) fd
 d_Reader_atom:∃fd,FunD K "atom" "Reader.atom" (defArgs zBZ) (defBody zBZ) (defScope zBZ) [] [] (He.fAd K ("Reader",some "atom")) fd
 d_Reader_part:∃fd,FunD K "part" "Reader.part" (defArgs zBX) (defBody zBX) (defScope zBX) [] [] (He.fAd K ("Reader",some "part")) fd
 d_is_number:∃fd,FunD K "is_number" "is_number" (defArgs zCA) (defBody zCA) (defScope zCA) [] [] (He.fAd K ("is_number",none)) fd
 d_is_within:∃fd,FunD K "is_within" "is_within" (defArgs zCC) (defBody zCC) (defScope zCC) [] [] (He.fAd K ("is_within",none)) fd
 d_are_factors:∃fd,FunD K "are_factors" "are_factors" (defArgs zBV) (defBody zBV) (defScope zBV) [] [] (He.fAd K ("are_factors",none)) fd
 d_is_atom:∃fd,FunD K "is_atom" "is_atom" (defArgs zDJ) (defBody zDJ) (defScope zDJ) [] [] (He.fAd K ("is_atom",none)) fd
 d_is_tree:∃fd,FunD K "is_tree" "is_tree" (defArgs zDE) (defBody zDE) (defScope zDE) [] [] (He.fAd K ("is_tree",none)) fd
 d_atoms_in:∃fd,FunD K "atoms_in" "atoms_in" (defArgs zCh) (defBody zCh) (defScope zCh) [] [] (He.fAd K ("atoms_in",none)) fd
 d_sum_text:∃fd,FunD K "sum_text" "sum_text" (defArgs zCX) (defBody zCX) (defScope zCX) [] [] (He.fAd K ("sum_text",none)) fd
 d_tree_text:∃fd,FunD K "tree_text" "tree_text" (defArgs zCF) (defBody zCF) (defScope zCF) [] [] (He.fAd K ("tree_text",none)) fd
 d_Question_init:∃fd,FunD K "__init__" "Question.__init__" (defArgs zBD) (defBody zBD) (defScope zBD) [] [] (He.fAd K ("Question",some "__init__")) fd
 d_law_try:∃fd,FunD K "_law_try" "_law_try" (defArgs zDZ) (defBody zDZ) (defScope zDZ) [] [] (He.fAd K ("_law_try",none)) fd
 d_law_field:∃fd,FunD K "_law_field" "_law_field" (defArgs zCd) (defBody zCd) (defScope zCd) [] [] (He.fAd K ("_law_field",none)) fd
 d_law_word:∃fd,FunD K "_law_word" "_law_word" (defArgs zC3) (defBody zC3) (defScope zC3) [] [] (He.fAd K ("_law_word",none)) fd
section
variable {P:Program}{w:World}{K:PySem.W.Frag}{mg:Str→Option Value}{base:Heap}{fr:List (Str×List (Str×Addr))}
theorem zFH(x:Fcts P K w mg):Exc0 P w K mg base (cl K fr) 1 29 (He.ga K "InvalidQuestion") "InvalidQuestion" := zMy x.pf x.e_InvalidQuestion x.b_super rfl x.dd_InvalidQuestion x.de_InvalidQuestion ⟨_,rfl,rfl⟩ ⟨rfl,rfl,rfl,⋯,⋯,⋯,⋯,rfl,rfl⟩ (fun f cda cc=>⟨_,fun L=>⟨rfl,rfl,rfl⟩⟩) (fun _ _ _ _ _ _ _ us hl=>match us,hl with|[_],_=>rfl) (fun _=>rfl)
theorem zLM(x:Fcts P K w mg):Exc1 P w K mg base (cl K fr) 1 30 (He.ga K "TooMany") "TooMany" "most" "most" := zQz x.pf x.e_TooMany x.b_super rfl x.dd_TooMany x.de_TooMany ⟨_,rfl,rfl⟩ ⟨rfl,rfl,rfl,⋯,⋯,⋯,⋯,rfl,rfl⟩ (fun f cda cc=>⟨_,fun L=>⟨rfl,rfl,rfl⟩⟩) ⋯ ⋯ (fun _ _ _ _ _ _ _ us hl=>match us,hl with|[_,_],_=>rfl) (fun _=>rfl) (fun _=>rfl)
theorem zEl(x:Fcts P K w mg):Exc0 P w K mg base (cl K fr) 1 31 (He.ga K "InvalidText") "InvalidText" := zMy x.pf x.e_InvalidText x.b_super rfl x.dd_InvalidText x.de_InvalidText ⟨_,rfl,rfl⟩ ⟨rfl,rfl,rfl,⋯,⋯,⋯,⋯,rfl,rfl⟩ (fun f cda cc=>⟨_,fun L=>⟨rfl,rfl,rfl⟩⟩) (fun _ _ _ _ _ _ _ us hl=>match us,hl with|[_],_=>rfl) (fun _=>rfl)
theorem tryok(x:Fcts P K w mg):∀q∈([(29, "InvalidQuestion",none),(30, "TooMany",some "most"),(31, "InvalidText",none)]:List (Nat×Str×Option Str)),TryC K (cl K fr) (He.ga K "SayError") (He.ga K "Missing") (He.ga K "NothingLeft") q.1 q.2.1 q.2.2:=by
 intro q hq;simp only[Jr,VL,bv]at hq;rcases hq with rfl|rfl|rfl
 ·exact zJG x.e_InvalidQuestion rfl x.x_InvalidQuestion_SayError rfl
 ·exact zJG x.e_TooMany rfl x.x_TooMany_SayError rfl
 ·exact zJG x.e_InvalidText rfl x.x_InvalidText_SayError rfl
theorem lam_d(x:Fcts P K w mg):LamD P w K mg base "_law_try" (He.ga K "_law_try") (He.ga K "SayError") (He.ga K "Missing") (He.ga K "NothingLeft"):=by
 obtain⟨fdt,Ft⟩:=x.d_law_try;obtain⟨fdf,Ff⟩:=x.d_law_field;obtain⟨oc,od,dV,kV,doc,pm,an,cdv,ct,osl,rfl,lk,hcd,_,_⟩:=id Ft.ex;refine⟨⟨oc,od,osl,_,_,_,dV,kV,doc,pm,cdv,ct,an,["_law_ask", "_law_e"], "_law_ask",lk,hcd,Ft.bindsN (fun _ _ _ _ _ _ us hl=>match us,hl with|[_],_=>rfl),⟨rfl,rfl,rfl,⋯,rfl,⋯,⋯⟩,rfl,zEJ rfl,⋯,⋯,fun X h1 h2 h3 h4 h5 hr q=>?_⟩,Ft.kp⟩
 subst h1 h2 h3 h4 h5;exact zL3 rfl rfl ⋯ (fun _=>rfl) rfl rfl rfl rfl rfl x.g_SayError x.g_Missing x.g_NothingLeft x.g__law_field ⋯ ⋯ Ff (Nf:=["_law_e"]) ⟨rfl,rfl,rfl,⋯,rfl,⋯,⋯⟩ (Ff.bindsN (fun _ _ _ _ _ _ us hl=>match us,hl with|[_],_=>rfl)) (fun _=>rfl) (fun a oe cls d hz hf cd A outer s H=>(zM1 Jc hz hf rfl (zEJ rfl) ⋯ ⋯ (fun _ _=>rfl) (.cons (.cons (.cons (.cons (.cons (.cons .nil)))))) (zM1 Jc hz hf rfl (zEJ rfl) ⋯ ⋯ (fun _ _=>rfl) (.cons (.cons .nil)) (zM1 Jc hz hf rfl (zEJ rfl) ⋯ ⋯ (fun _ _=>rfl) (.cons (.cons (.cons (.cons .nil)))) (zM1 Jc hz hf rfl (zEJ rfl) ⋯ ⋯ (fun _ _=>rfl) (.cons (.cons .nil)) (zM1 Jc hz hf rfl (zEJ rfl) ⋯ ⋯ (fun _ _=>rfl) (.cons (.cons (.cons .nil))) (fb_eq Jc hz hf rfl (zEJ rfl) ⋯ ⋯ (fun _ _=>rfl) (fb_end Jc hz hf rfl (zEJ rfl) ⋯ ⋯ (fun _ _=>rfl))))))))) hr
theorem word_d(x:Fcts P K w mg):zQX P w K mg base "_law_word" "_law_try" (He.ga K "_law_word") (He.ga K "_law_try"):=by
 obtain⟨fdw,Fw⟩:=x.d_law_word;obtain⟨oc,od,dV,kV,doc,pm,an,cdv,ct,osl,rfl,lk,hcd,_,_⟩:=id Fw.ex;exact⟨⟨oc,od,osl,_,_,_,dV,kV,doc,pm,cdv,ct,an,["_law_ask"], "_law_ask",_,_,_,_,_,_,_,lk,hcd,Fw.bindsN (fun _ _ _ _ _ _ us hl=>match us,hl with|[_],_=>rfl),⟨rfl,rfl,rfl,⋯,rfl,⋯,⋯⟩,rfl,zEJ rfl,⋯,⋯,rfl,rfl,x.g__law_try,⋯⟩,Fw.kp⟩
theorem zLI:FnScope ["_law_script", "_law_salt", "_law_cell"] ["_law_script"] (defScope zC8):=⟨rfl,rfl,rfl,⋯,rfl,⋯,⋯⟩
theorem zK8(x:Fcts P K w mg):Fk P w K mg base (cl K fr) 1 (He.fAd K ("_law_bag",none)) ["_law_script"] zCZ:=Fk.of x.d_law_bag zLI (fun _ _ _ _ _ _ us hl=>match us,hl with|[_],_=>rfl) fun cd A outer s H E g hr=>(zAF (zAb g (i:=1) rfl (zAY rfl) zAC rfl (.inl rfl))
  (zAF (zFi JP g (zEe g (zCz g (v0 0) zB3 (zAm zAC))) (sgn g 2) (zAI (zAb g (i:=1) rfl (zAY rfl) (zFY (zAh zAz zB2 rfl x.b_int ⋯ (zAA (zAN g (zAN g (zDU (v0 1) zAC) (zFY (zAh zAz zB2 rfl x.b_int ⋯ (zAA (v0 2) zAD rfl) ⋯ rfl rfl rfl) zAC)) zAC) zAD rfl) ⋯ rfl rfl rfl) zAC) rfl (.inl rfl))) (fun _=>rfl))
  (zAI (zAQ (zDv (zAA (zAh call_list_of zLb rfl x.b_list ⋯ (zAA (zCz g (v0 0) zB3 (zAm zAC)) zAD rfl) ⋯ rfl rfl rfl) (zAA zAC (zAA zAC (zAA (v0 1) zAD rfl) rfl) rfl) rfl))))))
theorem zGO:FnScope ["_law_factors", "_law_found", "_law_factor", "_law_letter", "_law_many"] ["_law_factors"] (defScope zBM):=⟨rfl,rfl,rfl,⋯,rfl,⋯,⋯⟩
theorem zEH(x:Fcts P K w mg):Fk P w K mg base (cl K fr) 1 (He.fAd K ("_law_sum_text",none)) ["_law_factors"] zBt:=Fk.of x.d_law_sum_text zGO (fun _ _ _ _ _ _ us hl=>match us,hl with|[_],_=>rfl) fun cd A outer s H E g hr=>(zAF (zAb g (i:=1) rfl (zAY rfl) zAE rfl (.inl rfl))
  (zAF (zFi JP g (zJe g rfl x.b_zip (v0 0) zAE rfl rfl rfl) (zD3 g (zAp (sgn g 2) (zAp (sgn g 3) zCr rfl) rfl) rfl rfl rfl) (zAF (zAb g (i:=4) rfl (zAY rfl) (zCU (zBG g (zAT call_abs zHs rfl x.b_abs ⋯ (zAA (v0 2) zAD rfl) ⋯ rfl rfl rfl) zAC rfl) zAE (zAN g (zAh zEC zGN rfl x.b_str ⋯ (zAA (zAT call_abs zHs rfl x.b_abs ⋯ (zAA (v0 2) zAD rfl) ⋯ rfl rfl rfl) zAD rfl) ⋯ rfl rfl rfl) zAE)) rfl (.inl rfl))
  (zAI (zAw (zC0 (zEA (zFw g (v0 2) zAC rfl) (zEz (zBG g (v0 1) zAE rfl)))) (zAI (zAb g (i:=1) rfl (zAY rfl) (zAN g (zAN g (zCU (zHD (v0 2) zAC rfl) zAE zAE) (v0 4)) (v0 3)) rfl (.inl rfl))) (zAI (zAw (zFw g (v0 2) zAC rfl) (zAI (zAb g (i:=1) rfl (zAY rfl) (zAN g (zAN g (zAN g (v0 1) (zCU (zHD (v0 2) zAC rfl) zAE zAE)) (v0 4)) (v0 3)) rfl (.inl rfl))) zAd))))) (fun _=>rfl))
  (zAI (zAQ (v0 1)))))
theorem zJt:FnScope ["_law_tree_here", "_law_closed", "_law_texts", "_law_part"] ["_law_tree_here"] (defScope zCb):=⟨rfl,rfl,rfl,⋯,rfl,⋯,⋯⟩
theorem zE0(x:Fcts P K w mg):∀n:Nat,Fk P w K mg base (cl K fr) (1+n) (He.fAd K ("_law_text",none)) ["_law_tree_here"] (zAe n)
 |0=>(Fk.zero (N:=[]) (fun _ _=>rfl) x.d_law_text (fun _ _ _ _ _ _ us hl=>match us,hl with|[_],_=>rfl)).mono (JI _)
 |n+1=>(fun(ih:Fk P w K mg base (cl K fr) (1+n) (He.fAd K ("_law_text",none)) ["_law_tree_here"] (zAe n))=>Fk.of x.d_law_text zJt (fun _ _ _ _ _ _ us hl=>match us,hl with|[_],_=>rfl) fun cd A outer s H E g hr=>(zAF (zAw (zBG g (ixK g (fun _ _=>rfl) (v0 0) zAC) zAE rfl) (zAI (zAQ (zAN g (zAN g (zAN g (zAN g (zAc (zEH x) g (hr.mono ∅) rfl x.g__law_sum_text (zAA (ixK g (fun _ _=>rfl) (v0 0) zAC) zAD rfl) rfl rfl rfl) zAE) (zAh zEC zGN rfl x.b_str ⋯ (zAA (ixK g (fun _ _=>rfl) (v0 0) zAC) zAD rfl) ⋯ rfl rfl rfl)) zAE) (zAh zEC zGN rfl x.b_str ⋯ (zAA (ixK g (fun _ _=>rfl) (v0 0) zAC) zAD rfl) ⋯ rfl rfl rfl)))) zAd)
  (zAF (zAw (zF0 g (ixK g (fun _ _=>rfl) (v0 0) zAC) (zAl (zAA zAE (zAA zAE (zAA zAE zAD rfl) rfl) rfl)) rfl) (zAI (zAQ (zAN g (zAN g (zAN g (zAN g (zAc (zEH x) g (hr.mono ∅) rfl x.g__law_sum_text (zAA (ixK g (fun _ _=>rfl) (v0 0) zAC) zAD rfl) rfl rfl rfl) zAE) (zHh g (fun _ _=>rfl) (zHu (SJ.cons zAE (SJ.cons zAE (SJ.cons zAE SJ.nil))) (Paired.cons ⟨_,_,rfl⟩ (Paired.cons ⟨_,_,rfl⟩ (Paired.cons ⟨_,_,rfl⟩ Paired.nil))) rfl ⋯ (by simp) (!0) rfl) (ixK g (fun _ _=>rfl) (v0 0) zAC))) zAE) (zAh zEC zGN rfl x.b_str ⋯ (zAA (ixK g (fun _ _=>rfl) (v0 0) zAC) zAD rfl) ⋯ rfl rfl rfl)))) zAd)
  (zAF (zAb g (i:=1) rfl (zAY rfl) (zHh g (fun _ _=>rfl) (zHu (SJ.cons (zAl (zAA zAE (zAA zAE zAD rfl) rfl)) (SJ.cons (zAl (zAA zAE (zAA zAE zAD rfl) rfl)) (SJ.cons (zAl (zAA zAE zAD rfl)) SJ.nil))) (Paired.cons ⟨_,_,rfl⟩ (Paired.cons ⟨_,_,rfl⟩ (Paired.cons ⟨_,_,rfl⟩ Paired.nil))) rfl ⋯ (by simp) (!0) rfl) (ixK g (fun _ _=>rfl) (v0 0) zAC)) rfl (.inl rfl))
  (zAF (zAb g (i:=2) rfl (zAY rfl) (zDv zAD) rfl (.inl rfl))
  (zAF (zFi JP g (zEe g (zCz g (v0 0) (zAm zAC) zB3)) (sgn g 3) (zAI (zEp (zFF g Vv VC VD bo zC4 (v0 2) (zAA (zCU (zF0 g (ixK g (fun _ _=>rfl) (v0 3) zAC) (v0 1) rfl) (zAN g (zAN g zAE (zAc ih g hr rfl x.g__law_text (zAA (v0 3) zAD rfl) rfl rfl rfl)) zAE) (zAc ih g hr rfl x.g__law_text (zAA (v0 3) zAD rfl) rfl rfl rfl)) zAD rfl) rfl rfl rfl rfl rfl) rfl)) (fun _=>rfl))
  (zAI (zAQ (zCU (zBG g (ixK g (fun _ _=>rfl) (v0 0) zAC) zAE rfl) (zAN g zAE (ixK g (fun _ _=>rfl) (v0 2) zAC)) (zFF g Vn F.slot_str_join F.type_str_join mt_join zKh (zAN g (zAN g zAE (ixK g (fun _ _=>rfl) (v0 0) zAC)) zAE) (zAA (v0 2) zAD rfl) rfl rfl rfl rfl rfl)))))))))) (zE0 x n)
theorem zJB:FnScope ["_law_bag_here", "_law_amount", "_law_seed", "_law_cell", "_law_got"] ["_law_bag_here", "_law_amount"] (defScope zCa):=⟨rfl,rfl,rfl,⋯,rfl,⋯,⋯⟩
theorem zAo(x:Fcts P K w mg):Fk P w K mg base (cl K fr) 1 (He.fAd K ("_law_pull",none)) ["_law_bag_here", "_law_amount"] zAS:=Fk.of x.d_law_pull zJB (fun _ _ _ _ _ _ us hl=>match us,hl with|[_,_],_=>rfl) fun cd A outer s H E g hr=>(zAF (zAw (zC0 (zEA (zBG g (ixK g (fun _ _=>rfl) (v0 0) zAC) zAC rfl) (zEz (zHD (ixK g (fun _ _=>rfl) (v0 0) zAC) (zAT zAa zAq rfl x.b_len ⋯ (zAA (ixK g (fun _ _=>rfl) (v0 0) zAC) zAD rfl) ⋯ rfl rfl rfl) rfl)))) (zAF (zAb g (i:=3) rfl (zAY rfl) (ixK g (fun _ _=>rfl) (ixK g (fun _ _=>rfl) (v0 0) zAC) (ixK g (fun _ _=>rfl) (v0 0) zAC)) rfl (.inl rfl))
  (zAF (zDM g (v0 0) zAC (zAN g (ixK g (fun _ _=>rfl) (v0 0) zAC) zAC) (fun _=>rfl) rfl rfl rfl)
  (zAI (zAw (st_ge (v0 3) (se_pow zAC zAC) rfl) (zAI (zDM g (v0 0) zAC (v0 3) (fun _=>rfl) rfl rfl rfl)) (zAI (zDM g (v0 0) zAC (zFY (zAh zAz zB2 rfl x.b_int ⋯ (zAA (zAN g (zAN g (zDU (ixK g (fun _ _=>rfl) (v0 0) zAC) zAC) (zDU (zFY (zAh zAz zB2 rfl x.b_int ⋯ (zAA (v0 3) zAD rfl) ⋯ rfl rfl rfl) zAC) zAC)) zAC) zAD rfl) ⋯ rfl rfl rfl) zAC) (fun _=>rfl) rfl rfl rfl)))))) zAd)
  (zAF (zAw (zHE (ixK g (fun _ _=>rfl) (v0 0) zAC) zAC rfl) (zAF (zAb g (i:=4) rfl (zAY rfl) (zFY (zAh zAz zB2 rfl x.b_int ⋯ (zAA (ixK g (fun _ _=>rfl) (v0 0) zAC) zAD rfl) ⋯ rfl rfl rfl) (v0 1)) rfl (.inl rfl))
  (zAF (zDM g (v0 0) zAC (zPK (ixK g (fun _ _=>rfl) (v0 0) zAC) (v0 1)) (fun _=>rfl) rfl rfl rfl)
  (zAI (zAQ (v0 4))))) zAd)
  (zAF (zAb g (i:=2) rfl (zAY rfl) (ixK g (fun _ _=>rfl) (v0 0) zAC) rfl (.inl rfl))
  (zAF (zDM g (v0 0) zAC (zFY (zAh zAz zB2 rfl x.b_int ⋯ (zAA (zAN g (zAN g (zDU (v0 2) (v0 2)) (zDU (v0 2) zAC)) zAC) zAD rfl) ⋯ rfl rfl rfl) zAC) (fun _=>rfl) rfl rfl rfl)
  (zAI (zAQ (zFY (zAh zAz zB2 rfl x.b_int ⋯ (zAA (zAN g (zPK (ixK g (fun _ _=>rfl) (v0 0) zAC) zAC) (zDU (zFY (zAh zAz zB2 rfl x.b_int ⋯ (zAA (ixK g (fun _ _=>rfl) (v0 0) zAC) zAD rfl) ⋯ rfl rfl rfl) zAC) zAC)) zAD rfl) ⋯ rfl rfl rfl) (v0 1))))))))
theorem zMU:FnScope ["_law_bag_here", "_law_things"] ["_law_bag_here", "_law_things"] (defScope zDl):=⟨rfl,rfl,rfl,⋯,rfl,⋯,⋯⟩
theorem zE9(x:Fcts P K w mg):Fk P w K mg base (cl K fr) 2 (He.fAd K ("_law_of",none)) ["_law_bag_here", "_law_things"] zCM:=Fk.of x.d_law_of zMU (fun _ _ _ _ _ _ us hl=>match us,hl with|[_,_],_=>rfl) fun cd A outer s H E g hr=>(zAI (zAQ (ixK g (fun _ _=>rfl) (v0 1) (zAc (zAo x) g (rm hr) rfl x.g__law_pull (zAA (v0 0) (zAA (zAT zAa zAq rfl x.b_len ⋯ (zAA (v0 1) zAD rfl) ⋯ rfl rfl rfl) zAD rfl) rfl) rfl rfl rfl))))
theorem zLJ:FnScope ["_law_bag_here", "_law_most", "_law_found", "_law_letter"] ["_law_bag_here", "_law_most"] (defScope zDH):=⟨rfl,rfl,rfl,⋯,rfl,⋯,⋯⟩
theorem zHY(x:Fcts P K w mg):Fk P w K mg base (cl K fr) 2 (He.fAd K ("_law_sum",none)) ["_law_bag_here", "_law_most"] zDb:=Fk.of x.d_law_sum zLJ (fun _ _ _ _ _ _ us hl=>match us,hl with|[_,_],_=>rfl) fun cd A outer s H E g hr=>(zAF (zFD g zRc rfl rfl (sw_true rfl rfl rfl rfl) (own:=[("_law_letter",3)]) (by kernel_rfl) rfl (zEe g zAE) ⋯ (fun _=>(sgn (GX.blk g) 3)) (fun _=>zCR) (fun _=>(zFe (zAc (zAo x) (GX.blk g) (rm hr) rfl x.g__law_pull (zAA (v0 0) (zAA (zAN (GX.blk g) (zDU zAC (v0 1)) zAC) zAD rfl) rfl) rfl rfl rfl) (v0 1))) (fun _=>rfl))
  (zAF (zAw (zBG g (zAc (zAo x) g (rm hr) rfl x.g__law_pull (zAA (v0 0) (zAA zAC zAD rfl) rfl) rfl rfl rfl) zAC rfl) (zAI (zDM g (v0 2) (zAc (zAo x) g (rm hr) rfl x.g__law_pull (zAA (v0 0) (zAA zAC zAD rfl) rfl) rfl rfl rfl) zAC (fun _=>rfl) rfl rfl rfl)) zAd)
  (zAF (zAw (zCu (zBl g (zAT (zIF g.hc) zDn rfl x.b_any ⋯ (zAA (v0 2) zAD rfl) ⋯ rfl rfl rfl) (fun _=>rfl))) (zAI (zDM g (v0 2) (zAc (zAo x) g (rm hr) rfl x.g__law_pull (zAA (v0 0) (zAA zAC zAD rfl) rfl) rfl rfl rfl) zAC (fun _=>rfl) rfl rfl rfl)) zAd)
  (zAI (zAQ (zAh VY zDI rfl x.b_tuple ⋯ (zAA (v0 2) zAD rfl) ⋯ rfl rfl rfl))))))
theorem zJR:FnScope ["_law_bag_here", "_law_most", "_law_bound", "_law_word_here", "_law_number", "_law_divisor"] ["_law_bag_here", "_law_most", "_law_bound"] (defScope zCc):=⟨rfl,rfl,rfl,⋯,rfl,⋯,⋯⟩
theorem zGr(x:Fcts P K w mg):Fk P w K mg base (cl K fr) 3 (He.fAd K ("_law_atom",none)) ["_law_bag_here", "_law_most", "_law_bound"] zBa:=Fk.of x.d_law_atom zJR (fun _ _ _ _ _ _ us hl=>match us,hl with|[_,_,_],_=>rfl) fun cd A outer s H E g hr=>(zAF (zAb g (i:=3) rfl (zAY rfl) (zAc (zE9 x) g (rm hr) rfl x.g__law_of (zAA (v0 0) (zAA (zAl (zAA zAE (zAA zAE (zAA zAE (zAA zAE (zAA zAE zAD rfl) rfl) rfl) rfl) rfl)) zAD rfl) rfl) rfl rfl rfl) rfl (.inl rfl))
  (zAF (zAw (zBG g (v0 3) zAE rfl) (zAF (zAb g (i:=5) rfl (zAY rfl) (zAN g zAC (zAc (zAo x) g (rm hr) rfl x.g__law_pull (zAA (v0 0) (zAA zAC zAD rfl) rfl) rfl rfl rfl)) rfl (.inl rfl))
  (zAI (zAQ (zAx (zAA zAE (zAA (zAc (zHY x) g (rm hr) rfl x.g__law_sum (zAA (v0 0) (zAA (v0 1) zAD rfl) rfl) rfl rfl rfl) (zAA (v0 5) (zAA (zAc (zAo x) g (rm hr) rfl x.g__law_pull (zAA (v0 0) (zAA (v0 5) zAD rfl) rfl) rfl rfl rfl) zAD rfl) rfl) rfl) rfl))))) zAd)
  (zAF (zAb g (i:=4) rfl (zAY rfl) (zAc (zE9 x) g (rm hr) rfl x.g__law_of (zAA (v0 0) (zAA (zAl (zAA zAC (zAA zAC (zAA zAC (zAA (zFe (zAc (zAo x) g (rm hr) rfl x.g__law_pull (zAA (v0 0) (zAA (zAN g (zDU zAC (v0 2)) zAC) zAD rfl) rfl) rfl rfl rfl) (v0 2)) zAD rfl) rfl) rfl) rfl)) zAD rfl) rfl) rfl rfl rfl) rfl (.inl rfl))
  (zAI (zAQ (zAx (zAA (v0 3) (zAA (zAc (zHY x) g (rm hr) rfl x.g__law_sum (zAA (v0 0) (zAA (v0 1) zAD rfl) rfl) rfl rfl rfl) (zAA (v0 4) zAD rfl) rfl) rfl)))))))
theorem zIc:FnScope ["_law_bag_here", "_law_things", "_law_found", "_law_thing"] ["_law_bag_here", "_law_things"] (defScope zB9):=⟨rfl,rfl,rfl,⋯,rfl,⋯,⋯⟩
theorem zIZ(x:Fcts P K w mg):Fk P w K mg base (cl K fr) 2 (He.fAd K ("_law_mixed",none)) ["_law_bag_here", "_law_things"] zCn:=Fk.of x.d_law_mixed zIc (fun _ _ _ _ _ _ us hl=>match us,hl with|[_,_],_=>rfl) fun cd A outer s H E g hr=>(zAF (zAb g (i:=2) rfl (zAY rfl) (zDv zAD) rfl (.inl rfl))
  (zAF (zFi JP g (zEe g (v0 1)) (sgn g 3) (zAI (zEp (zFF g Vv F.slot_list_insert F.type_list_insert mt_insert zLK (v0 2) (zAA (zAc (zAo x) g (rm hr) rfl x.g__law_pull (zAA (v0 0) (zAA (zAN g (zAT zAa zAq rfl x.b_len ⋯ (zAA (v0 2) zAD rfl) ⋯ rfl rfl rfl) zAC) zAD rfl) rfl) rfl rfl rfl) (zAA (v0 3) zAD rfl) rfl) rfl rfl rfl rfl rfl) rfl)) (fun _=>rfl))
  (zAI (zAQ (se_frz (v0 2))))))
theorem zIr:FnScope ["_law_tree_here", "_law_part"] ["_law_tree_here"] (defScope zCE):=⟨rfl,rfl,rfl,⋯,rfl,⋯,⋯⟩
theorem zFa(x:Fcts P K w mg):∀n:Nat,Fk P w K mg base (cl K fr) (0+n) (He.fAd K ("_law_depth",none)) ["_law_tree_here"] (zAv n)
 |0=>(Fk.zero (N:=[]) (fun _ _=>rfl) x.d_law_depth (fun _ _ _ _ _ _ us hl=>match us,hl with|[_],_=>rfl)).mono (JI _)
 |n+1=>(fun(ih:Fk P w K mg base (cl K fr) (0+n) (He.fAd K ("_law_depth",none)) ["_law_tree_here"] (zAv n))=>Fk.of x.d_law_depth zIr (fun _ _ _ _ _ _ us hl=>match us,hl with|[_],_=>rfl) fun cd A outer s H E g hr=>(zAF (zAw (zF0 g (ixK g (fun _ _=>rfl) (v0 0) zAC) (zAl (zAA zAE (zAA zAE (zAA zAE zAD rfl) rfl) rfl)) rfl) (zAI (zAQ (zAN g zAC (zAT (zLv g.hc) zOD rfl x.b_max ⋯ (zAA (zIl g zCg (own:=[("_law_part",1)]) (by kernel_rfl) rfl (zEe g (zCz g (v0 0) (zAm zAC) zB3)) ⋯ (fun _=>(sgn (GX.blk g) 1)) (fun _=>zCR) (fun _=>(zAc ih (GX.blk g) hr rfl x.g__law_depth (zAA (v0 1) zAD rfl) rfl rfl rfl)) (fun _=>rfl)) zAD rfl) ⋯ rfl rfl rfl)))) zAd)
  (zAI (zAQ zAC)))) (zFa x n)
theorem zJr:FnScope ["_law_bag_here", "_law_atoms_here", "_law_most", "_law_bound", "_law_tree_here", "_law_some", "_law_parts", "_law_k"] ["_law_bag_here", "_law_atoms_here", "_law_most", "_law_bound"] (defScope zCe):=⟨rfl,rfl,rfl,⋯,rfl,⋯,⋯⟩
theorem zGP(x:Fcts P K w mg):∀n:Nat,Fk P w K mg base (cl K fr) (12+n) (He.fAd K ("_law_tree",none)) ["_law_bag_here", "_law_atoms_here", "_law_most", "_law_bound"] (zBs n)
 |0=>(Fk.zero (N:=[]) (fun _ _=>rfl) x.d_law_tree (fun _ _ _ _ _ _ us hl=>match us,hl with|[_,_,_,_],_=>rfl)).mono (JI _)
 |n+1=>(fun(ih:Fk P w K mg base (cl K fr) (12+n) (He.fAd K ("_law_tree",none)) ["_law_bag_here", "_law_atoms_here", "_law_most", "_law_bound"] (zBs n))=>Fk.of x.d_law_tree zJr (fun _ _ _ _ _ _ us hl=>match us,hl with|[_,_,_,_],_=>rfl) fun cd A outer s H E g hr=>(zAF (zAw (zC0 (zCj (zHD (v0 1) zAC rfl) (zCm (zBG g (zAc (zAo x) g (hr.mono ∅) rfl x.g__law_pull (zAA (v0 0) (zAA zAC zAD rfl) rfl) rfl rfl rfl) zAC rfl)))) (zAI (zAb g (i:=4) rfl (zAY rfl) (zAc (zGr x) g (hr.mono ∅) rfl x.g__law_atom (zAA (v0 0) (zAA (v0 2) (zAA (v0 3) zAD rfl) rfl) rfl) rfl rfl rfl) rfl (.inl rfl))) (zAF (zAb g (i:=5) rfl (zAY rfl) (zAN g zAC (zAc (zAo x) g (hr.mono ∅) rfl x.g__law_pull (zAA (v0 0) (zAA (zFe (v0 1) zAC) zAD rfl) rfl) rfl rfl rfl)) rfl (.inl rfl))
  (zAF (zFD g zCg rfl rfl (sw_true rfl rfl rfl rfl) (own:=[("_law_k",7)]) (by kernel_rfl) rfl (zHz rfl x.b_range (zAN g (v0 5) zAC) rfl) ⋯ (fun _=>(sgn (GX.blk g) 7)) (fun _=>zCR) (fun _=>(zCU (zHE (v0 7) zAC rfl) (zAc (zGr x) (GX.blk g) (hr.mono ∅) rfl x.g__law_atom (zAA (v0 0) (zAA (v0 2) (zAA (v0 3) zAD rfl) rfl) rfl) rfl rfl rfl) (zAc ih (GX.blk g) hr rfl x.g__law_tree (zAA (v0 0) (zAA (zFe (v0 1) (v0 5)) (zAA (v0 2) (zAA (v0 3) zAD rfl) rfl) rfl) rfl) rfl rfl rfl))) (fun _=>rfl))
  (zAI (zAb g (i:=4) rfl (zAY rfl) (zAh VY zDI rfl x.b_tuple ⋯ (zAA (zAN g (zAl (zAA (zAc (zE9 x) g (hr.mono ∅) rfl x.g__law_of (zAA (v0 0) (zAA (zAl (zAA zAE (zAA zAE zAD rfl) rfl)) zAD rfl) rfl) rfl rfl rfl) zAD rfl)) (zAc (zIZ x) g (hr.mono ∅) rfl x.g__law_mixed (zAA (v0 0) (zAA (v0 6) zAD rfl) rfl) rfl rfl rfl)) zAD rfl) ⋯ rfl rfl rfl) rfl (.inl rfl))))))
  (zAI (zAQ (zCU (zC0 (zEA (zBG g (zAc (zAo x) g (hr.mono ∅) rfl x.g__law_pull (zAA (v0 0) (zAA zAC zAD rfl) rfl) rfl rfl rfl) zAC rfl) (zEz (zHD (zAc (zFa x 12) g (hr.mono ∅) rfl x.g__law_depth (zAA (v0 4) zAD rfl) rfl rfl rfl) zAC rfl)))) (zAx (zAA zAE (zAA (v0 4) zAD rfl) rfl)) (v0 4)))))) (zGP x n)
theorem zGS:FnScope ["_law_words_z", "_law_at", "_law_deep", "_law_tree_here", "_law_parts"] ["_law_words_z", "_law_at", "_law_deep"] (defScope zBK):=⟨rfl,rfl,rfl,⋯,rfl,⋯,⋯⟩
theorem zEF(x:Fcts P K w mg){k:Nat}{Fpr:FM} (hk:1≤k) (ih:Fk P w K mg base (cl K fr) k (He.fAd K ("_law_read_part",none)) ["_law_words_z", "_law_at", "_law_deep"] Fpr):Fk P w K mg base (cl K fr) (k+1) (He.fAd K ("_law_read_all",none)) ["_law_words_z", "_law_at", "_law_deep"] (zBo Fpr):=Fk.of (k:=k+0) x.d_law_read_all zGS (fun _ _ _ _ _ _ us hl=>match us,hl with|[_,_,_],_=>rfl) fun cd A outer s H E g hr=>(zAF (zG2 (zD3 g (zAp (sgn g 3) (zAp (sgn g 1) zCr rfl) rfl) rfl rfl rfl) (zAc ih g (hr.mono ∅) rfl x.g__law_read_part (zAA (v0 0) (zAA (v0 1) (zAA (v0 2) zAD rfl) rfl) rfl) rfl rfl rfl) rfl rfl rfl)
  (zAF (zAb g (i:=4) rfl (zAY rfl) (zDv (zAA (v0 3) zAD rfl)) rfl (.inl rfl))
  (zAF (zEd JP (zBG g (zCz g (v0 0) (zAm (v0 1)) (zAm (zAN g (v0 1) zAC))) (zAl (zAA zAE zAD rfl)) rfl) (zAF (zG2 (zD3 g (zAp (sgn g 3) (zAp (sgn g 1) zCr rfl) rfl) rfl rfl rfl) (zAc ih g (hr.mono ∅) rfl x.g__law_read_part (zAA (v0 0) (zAA (zAN g (v0 1) zAC) (zAA (v0 2) zAD rfl) rfl) rfl) rfl rfl rfl) rfl rfl rfl)
  (zAI (zEp (zFF g Vv VC VD bo zC4 (v0 4) (zAA (v0 3) zAD rfl) rfl rfl rfl rfl rfl) rfl))))
  (zAF (zAw (zF0 g zBT (v0 4) rfl) (zAI (zAQ (zAx (zAA zBT (zAA (v0 1) zAD rfl) rfl)))) zAd)
  (zAI (zAQ (zAx (zAA (zCU (zBG g (zAT zAa zAq rfl x.b_len ⋯ (zAA (v0 4) zAD rfl) ⋯ rfl rfl rfl) zAC rfl) (ixK g (fun _ _=>rfl) (v0 4) zAC) (zAh VY zDI rfl x.b_tuple ⋯ (zAA (zAN g (zAl (zAA zAE zAD rfl)) (v0 4)) zAD rfl) ⋯ rfl rfl rfl)) (zAA (v0 1) zAD rfl) rfl))))))))
theorem zGv:FnScope ["_law_words_z", "_law_at", "_law_deep", "_law_tree_here", "_law_parts"] ["_law_words_z", "_law_at", "_law_deep"] (defScope zBJ):=⟨rfl,rfl,rfl,⋯,rfl,⋯,⋯⟩
theorem zEB(x:Fcts P K w mg){k:Nat}{Fpr:FM} (hk:1≤k) (ih:Fk P w K mg base (cl K fr) k (He.fAd K ("_law_read_part",none)) ["_law_words_z", "_law_at", "_law_deep"] Fpr):Fk P w K mg base (cl K fr) (k+2) (He.fAd K ("_law_read_any",none)) ["_law_words_z", "_law_at", "_law_deep"] (zAn Fpr):=Fk.of (k:=k+1) x.d_law_read_any zGv (fun _ _ _ _ _ _ us hl=>match us,hl with|[_,_,_],_=>rfl) fun cd A outer s H E g hr=>(zAF (zG2 (zD3 g (zAp (sgn g 3) (zAp (sgn g 1) zCr rfl) rfl) rfl rfl rfl) (zAc (zEF x ∅ ih) g (hr.mono ∅) rfl x.g__law_read_all (zAA (v0 0) (zAA (v0 1) (zAA (v0 2) zAD rfl) rfl) rfl) rfl rfl rfl) rfl rfl rfl)
  (zAF (zAb g (i:=4) rfl (zAY rfl) (zDv (zAA (v0 3) zAD rfl)) rfl (.inl rfl))
  (zAF (zEd JP (zBG g (zCz g (v0 0) (zAm (v0 1)) (zAm (zAN g (v0 1) zAC))) (zAl (zAA zAE zAD rfl)) rfl) (zAF (zG2 (zD3 g (zAp (sgn g 3) (zAp (sgn g 1) zCr rfl) rfl) rfl rfl rfl) (zAc (zEF x ∅ ih) g (hr.mono ∅) rfl x.g__law_read_all (zAA (v0 0) (zAA (zAN g (v0 1) zAC) (zAA (v0 2) zAD rfl) rfl) rfl) rfl rfl rfl) rfl rfl rfl)
  (zAI (zEp (zFF g Vv VC VD bo zC4 (v0 4) (zAA (v0 3) zAD rfl) rfl rfl rfl rfl rfl) rfl))))
  (zAF (zAw (zF0 g zBT (v0 4) rfl) (zAI (zAQ (zAx (zAA zBT (zAA (v0 1) zAD rfl) rfl)))) zAd)
  (zAI (zAQ (zAx (zAA (zCU (zBG g (zAT zAa zAq rfl x.b_len ⋯ (zAA (v0 4) zAD rfl) ⋯ rfl rfl rfl) zAC rfl) (ixK g (fun _ _=>rfl) (v0 4) zAC) (zAh VY zDI rfl x.b_tuple ⋯ (zAA (zAN g (zAl (zAA zAE zAD rfl)) (v0 4)) zAD rfl) ⋯ rfl rfl rfl)) (zAA (v0 1) zAD rfl) rfl))))))))
theorem zFt:FnScope ["_law_words_z", "_law_at", "_law_factors", "_law_sign", "_law_rest", "_law_digits", "_law_words_of", "_law_word_here", "_law_place", "_law_number", "_law_one"] ["_law_words_z", "_law_at"] (defScope zA6):=⟨rfl,rfl,rfl,⋯,rfl,⋯,⋯⟩
theorem zFo(x:Fcts P K w mg):Fk P w K mg base (cl K fr) 1 (He.fAd K ("_law_read_atom",none)) ["_law_words_z", "_law_at"] zB7:=Fk.of x.d_law_read_atom zFt (fun _ _ _ _ _ _ us hl=>match us,hl with|[_,_],_=>rfl) fun cd A outer s H E g hr=>(zAF (zKK g rfl rfl (!0) rfl rfl (zAA (zDv (zAA zAC (zAA zAC (zAA zAC zAD rfl) rfl) rfl)) (zAA zAC zAD rfl) rfl) rfl rfl)
  (zAF (zEd JP (zBl g zGp (fun _=>rfl)) (zAF (zAb g (i:=7) rfl (zAY rfl) (zCU (zHD (v0 1) (zAT zAa zAq rfl x.b_len ⋯ (zAA (v0 0) zAD rfl) ⋯ rfl rfl rfl) rfl) (ixK g (fun _ _=>rfl) (v0 0) (v0 1)) zAE) rfl (.inl rfl))
  (zAF (zAw (zC0 (zEA (zBG g (zCz g (v0 7) zB3 (zAm zAC)) zAE rfl) (zEz (zBG g (v0 2) (zAl (zAA zAC (zAA zAC (zAA zAC zAD rfl) rfl) rfl)) rfl)))) (zAI (zKK g rfl rfl (!0) rfl rfl (zAA (zDc zAC) (zAA (zCz g (v0 7) (zAm zAC) zB3) zAD rfl) rfl) rfl rfl)) zAd)
  (zAF (zAw (zC0 (zCj (zDf g (zCz g (v0 7) (zAm (zDc zAC)) zB3) (zAl (zAA zAE (zAA zAE (zAA zAE zAD rfl) rfl) rfl)) rfl) (zCm (zDf g (zCz g (v0 7) zB3 (zAm (zDc zAC))) (zAl (zAA zAE (zAA zAE (zAA zAE (zAA zAE zAD rfl) rfl) rfl) rfl)) rfl)))) (zAI (zAQ (zAx (zAA zBT (zAA (v0 1) zAD rfl) rfl)))) zAd)
  (zAF (zAb g (i:=8) rfl (zAY rfl) (zFF g Vn F.slot_str_index F.type_str_index mt_sindex zHZ zAE (zAA (ixK g (fun _ _=>rfl) (v0 7) (zDc zAC)) zAD rfl) rfl rfl rfl rfl rfl) rfl (.inl rfl))
  (zAF (zDM g (v0 2) (v0 8) (zAN g (ixK g (fun _ _=>rfl) (v0 2) (v0 8)) (zDU (v0 3) (zAh zAz zB2 rfl x.b_int ⋯ (zAA (ixK g (fun _ _=>rfl) (zAN g (zCz g (v0 7) zB3 (zAm (zDc zAC))) zAE) zAC) zAD rfl) ⋯ rfl rfl rfl))) (fun _=>rfl) rfl rfl rfl)
  (zAF (zAw (zDf g (zCz g (v0 0) (zAm (zAN g (v0 1) zAC)) (zAm (zAN g (v0 1) zAC))) (zAl (zAA (zAl (zAA zAE zAD rfl)) (zAA (zAl (zAA zAE zAD rfl)) zAD rfl) rfl)) rfl) (zAI zKn) zAd)
  (zAI (zKK g rfl rfl (!0) rfl rfl (zAA (zCU (zBG g (ixK g (fun _ _=>rfl) (v0 0) (zAN g (v0 1) zAC)) zAE rfl) zAC (zDc zAC)) (zAA (zAN g (v0 1) zAC) zAD rfl) rfl) rfl rfl)))))))))
  (zAF (zAb g (i:=4) rfl (zAY rfl) (zCz g (v0 0) (zAm (zAN g (v0 1) zAC)) (zAm (zAN g (v0 1) zAC))) rfl (.inl rfl))
  (zAF (zFD g zCg rfl rfl (sw_true rfl rfl rfl rfl) (own:=[("_law_number",9)]) (by kernel_rfl) rfl (zHz rfl x.b_range zAC rfl) ⋯ (fun _=>(sgn (GX.blk g) 9)) (fun _=>zCR) (fun _=>(zAh zEC zGN rfl x.b_str ⋯ (zAA (v0 9) zAD rfl) ⋯ rfl rfl rfl)) (fun _=>rfl))
  (zAF (zAw (zC0 (zEA (zBG g (zAT zAa zAq rfl x.b_len ⋯ (zAA (v0 4) zAD rfl) ⋯ rfl rfl rfl) zAC rfl) (zEA (zBG g (ixK g (fun _ _=>rfl) (v0 4) zAC) zAE rfl) (zEA (zF0 g (ixK g (fun _ _=>rfl) (v0 4) zAC) (v0 5) rfl) (zEz (zF0 g (ixK g (fun _ _=>rfl) (v0 4) zAC) (v0 5) rfl)))))) (zAI (zAQ (zCU (zBG g (ixK g (fun _ _=>rfl) (v0 4) zAC) zAE rfl) (zAx (zAA (zAx (zAA zAE (zAA (zAh VY zDI rfl x.b_tuple ⋯ (zAA (v0 2) zAD rfl) ⋯ rfl rfl rfl) (zAA (zAh zAz zB2 rfl x.b_int ⋯ (zAA (ixK g (fun _ _=>rfl) (v0 4) zAC) zAD rfl) ⋯ rfl rfl rfl) (zAA (zAh zAz zB2 rfl x.b_int ⋯ (zAA (ixK g (fun _ _=>rfl) (v0 4) zAC) zAD rfl) ⋯ rfl rfl rfl) zAD rfl) rfl) rfl) rfl)) (zAA (zAN g (v0 1) zAC) zAD rfl) rfl)) (zAx (zAA zBT (zAA (v0 1) zAD rfl) rfl))))) zAd)
  (zAF (zAb g (i:=6) rfl (zAY rfl) (zHu (SJ.cons zAE (SJ.cons zAE (SJ.cons zAE SJ.nil))) (Paired.cons ⟨_,_,rfl⟩ (Paired.cons ⟨_,_,rfl⟩ (Paired.cons ⟨_,_,rfl⟩ Paired.nil))) rfl ⋯ (by simp) (!0) rfl) rfl (.inl rfl))
  (zAF (zAw (zC0 (zCj (zHD (zAT zAa zAq rfl x.b_len ⋯ (zAA (v0 4) zAD rfl) ⋯ rfl rfl rfl) zAC rfl) (zCj (zLe g (ixK g (fun _ _=>rfl) (v0 4) zAC) (v0 6) rfl) (zCm (zDf g (ixK g (fun _ _=>rfl) (v0 4) zAC) (zAN g (v0 5) (zIl g zCg (own:=[("_law_one",10)]) (by kernel_rfl) rfl (zEe g (v0 5)) ⋯ (fun _=>(sgn (GX.blk g) 10)) (fun _=>zCR) (fun _=>(zAN (GX.blk g) zAE (v0 10))) (fun _=>rfl))) rfl))))) (zAI (zAQ (zAx (zAA zBT (zAA (v0 1) zAD rfl) rfl)))) zAd)
  (zAI (zAQ (zAx (zAA (zAx (zAA (zHh g (fun _ _=>rfl) (v0 6) (ixK g (fun _ _=>rfl) (v0 4) zAC)) (zAA (zAh VY zDI rfl x.b_tuple ⋯ (zAA (v0 2) zAD rfl) ⋯ rfl rfl rfl) (zAA (zAh zAz zB2 rfl x.b_int ⋯ (zAA (ixK g (fun _ _=>rfl) (v0 4) zAC) zAD rfl) ⋯ rfl rfl rfl) zAD rfl) rfl) rfl)) (zAA (zAN g (v0 1) zAC) zAD rfl) rfl)))))))))))
theorem zF4:FnScope ["_law_words_z", "_law_at", "_law_deep", "_law_tree_here"] ["_law_words_z", "_law_at", "_law_deep"] (defScope zA8):=⟨rfl,rfl,rfl,⋯,rfl,⋯,⋯⟩
theorem zDz(x:Fcts P K w mg):∀n:Nat,Fk P w K mg base (cl K fr) (1+3*n) (He.fAd K ("_law_read_part",none)) ["_law_words_z", "_law_at", "_law_deep"] (zAO n)
 |0=>(Fk.zero (N:=[]) (fun _ _=>rfl) x.d_law_read_part (fun _ _ _ _ _ _ us hl=>match us,hl with|[_,_,_],_=>rfl)).mono (JI _)
 |n+1=>(fun(ih:Fk P w K mg base (cl K fr) (1+3*n) (He.fAd K ("_law_read_part",none)) ["_law_words_z", "_law_at", "_law_deep"] (zAO n))=>(Fk.of (k:=1+3*n+2) x.d_law_read_part zF4 (fun _ _ _ _ _ _ us hl=>match us,hl with|[_,_,_],_=>rfl) fun cd A outer s H E g hr=>(zAF (zAw (zHE (v0 2) zAC rfl) (zAI (zAQ (zAx (zAA zBT (zAA (v0 1) zAD rfl) rfl)))) zAd)
  (zAF (zAw (zBG g (zCz g (v0 0) (zAm (v0 1)) (zAm (zAN g (v0 1) zAC))) (zAl (zAA zAE zAD rfl)) rfl) (zAF (zG2 (zD3 g (zAp (sgn g 3) (zAp (sgn g 1) zCr rfl) rfl) rfl rfl rfl) (zAc ih g (hr.mono ∅) rfl x.g__law_read_part (zAA (v0 0) (zAA (zAN g (v0 1) zAC) (zAA (zAN g (v0 2) zAC) zAD rfl) rfl) rfl) rfl rfl rfl) rfl rfl rfl)
  (zAI (zAQ (zAx (zAA (zCU (zL0 (v0 3) zBT rfl) zBT (zAx (zAA zAE (zAA (v0 3) zAD rfl) rfl))) (zAA (v0 1) zAD rfl) rfl))))) zAd)
  (zAF (zAw (zBG g (zCz g (v0 0) (zAm (v0 1)) (zAm (zAN g (v0 1) zAC))) (zAl (zAA zAE zAD rfl)) rfl) (zAF (zG2 (zD3 g (zAp (sgn g 3) (zAp (sgn g 1) zCr rfl) rfl) rfl rfl rfl) (zAc (zEB x ∅ ih) g (hr.mono ∅) rfl x.g__law_read_any (zAA (v0 0) (zAA (zAN g (v0 1) zAC) (zAA (zAN g (v0 2) zAC) zAD rfl) rfl) rfl) rfl rfl rfl) rfl rfl rfl)
  (zAI (zAQ (zAx (zAA (zCU (zBG g (zCz g (v0 0) (zAm (v0 1)) (zAm (zAN g (v0 1) zAC))) (zAl (zAA zAE zAD rfl)) rfl) (v0 3) zBT) (zAA (zAN g (v0 1) zAC) zAD rfl) rfl))))) zAd)
  (zAI (zAQ (zAc (zFo x) g (hr.mono ∅) rfl x.g__law_read_atom (zAA (v0 0) (zAA (v0 1) zAD rfl) rfl) rfl rfl rfl))))))).mono ∅) (zDz x n)
theorem zFv:FnScope ["_law_value", "_law_least", "_law_most"] ["_law_value", "_law_least", "_law_most"] (defScope zBB):=⟨rfl,rfl,rfl,⋯,rfl,⋯,⋯⟩
theorem zB8(x:Fcts P K w mg):Fk P w K mg base (cl K fr) 1 (He.fAd K ("_law_is_number",none)) ["_law_value", "_law_least", "_law_most"] zAu:=Fk.of x.d_law_is_number zFv (fun _ _ _ _ _ _ us hl=>match us,hl with|[_,_,_],_=>rfl) fun cd A outer s H E g hr=>(zAI (zAQ (zB6 (zB0 g (!0) rfl x.b_isinstance rfl x.b_int ⋯ ⋯ rfl (v0 0) rfl rfl rfl) (zB6 (zPM (zB0 g (!0) rfl x.b_isinstance rfl x.b_bool ⋯ ⋯ rfl (v0 0) rfl rfl rfl)) (zDG (zGI op_le op_le zFG zFG (v0 1) (v0 0) (v0 2) (by with_unfolding_all rfl)))))))
theorem zIA:FnScope ["_law_value", "_law_factor"] ["_law_value"] (defScope zBu):=⟨rfl,rfl,rfl,⋯,rfl,⋯,⋯⟩
theorem zE4(x:Fcts P K w mg):Fk P w K mg base (cl K fr) 2 (He.fAd K ("_law_is_sum",none)) ["_law_value"] zBW:=Fk.of x.d_law_is_sum zIA (fun _ _ _ _ _ _ us hl=>match us,hl with|[_],_=>rfl) fun cd A outer s H E g hr=>(zAF (zAw (zC0 (zCj (zCu (zBl g (zB0 g (!0) rfl x.b_isinstance rfl x.b_tuple ⋯ ⋯ rfl (v0 0) rfl rfl rfl) (fun _=>rfl))) (zCm (zFw g (zAT zAa zAq rfl x.b_len ⋯ (zAA (v0 0) zAD rfl) ⋯ rfl rfl rfl) zAC rfl)))) (zAI (zAQ zGp)) zAd)
  (zAI (zAQ (zB6 (zAT (zES g.hc) zDn rfl x.b_all ⋯ (zAA (zIl g zCg (own:=[("_law_factor",1)]) (by kernel_rfl) rfl (zEe g (v0 0)) ⋯ (fun _=>(sgn (GX.blk g) 1)) (fun _=>zCR) (fun _=>(zAc (zB8 x) (GX.blk g) (rm hr) rfl x.g__law_is_number (zAA (v0 1) (zAA (zDc zAC) (zAA zAC zAD rfl) rfl) rfl) rfl rfl rfl)) (fun _=>rfl)) zAD rfl) ⋯ rfl rfl rfl) (zDG (se_ne g (v0 0) (zAx (zAA zAC (zAA zAC (zAA zAC zAD rfl) rfl) rfl)) rfl))))))
theorem zHG:FnScope ["_law_value", "_law_depth_here", "_law_good", "_law_part"] ["_law_value", "_law_depth_here"] (defScope zBc):=⟨rfl,rfl,rfl,⋯,rfl,⋯,⋯⟩
theorem zEi(x:Fcts P K w mg):∀n:Nat,Fk P w K mg base (cl K fr) (2+n) (He.fAd K ("_law_is_tree",none)) ["_law_value", "_law_depth_here"] (zAL n)
 |0=>(Fk.zero (N:=[]) (fun _ _=>rfl) x.d_law_is_tree (fun _ _ _ _ _ _ us hl=>match us,hl with|[_,_],_=>rfl)).mono (JI _)
 |n+1=>(fun(ih:Fk P w K mg base (cl K fr) (2+n) (He.fAd K ("_law_is_tree",none)) ["_law_value", "_law_depth_here"] (zAL n))=>Fk.of x.d_law_is_tree zHG (fun _ _ _ _ _ _ us hl=>match us,hl with|[_,_],_=>rfl) fun cd A outer s H E g hr=>(zAF (zAw (zC0 (zCj (zCu (zBl g (zB0 g (!0) rfl x.b_isinstance rfl x.b_tuple ⋯ ⋯ rfl (v0 0) rfl rfl rfl) (fun _=>rfl))) (zCj (zBG g (v0 0) (zAx zAD) rfl) (zCj (zCu (zBl g (zB0 g (!0) rfl x.b_isinstance rfl x.b_str ⋯ ⋯ rfl (ixK g (fun _ _=>rfl) (v0 0) zAC) rfl rfl rfl) (fun _=>rfl))) (zCm (zHE (v0 1) zAC rfl)))))) (zAI (zAQ zGp)) zAd)
  (zAF (zAw (zF0 g (ixK g (fun _ _=>rfl) (v0 0) zAC) (zAl (zAA zAE (zAA zAE (zAA zAE zAD rfl) rfl) rfl)) rfl) (zAF (zAb g (i:=2) rfl (zAY rfl) (zCU (zBG g (ixK g (fun _ _=>rfl) (v0 0) zAC) zAE rfl) (zGL g (zAT zAa zAq rfl x.b_len ⋯ (zAA (v0 0) zAD rfl) ⋯ rfl rfl rfl) zAC rfl) (zGI op_le op_le zFG zFG zAC (zAT zAa zAq rfl x.b_len ⋯ (zAA (v0 0) zAD rfl) ⋯ rfl rfl rfl) zAC (by with_unfolding_all rfl))) rfl (.inl rfl))
  (zAI (zAQ (zB6 (v0 2) (zDG (zAT (zES g.hc) zDn rfl x.b_all ⋯ (zAA (zIl g zCg (own:=[("_law_part",3)]) (by kernel_rfl) rfl (zEe g (zCz g (v0 0) (zAm zAC) zB3)) ⋯ (fun _=>(sgn (GX.blk g) 3)) (fun _=>zCR) (fun _=>(zAc ih (GX.blk g) hr rfl x.g__law_is_tree (zAA (v0 3) (zAA (zAN (GX.blk g) (v0 1) zAC) zAD rfl) rfl) rfl rfl rfl)) (fun _=>rfl)) zAD rfl) ⋯ rfl rfl rfl)))))) zAd)
  (zAF (zAw (zBG g (ixK g (fun _ _=>rfl) (v0 0) zAC) zAE rfl) (zAI (zAQ (zB6 (zGL g (zAT zAa zAq rfl x.b_len ⋯ (zAA (v0 0) zAD rfl) ⋯ rfl rfl rfl) zAC rfl) (zB6 (zAc (zE4 x) g (hr.mono ∅) rfl x.g__law_is_sum (zAA (ixK g (fun _ _=>rfl) (v0 0) zAC) zAD rfl) rfl rfl rfl) (zB6 (zAc (zB8 x) g (hr.mono ∅) rfl x.g__law_is_number (zAA (ixK g (fun _ _=>rfl) (v0 0) zAC) (zAA zAC (zAA zAC zAD rfl) rfl) rfl) rfl rfl rfl) (zDG (zAc (zB8 x) g (hr.mono ∅) rfl x.g__law_is_number (zAA (ixK g (fun _ _=>rfl) (v0 0) zAC) (zAA zAC (zAA (zFe (ixK g (fun _ _=>rfl) (v0 0) zAC) zAC) zAD rfl) rfl) rfl) rfl rfl rfl))))))) zAd)
  (zAI (zAQ (zB6 (se_in g (ixK g (fun _ _=>rfl) (v0 0) zAC) (zAl (zAA zAE (zAA zAE (zAA zAE zAD rfl) rfl) rfl)) rfl) (zB6 (zGL g (zAT zAa zAq rfl x.b_len ⋯ (zAA (v0 0) zAD rfl) ⋯ rfl rfl rfl) zAC rfl) (zB6 (zAc (zE4 x) g (hr.mono ∅) rfl x.g__law_is_sum (zAA (ixK g (fun _ _=>rfl) (v0 0) zAC) zAD rfl) rfl rfl rfl) (zDG (zAc (zB8 x) g (hr.mono ∅) rfl x.g__law_is_number (zAA (ixK g (fun _ _=>rfl) (v0 0) zAC) (zAA (zDc zAC) (zAA zAC zAD rfl) rfl) rfl) rfl rfl rfl))))))))))) (zEi x n)
theorem zI0:FnScope ["_law_tree_here", "_law_found", "_law_part"] ["_law_tree_here"] (defScope zCB):=⟨rfl,rfl,rfl,⋯,rfl,⋯,⋯⟩
theorem zFf(x:Fcts P K w mg):∀n:Nat,Fk P w K mg base (cl K fr) (0+n) (He.fAd K ("_law_atoms",none)) ["_law_tree_here"] (zA2 n)
 |0=>(Fk.zero (N:=[]) (fun _ _=>rfl) x.d_law_atoms (fun _ _ _ _ _ _ us hl=>match us,hl with|[_],_=>rfl)).mono (JI _)
 |n+1=>(fun(ih:Fk P w K mg base (cl K fr) (0+n) (He.fAd K ("_law_atoms",none)) ["_law_tree_here"] (zA2 n))=>Fk.of x.d_law_atoms zI0 (fun _ _ _ _ _ _ us hl=>match us,hl with|[_],_=>rfl) fun cd A outer s H E g hr=>(zAF (zAw (zDf g (ixK g (fun _ _=>rfl) (v0 0) zAC) (zAl (zAA zAE (zAA zAE (zAA zAE zAD rfl) rfl) rfl)) rfl) (zAI (zAQ (zAl (zAA (v0 0) zAD rfl)))) zAd)
  (zAF (zAb g (i:=1) rfl (zAY rfl) (zAl zAD) rfl (.inl rfl))
  (zAF (zFi JP g (zEe g (zCz g (v0 0) (zAm zAC) zB3)) (sgn g 2) (zAI (zAb g (i:=1) rfl (zAY rfl) (zAN g (v0 1) (zAc ih g hr rfl x.g__law_atoms (zAA (v0 2) zAD rfl) rfl rfl rfl)) rfl (.inl rfl))) (fun _=>rfl))
  (zAI (zAQ (v0 1))))))) (zFf x n)
theorem zGa:FnScope ["_law_value"] ["_law_value"] (defScope zBL):=⟨rfl,rfl,rfl,⋯,rfl,⋯,⋯⟩
theorem zGn(x:Fcts P K w mg):Fk P w K mg base (cl K fr) 15 (He.fAd K ("_law_tree_due",none)) ["_law_value"] zAr:=Fk.of x.d_law_tree_due zGa (fun _ _ _ _ _ _ us hl=>match us,hl with|[_],_=>rfl) fun cd A outer s H E g hr=>(zAF (zAw (zCu (zBl g (zAc (zEi x 12) g (rm hr) rfl x.g__law_is_tree (zAA (v0 0) (zAA zAC zAD rfl) rfl) rfl rfl rfl) (fun _=>rfl))) (zAI (zAQ (zAx (zAA zAE (zAA zBT zAD rfl) rfl)))) zAd)
  (zAI (zAQ (zCU (st_le (zAT zAa zAq rfl x.b_len ⋯ (zAA (zAc (zFf x 12) g (rm hr) rfl x.g__law_atoms (zAA (v0 0) zAD rfl) rfl rfl rfl) zAD rfl) ⋯ rfl rfl rfl) zAC rfl) (zAx (zAA zAE (zAA (v0 0) zAD rfl) rfl)) (zAx (zAA zAE (zAA zAC zAD rfl) rfl))))))
theorem zJF:FnScope ["_law_found", "_law_due", "_law_one", "_law_other"] ["_law_found", "_law_due"] (defScope zCW):=⟨rfl,rfl,rfl,⋯,rfl,⋯,⋯⟩
theorem zGz(x:Fcts P K w mg):∀n:Nat,Fk P w K mg base (cl K fr) (0+n) (He.fAd K ("_law_same",none)) ["_law_found", "_law_due"] (zAg n)
 |0=>(Fk.zero (N:=[]) (fun _ _=>rfl) x.d_law_same (fun _ _ _ _ _ _ us hl=>match us,hl with|[_,_],_=>rfl)).mono (JI _)
 |n+1=>(fun(ih:Fk P w K mg base (cl K fr) (0+n) (He.fAd K ("_law_same",none)) ["_law_found", "_law_due"] (zAg n))=>Fk.of x.d_law_same zJF (fun _ _ _ _ _ _ us hl=>match us,hl with|[_,_],_=>rfl) fun cd A outer s H E g hr=>(zAF (zAw (zC0 (zCj (zBl g (zB0 g (!0) rfl x.b_isinstance rfl x.b_list ⋯ ⋯ rfl (v0 1) rfl rfl rfl) (fun _=>rfl)) (zCm (zBl g (zB0 g (!0) rfl x.b_isinstance rfl x.b_tuple ⋯ ⋯ rfl (v0 1) rfl rfl rfl) (fun _=>rfl))))) (zAF (zAw (zC0 (zCj (zFw g (zB0 g (!0) rfl x.b_isinstance rfl x.b_list ⋯ ⋯ rfl (v0 0) rfl rfl rfl) (zB0 g (!0) rfl x.b_isinstance rfl x.b_list ⋯ ⋯ rfl (v0 1) rfl rfl rfl) rfl) (zCm (zFw g (zB0 g (!0) rfl x.b_isinstance rfl x.b_tuple ⋯ ⋯ rfl (v0 0) rfl rfl rfl) (zB0 g (!0) rfl x.b_isinstance rfl x.b_tuple ⋯ ⋯ rfl (v0 1) rfl rfl rfl) rfl)))) (zAI (zAQ zGp)) zAd)
  (zAI (zAQ (zB6 (zGL g (zAT zAa zAq rfl x.b_len ⋯ (zAA (v0 0) zAD rfl) ⋯ rfl rfl rfl) (zAT zAa zAq rfl x.b_len ⋯ (zAA (v0 1) zAD rfl) ⋯ rfl rfl rfl) rfl) (zDG (zAT (zES g.hc) zDn rfl x.b_all ⋯ (zAA (zIl g zCg (own:=[("_law_one",2),("_law_other",3)]) (by kernel_rfl) rfl (zJe g rfl x.b_zip (v0 0) (v0 1) rfl rfl rfl) ⋯ (fun _=>(zD3 (GX.blk g) (zAp (sgn (GX.blk g) 2) (zAp (sgn (GX.blk g) 3) zCr rfl) rfl) rfl rfl rfl)) (fun _=>zCR) (fun _=>(zAc ih (GX.blk g) hr rfl x.g__law_same (zAA (v0 2) (zAA (v0 3) zAD rfl) rfl) rfl rfl rfl)) (fun _=>rfl)) zAD rfl) ⋯ rfl rfl rfl)))))) zAd)
  (zAF (zAw (zC0 (zCj (zL0 (v0 1) zBT rfl) (zCm (zL0 (v0 0) zBT rfl)))) (zAI (zAQ (zB6 (se_is (v0 1) zBT rfl) (zDG (se_is (v0 0) zBT rfl))))) zAd)
  (zAF (zAw (zC0 (zCj (zFw g (zB0 g (!0) rfl x.b_isinstance rfl x.b_bool ⋯ ⋯ rfl (v0 0) rfl rfl rfl) (zB0 g (!0) rfl x.b_isinstance rfl x.b_bool ⋯ ⋯ rfl (v0 1) rfl rfl rfl) rfl) (zCm (zFw g (zB0 g (!0) rfl x.b_isinstance rfl x.b_int ⋯ ⋯ rfl (v0 0) rfl rfl rfl) (zB0 g (!0) rfl x.b_isinstance rfl x.b_int ⋯ ⋯ rfl (v0 1) rfl rfl rfl) rfl)))) (zAI (zAQ zGp)) zAd)
  (zAI (zAQ (zB6 (zGL g (zB0 g (!0) rfl x.b_isinstance rfl x.b_str ⋯ ⋯ rfl (v0 0) rfl rfl rfl) (zB0 g (!0) rfl x.b_isinstance rfl x.b_str ⋯ ⋯ rfl (v0 1) rfl rfl rfl) rfl) (zDG (zGL g (v0 0) (v0 1) rfl))))))))) (zGz x n)
theorem zF3:FnScope ["self"] ["self"] (defScope zBE):=⟨rfl,rfl,rfl,⋯,rfl,⋯,⋯⟩
theorem zF1(x:Fcts P K w mg):Fk P w K mg base (cl K fr) 1 ((zBn K (He.ga K "Question") "tree").2) ["self"] zBf:=Fk.of x.d_Question_tree zF3 (fun _ _ _ _ _ _ us hl=>match us,hl with|[_],_=>rfl) fun cd A outer s H E g hr=>(zAI (zAQ (zFZ g (fld1 x.f_Question_shape) (v0 0) rfl)))
theorem zF9(x:Fcts P K w mg):Pk P w K mg base (cl K fr) 1 (He.ga K "Question") "tree" zBf:=Pk.of x.p_Question_tree (zF1 x)
theorem zHL:FnScope ["self", "text"] ["self", "text"] (defScope zBd):=⟨rfl,rfl,rfl,⋯,rfl,⋯,⋯⟩
theorem zHJ(x:Fcts P K w mg):Fk P w K mg base (cl K fr) 1 (He.fAd K ("Reader",some "__init__")) ["self", "text"] zB5:=Fk.ofT x.d_Reader_init zHL ⋯ (!0) (fun _ _ _ _ _ _ us hl=>match us,hl with|[_,_],_=>rfl) fun cd A outer s H E g hr=>(zBb (zOp g (fld1 x.f_Reader_words) clsm (v0 0) (zPg F.slot_str_split F.type_str_split mt_split zIG (zGC (zGC (SEt.of (v0 1)) ⋯ rfl rfl rfl) ⋯ rfl rfl rfl) zAE rfl rfl rfl) rfl)
  (SSst.of (zAI (zH5 g (fld1 x.f_Reader_at) clsm (v0 0) zAC rfl))))
theorem zHN:FnScope ["self"] ["self"] (defScope zBY):=⟨rfl,rfl,rfl,⋯,rfl,⋯,⋯⟩
theorem zA3(x:Fcts P K w mg):Fk P w K mg base (cl K fr) 1 (He.fAd K ("Reader",some "next")) ["self"] zAM:=Fk.of x.d_Reader_next zHN (fun _ _ _ _ _ _ us hl=>match us,hl with|[_],_=>rfl) fun cd A outer s H E g hr=>(zAI (zAQ (zCU (zHD (zFZ g (fld1 x.f_Reader_at) (v0 0) rfl) (zAT zAa zAq rfl x.b_len ⋯ (zAA (zFZ g (fld1 x.f_Reader_words) (v0 0) rfl) zAD rfl) ⋯ rfl rfl rfl) rfl) (ixK g (fun _ _=>rfl) (zFZ g (fld1 x.f_Reader_words) (v0 0) rfl) (zFZ g (fld1 x.f_Reader_at) (v0 0) rfl)) zAE)))
theorem zD4:FnScope ["self", "word", "parts"] ["self", "word", "parts"] (defScope zAj):=⟨rfl,rfl,rfl,⋯,rfl,⋯,⋯⟩
theorem zCV(x:Fcts P K w mg):Fk P w K mg base (cl K fr) 1 (He.fAd K ("Reader",some "joined_parts")) ["self", "word", "parts"] zAV:=Fk.of x.d_Reader_joined_parts zD4 (fun _ _ _ _ _ _ us hl=>match us,hl with|[_,_,_],_=>rfl) fun cd A outer s H E g hr=>(zAF (zAw (zF0 g zBT (v0 2) rfl) (zAI (zAQ zBT)) zAd)
  (zAI (zAQ (zCU (zBG g (zAT zAa zAq rfl x.b_len ⋯ (zAA (v0 2) zAD rfl) ⋯ rfl rfl rfl) zAC rfl) (ixK g (fun _ _=>rfl) (v0 2) zAC) (zAx (zAA (v0 1) (zQe g (v0 2) zAD rfl) rfl))))))
theorem zFz:FnScope ["self", "parts"] ["self"] (defScope zA9):=⟨rfl,rfl,rfl,⋯,rfl,⋯,⋯⟩
theorem zD2(x:Fcts P K w mg){k:Nat}{Fpr:FM} (hk:3≤k) (ih:Fk P w K mg base (cl K fr) k (He.fAd K ("Reader",some "part")) ["self"] Fpr):Fk P w K mg base (cl K fr) (k+1) (He.fAd K ("Reader",some "all_of")) ["self"] (zBi Fpr):=Fk.of (k:=k+0) x.d_Reader_all_of zFz (fun _ _ _ _ _ _ us hl=>match us,hl with|[_],_=>rfl) fun cd A outer s H E g hr=>(zAF (zAb g (i:=1) rfl (zAY rfl) (zDv (zAA (zCv ih g (hr.mono ∅) rfl rfl x.c_Reader x.m_Reader_part (v0 0) rfl) zAD rfl)) rfl (.inl rfl))
  (zAF (zEd JP (zBG g (zCv (zA3 x) g (hr.mono ∅) rfl rfl x.c_Reader x.m_Reader_next (v0 0) rfl) zAE rfl) (zAF (zDk g (fld1 x.f_Reader_at) clsm (v0 0) zAC zCk zCl)
  (zAI (zEp (zFF g Vv VC VD bo zC4 (v0 1) (zAA (zCv ih g (hr.mono ∅) rfl rfl x.c_Reader x.m_Reader_part (v0 0) rfl) zAD rfl) rfl rfl rfl rfl rfl) rfl))))
  (zAI (zAQ (zJI (zCV x) g (hr.mono ∅) rfl rfl x.c_Reader x.m_Reader_joined_parts (v0 0) (zAA zAE (zAA (v0 1) zAD rfl) rfl) rfl rfl rfl)))))
theorem zF8:FnScope ["self", "parts"] ["self"] (defScope zBC):=⟨rfl,rfl,rfl,⋯,rfl,⋯,⋯⟩
theorem zDy(x:Fcts P K w mg){k:Nat}{Fpr:FM} (hk:3≤k) (ih:Fk P w K mg base (cl K fr) k (He.fAd K ("Reader",some "part")) ["self"] Fpr):Fk P w K mg base (cl K fr) (k+2) (He.fAd K ("Reader",some "any_of")) ["self"] (zAt Fpr):=Fk.of (k:=k+1) x.d_Reader_any_of zF8 (fun _ _ _ _ _ _ us hl=>match us,hl with|[_],_=>rfl) fun cd A outer s H E g hr=>(zAF (zAb g (i:=1) rfl (zAY rfl) (zDv (zAA (zCv (zD2 x ∅ ih) g (hr.mono ∅) rfl rfl x.c_Reader x.m_Reader_all_of (v0 0) rfl) zAD rfl)) rfl (.inl rfl))
  (zAF (zEd JP (zBG g (zCv (zA3 x) g (hr.mono ∅) rfl rfl x.c_Reader x.m_Reader_next (v0 0) rfl) zAE rfl) (zAF (zDk g (fld1 x.f_Reader_at) clsm (v0 0) zAC zCk zCl)
  (zAI (zEp (zFF g Vv VC VD bo zC4 (v0 1) (zAA (zCv (zD2 x ∅ ih) g (hr.mono ∅) rfl rfl x.c_Reader x.m_Reader_all_of (v0 0) rfl) zAD rfl) rfl rfl rfl rfl rfl) rfl))))
  (zAI (zAQ (zJI (zCV x) g (hr.mono ∅) rfl rfl x.c_Reader x.m_Reader_joined_parts (v0 0) (zAA zAE (zAA (v0 1) zAD rfl) rfl) rfl rfl rfl)))))
theorem zJc:FnScope ["text"] ["text"] (defScope zCY):=⟨rfl,rfl,rfl,⋯,rfl,⋯,⋯⟩
theorem zDs(x:Fcts P K w mg):Fk P w K mg base (cl K fr) 1 (He.fAd K ("is_digit",none)) ["text"] zBN:=Fk.of x.d_is_digit zJc (fun _ _ _ _ _ _ us hl=>match us,hl with|[_],_=>rfl) fun cd A outer s H E g hr=>(zAI (zAQ (zB6 (zGL g (zAT zAa zAq rfl x.b_len ⋯ (zAA (v0 0) zAD rfl) ⋯ rfl rfl rfl) zAC rfl) (zDG (se_in g (v0 0) zAE rfl)))))
theorem zF2:FnScope ["self", "factors", "word", "last", "names", "name", "sign"] ["self", "factors"] (defScope zA7):=⟨rfl,rfl,rfl,⋯,rfl,⋯,⋯⟩
theorem zFq(x:Fcts P K w mg):Fk P w K mg base (cl K fr) 2 (He.fAd K ("Reader",some "ending")) ["self", "factors"] zAW:=Fk.of x.d_Reader_ending zF2 (fun _ _ _ _ _ _ us hl=>match us,hl with|[_,_],_=>rfl) fun cd A outer s H E g hr=>(zAF (zG2 (zD3 g (zAp (sgn g 2) (zAp (sgn g 3) zCr rfl) rfl) rfl rfl rfl) (zAx (zAA (zCv (zA3 x) g (rm hr) rfl rfl x.c_Reader x.m_Reader_next (v0 0) rfl) (zAA (zCz g (zFZ g (fld1 x.f_Reader_words) (v0 0) rfl) (zAm (zAN g (zFZ g (fld1 x.f_Reader_at) (v0 0) rfl) zAC)) (zAm (zAN g (zFZ g (fld1 x.f_Reader_at) (v0 0) rfl) zAC))) zAD rfl) rfl)) rfl rfl rfl)
  (zAF (zAw (zC0 (zEA (zBG g (v0 2) zAE rfl) (zEA (zBG g (zAT zAa zAq rfl x.b_len ⋯ (zAA (v0 3) zAD rfl) ⋯ rfl rfl rfl) zAC rfl) (zEA (zBl g (zAc (zDs x) g (rm hr) rfl x.g_is_digit (zAA (ixK g (fun _ _=>rfl) (v0 3) zAC) zAD rfl) rfl rfl rfl) (fun _=>rfl)) (zEz (zBl g (zAc (zDs x) g (rm hr) rfl x.g_is_digit (zAA (ixK g (fun _ _=>rfl) (v0 3) zAC) zAD rfl) rfl rfl rfl) (fun _=>rfl))))))) (zAF (zDk g (fld1 x.f_Reader_at) clsm (v0 0) zAC zCk zCl)
  (zAI (zAQ (zAx (zAA zAE (zAA (v0 1) (zAA (zAh zAz zB2 rfl x.b_int ⋯ (zAA (ixK g (fun _ _=>rfl) (v0 3) zAC) zAD rfl) ⋯ rfl rfl rfl) (zAA (zAh zAz zB2 rfl x.b_int ⋯ (zAA (ixK g (fun _ _=>rfl) (v0 3) zAC) zAD rfl) ⋯ rfl rfl rfl) zAD rfl) rfl) rfl) rfl))))) zAd)
  (zAF (zFD g zCg rfl rfl (sw_true rfl rfl rfl rfl) (own:=[("name",5),("sign",6)]) (by kernel_rfl) rfl (zL5 g x.tl_SIGNS_OF rfl x.g_SIGNS_OF rfl rfl rfl) ⋯ (fun _=>(zD3 (GX.blk g) (zAp (sgn (GX.blk g) 5) (zAp (sgn (GX.blk g) 6) zCr rfl) rfl) rfl rfl rfl)) (fun _=>zQG (zBG (GX.blk g) (v0 6) (v0 2) rfl)) (fun _=>(v0 5)) (fun _=>rfl))
  (zAF (zAw (zC0 (zCj (zBG g (v0 4) (zAl zAD) rfl) (zCj (zBG g (v0 3) (zAl zAD) rfl) (zCm (zCu (zBl g (zAc (zDs x) g (rm hr) rfl x.g_is_digit (zAA (zFF g Vn F.slot_str_removeprefix F.type_str_removeprefix mt_removeprefix zMo (ixK g (fun _ _=>rfl) (v0 3) zAC) (zAA zAE zAD rfl) rfl rfl rfl rfl rfl) zAD rfl) rfl rfl rfl) (fun _=>rfl))))))) (zAI (zAQ zBT)) zAd)
  (zAF (zDk g (fld1 x.f_Reader_at) clsm (v0 0) zAC zCk zCl)
  (zAI (zAQ (zAx (zAA (ixK g (fun _ _=>rfl) (v0 4) zAC) (zAA (v0 1) (zAA (zAh zAz zB2 rfl x.b_int ⋯ (zAA (ixK g (fun _ _=>rfl) (v0 3) zAC) zAD rfl) ⋯ rfl rfl rfl) zAD rfl) rfl) rfl)))))))))
theorem zHI:FnScope ["self", "factors", "sign", "word", "many"] ["self"] (defScope zBZ):=⟨rfl,rfl,rfl,⋯,rfl,⋯,⋯⟩
theorem zHF(x:Fcts P K w mg):Fk P w K mg base (cl K fr) 3 (He.fAd K ("Reader",some "atom")) ["self"] zB4:=Fk.of x.d_Reader_atom zHI (fun _ _ _ _ _ _ us hl=>match us,hl with|[_],_=>rfl) fun cd A outer s H E g hr=>(zAF (zAb g (i:=1) rfl (zAY rfl) (zDv (zAA zAC (zAA zAC (zAA zAC zAD rfl) rfl) rfl)) rfl (.inl rfl))
  (zAF (zAb g (i:=2) rfl (zAY rfl) zAC rfl (.inl rfl))
  (zAF (zEd JP (zBl g zGp (fun _=>rfl)) (zAF (zAb g (i:=3) rfl (zAY rfl) (zCv (zA3 x) g (rm hr) rfl rfl x.c_Reader x.m_Reader_next (v0 0) rfl) rfl (.inl rfl))
  (zAF (zDk g (fld1 x.f_Reader_at) clsm (v0 0) zAC zCk zCl)
  (zAF (zAw (zC0 (zEA (zBl g (zFF g Vn F.slot_str_startswith F.type_str_startswith mt_startswith zLV (v0 3) (zAA zAE zAD rfl) rfl rfl rfl rfl rfl) (fun _=>rfl)) (zEz (zBG g (v0 1) (zAl (zAA zAC (zAA zAC (zAA zAC zAD rfl) rfl) rfl)) rfl)))) (zAI (zKK g rfl rfl (!0) rfl rfl (zAA (zDc zAC) (zAA (zCz g (v0 3) (zAm zAC) zB3) zAD rfl) rfl) rfl rfl)) zAd)
  (zAF (zAw (zC0 (zCj (zBG g (v0 3) zAE rfl) (zCm (zDf g (ixK g (fun _ _=>rfl) (v0 3) (zDc zAC)) zAE rfl)))) (zAI (zAQ zBT)) zAd)
  (zAF (zAb g (i:=4) rfl (zAY rfl) (zCU (zHE (zAT zAa zAq rfl x.b_len ⋯ (zAA (v0 3) zAD rfl) ⋯ rfl rfl rfl) zAC rfl) (zCz g (v0 3) zB3 (zAm (zDc zAC))) zAE) rfl (.inl rfl))
  (zAF (zAw (zCu (zBl g (zAc (zDs x) g (rm hr) rfl x.g_is_digit (zAA (v0 4) zAD rfl) rfl rfl rfl) (fun _=>rfl))) (zAI (zAQ zBT)) zAd)
  (zAF (zOG g (v0 1) (zFF g Vn F.slot_str_index F.type_str_index mt_sindex zHZ zAE (zAA (ixK g (fun _ _=>rfl) (v0 3) (zDc zAC)) zAD rfl) rfl rfl rfl rfl rfl) (zDU (v0 2) (zAh zAz zB2 rfl x.b_int ⋯ (zAA (v0 4) zAD rfl) ⋯ rfl rfl rfl)) zCk zCl)
  (zAF (zAw (zDf g (zCv (zA3 x) g (rm hr) rfl rfl x.c_Reader x.m_Reader_next (v0 0) rfl) (zAx (zAA zAE (zAA zAE zAD rfl) rfl)) rfl) (zAI zKn) zAd)
  (zAF (zAb g (i:=2) rfl (zAY rfl) (zCU (zBG g (zCv (zA3 x) g (rm hr) rfl rfl x.c_Reader x.m_Reader_next (v0 0) rfl) zAE rfl) zAC (zDc zAC)) rfl (.inl rfl))
  (zAI (zDk g (fld1 x.f_Reader_at) clsm (v0 0) zAC zCk zCl))))))))))))
  (zAI (zAQ (zJI (zFq x) g (rm hr) rfl rfl x.c_Reader x.m_Reader_ending (v0 0) (zAA (zAh VY zDI rfl x.b_tuple ⋯ (zAA (v0 1) zAD rfl) ⋯ rfl rfl rfl) zAD rfl) rfl rfl rfl))))))
theorem zHH:FnScope ["self", "inner"] ["self"] (defScope zBX):=⟨rfl,rfl,rfl,⋯,rfl,⋯,⋯⟩
theorem zEg(x:Fcts P K w mg):∀n:Nat,Fk P w K mg base (cl K fr) (3+3*n) (He.fAd K ("Reader",some "part")) ["self"] (zAZ n)
 |0=>(Fk.zero (N:=[]) (fun _ _=>rfl) x.d_Reader_part (fun _ _ _ _ _ _ us hl=>match us,hl with|[_],_=>rfl)).mono (JI _)
 |n+1=>(fun(ih:Fk P w K mg base (cl K fr) (3+3*n) (He.fAd K ("Reader",some "part")) ["self"] (zAZ n))=>(Fk.of (k:=3+3*n+2) x.d_Reader_part zHH (fun _ _ _ _ _ _ us hl=>match us,hl with|[_],_=>rfl) fun cd A outer s H E g hr=>(zAF (zAw (zBG g (zCv (zA3 x) g (hr.mono ∅) rfl rfl x.c_Reader x.m_Reader_next (v0 0) rfl) zAE rfl) (zAF (zDk g (fld1 x.f_Reader_at) clsm (v0 0) zAC zCk zCl)
  (zAF (zAb g (i:=1) rfl (zAY rfl) (zCv ih g (hr.mono ∅) rfl rfl x.c_Reader x.m_Reader_part (v0 0) rfl) rfl (.inl rfl))
  (zAI (zAQ (zCU (zL0 (v0 1) zBT rfl) zBT (zAx (zAA zAE (zAA (v0 1) zAD rfl) rfl))))))) zAd)
  (zAF (zAw (zBG g (zCv (zA3 x) g (hr.mono ∅) rfl rfl x.c_Reader x.m_Reader_next (v0 0) rfl) zAE rfl) (zAF (zDk g (fld1 x.f_Reader_at) clsm (v0 0) zAC zCk zCl)
  (zAF (zAb g (i:=1) rfl (zAY rfl) (zCv (zDy x ∅ ih) g (hr.mono ∅) rfl rfl x.c_Reader x.m_Reader_any_of (v0 0) rfl) rfl (.inl rfl))
  (zAF (zDk g (fld1 x.f_Reader_at) clsm (v0 0) zAC zCk zCl)
  (zAI (zAQ (v0 1)))))) zAd)
  (zAI (zAQ (zCv (zHF x) g (hr.mono ∅) rfl rfl x.c_Reader x.m_Reader_atom (v0 0) rfl)))))).mono ∅) (zEg x n)
theorem zIg:FnScope ["value"] ["value"] (defScope zCA):=⟨rfl,rfl,rfl,⋯,rfl,⋯,⋯⟩
theorem zI4(x:Fcts P K w mg):Fk P w K mg base (cl K fr) 1 (He.fAd K ("is_number",none)) ["value"] zCH:=Fk.of x.d_is_number zIg (fun _ _ _ _ _ _ us hl=>match us,hl with|[_],_=>rfl) fun cd A outer s H E g hr=>(zAI (zAQ (zB6 (zB0 g (!0) rfl x.b_isinstance rfl x.b_int ⋯ ⋯ rfl (v0 0) rfl rfl rfl) (zDG (zPM (zB0 g (!0) rfl x.b_isinstance rfl x.b_bool ⋯ ⋯ rfl (v0 0) rfl rfl rfl))))))
theorem zIm:FnScope ["value", "least", "most"] ["value", "least", "most"] (defScope zCC):=⟨rfl,rfl,rfl,⋯,rfl,⋯,⋯⟩
theorem zDP(x:Fcts P K w mg):Fk P w K mg base (cl K fr) 2 (He.fAd K ("is_within",none)) ["value", "least", "most"] zA1:=Fk.of x.d_is_within zIm (fun _ _ _ _ _ _ us hl=>match us,hl with|[_,_,_],_=>rfl) fun cd A outer s H E g hr=>(zAI (zAQ (zB6 (zAc (zI4 x) g (rm hr) rfl x.g_is_number (zAA (v0 0) zAD rfl) rfl rfl rfl) (zDG (zGI op_le op_le zFG zFG (v0 1) (v0 0) (v0 2) (by with_unfolding_all rfl))))))
theorem zHC:FnScope ["value", "factor"] ["value"] (defScope zBV):=⟨rfl,rfl,rfl,⋯,rfl,⋯,⋯⟩
theorem zEj(x:Fcts P K w mg):Fk P w K mg base (cl K fr) 3 (He.fAd K ("are_factors",none)) ["value"] zAy:=Fk.of x.d_are_factors zHC (fun _ _ _ _ _ _ us hl=>match us,hl with|[_],_=>rfl) fun cd A outer s H E g hr=>(zAF (zAw (zC0 (zCj (zCu (zBl g (zB0 g (!0) rfl x.b_isinstance rfl x.b_tuple ⋯ ⋯ rfl (v0 0) rfl rfl rfl) (fun _=>rfl))) (zCj (zFw g (zAT zAa zAq rfl x.b_len ⋯ (zAA (v0 0) zAD rfl) ⋯ rfl rfl rfl) zAC rfl) (zCm (zCu (zBl g (zAT (zIF g.hc) zDn rfl x.b_any ⋯ (zAA (v0 0) zAD rfl) ⋯ rfl rfl rfl) (fun _=>rfl))))))) (zAI (zAQ zGp)) zAd)
  (zAI (zAQ (zAT (zES g.hc) zDn rfl x.b_all ⋯ (zAA (zIl g zCg (own:=[("factor",1)]) (by kernel_rfl) rfl (zEe g (v0 0)) ⋯ (fun _=>(sgn (GX.blk g) 1)) (fun _=>zCR) (fun _=>(zAc (zDP x) (GX.blk g) (rm hr) rfl x.g_is_within (zAA (v0 1) (zAA (zFe zAC (zC7 rfl x.i_MOST_FACTOR rfl)) (zAA (zC7 rfl x.i_MOST_FACTOR rfl) zAD rfl) rfl) rfl) rfl rfl rfl)) (fun _=>rfl)) zAD rfl) ⋯ rfl rfl rfl))))
theorem zLN:FnScope ["tree"] ["tree"] (defScope zDJ):=⟨rfl,rfl,rfl,⋯,rfl,⋯,⋯⟩
theorem zLE(x:Fcts P K w mg):Fk P w K mg base (cl K fr) 4 (He.fAd K ("is_atom",none)) ["tree"] zA4:=Fk.of x.d_is_atom zLN (fun _ _ _ _ _ _ us hl=>match us,hl with|[_],_=>rfl) fun cd A outer s H E g hr=>(zAF (zAw (zBG g (ixK g (fun _ _=>rfl) (v0 0) zAC) zAE rfl) (zAF (zAw (zC0 (zCj (zFw g (zAT zAa zAq rfl x.b_len ⋯ (zAA (v0 0) zAD rfl) ⋯ rfl rfl rfl) zAC rfl) (zCj (zCu (zBl g (zAc (zEj x) g (rm hr) rfl x.g_are_factors (zAA (ixK g (fun _ _=>rfl) (v0 0) zAC) zAD rfl) rfl rfl rfl) (fun _=>rfl))) (zCm (zCu (zBl g (zAc (zDP x) g (rm hr) rfl x.g_is_within (zAA (ixK g (fun _ _=>rfl) (v0 0) zAC) (zAA zAC (zAA zAC zAD rfl) rfl) rfl) rfl rfl rfl) (fun _=>rfl))))))) (zAI (zAQ zGp)) zAd)
  (zAI (zAQ (zAc (zDP x) g (rm hr) rfl x.g_is_within (zAA (ixK g (fun _ _=>rfl) (v0 0) zAC) (zAA zAC (zAA (zFe (ixK g (fun _ _=>rfl) (v0 0) zAC) zAC) zAD rfl) rfl) rfl) rfl rfl rfl)))) zAd)
  (zAF (zAw (zC0 (zCj (zMh g x.t_SIGNS_OF rfl x.g_SIGNS_OF rfl (ixK g (fun _ _=>rfl) (v0 0) zAC)) (zCm (zFw g (zAT zAa zAq rfl x.b_len ⋯ (zAA (v0 0) zAD rfl) ⋯ rfl rfl rfl) zAC rfl)))) (zAI (zAQ zGp)) zAd)
  (zAI (zAQ (zB6 (zAc (zEj x) g (rm hr) rfl x.g_are_factors (zAA (ixK g (fun _ _=>rfl) (v0 0) zAC) zAD rfl) rfl rfl rfl) (zDG (zAc (zDP x) g (rm hr) rfl x.g_is_within (zAA (ixK g (fun _ _=>rfl) (v0 0) zAC) (zAA (zFe zAC (zC7 rfl x.i_MOST_BOUND rfl)) (zAA (zC7 rfl x.i_MOST_BOUND rfl) zAD rfl) rfl) rfl) rfl rfl rfl)))))))
theorem zLB:FnScope ["value", "depth", "word", "parts", "part"] ["value", "depth"] (defScope zDE):=⟨rfl,rfl,rfl,⋯,rfl,⋯,⋯⟩
theorem zFS(x:Fcts P K w mg):∀n:Nat,Fk P w K mg base (cl K fr) (4+n) (He.fAd K ("is_tree",none)) ["value", "depth"] (zAX n)
 |0=>(Fk.zero (N:=[]) (fun _ _=>rfl) x.d_is_tree (fun _ _ _ _ _ _ us hl=>match us,hl with|[_,_],_=>rfl)).mono (JI _)
 |n+1=>(fun(ih:Fk P w K mg base (cl K fr) (4+n) (He.fAd K ("is_tree",none)) ["value", "depth"] (zAX n))=>Fk.of x.d_is_tree zLB (fun _ _ _ _ _ _ us hl=>match us,hl with|[_,_],_=>rfl) fun cd A outer s H E g hr=>(zAF (zAw (zC0 (zCj (zCu (zBl g (zB0 g (!0) rfl x.b_isinstance rfl x.b_tuple ⋯ ⋯ rfl (v0 0) rfl rfl rfl) (fun _=>rfl))) (zCj (zBG g (v0 0) (zAx zAD) rfl) (zCj (zCu (zBl g (zB0 g (!0) rfl x.b_isinstance rfl x.b_str ⋯ ⋯ rfl (ixK g (fun _ _=>rfl) (v0 0) zAC) rfl rfl rfl) (fun _=>rfl))) (zCm (zHE (v0 1) (zC7 rfl x.i_MOST_DEPTH rfl) rfl)))))) (zAI (zAQ zGp)) zAd)
  (zAF (zLq g (i:=2) (j:=3) rfl rfl (zAY rfl) (zAY rfl) (.inl rfl) (.inl rfl) (v0 0) rfl rfl rfl rfl)
  (zAF (zAw (zBG g (v0 2) zAE rfl) (zAI (zAQ (zB6 (zGL g (zAT zAa zAq rfl x.b_len ⋯ (zAA (v0 3) zAD rfl) ⋯ rfl rfl rfl) zAC rfl) (zDG (zAc ih g hr rfl x.g_is_tree (zAA (ixK g (fun _ _=>rfl) (v0 3) zAC) (zAA (zAN g (v0 1) zAC) zAD rfl) rfl) rfl rfl rfl))))) zAd)
  (zAF (zAw (zF0 g (v0 2) (zAx (zAA zAE (zAA zAE zAD rfl) rfl)) rfl) (zAI (zAQ (zB6 (zGI op_le op_le zFG zFG zAC (zAT zAa zAq rfl x.b_len ⋯ (zAA (v0 3) zAD rfl) ⋯ rfl rfl rfl) (zC7 rfl x.i_MOST_PARTS rfl) (by with_unfolding_all rfl)) (zDG (zAT (zES g.hc) zDn rfl x.b_all ⋯ (zAA (zIl g zCg (own:=[("part",4)]) (by kernel_rfl) rfl (zEe g (v0 3)) ⋯ (fun _=>(sgn (GX.blk g) 4)) (fun _=>zCR) (fun _=>(zAc ih (GX.blk g) hr rfl x.g_is_tree (zAA (v0 4) (zAA (zAN (GX.blk g) (v0 1) zAC) zAD rfl) rfl) rfl rfl rfl)) (fun _=>rfl)) zAD rfl) ⋯ rfl rfl rfl))))) zAd)
  (zAI (zAQ (zAc (zLE x) g (hr.mono ∅) rfl x.g_is_atom (zAA (v0 0) zAD rfl) rfl rfl rfl)))))))) (zFS x n)
theorem zJh:FnScope ["tree", "part", "atom"] ["tree"] (defScope zCh):=⟨rfl,rfl,rfl,⋯,rfl,⋯,⋯⟩
theorem zDt(x:Fcts P K w mg):∀n:Nat,Fk P w K mg base (cl K fr) (0+n) (He.fAd K ("atoms_in",none)) ["tree"] (zBA n)
 |0=>(Fk.zero (N:=[]) (fun _ _=>rfl) x.d_atoms_in (fun _ _ _ _ _ _ us hl=>match us,hl with|[_],_=>rfl)).mono (JI _)
 |n+1=>(fun(ih:Fk P w K mg base (cl K fr) (0+n) (He.fAd K ("atoms_in",none)) ["tree"] (zBA n))=>Fk.of x.d_atoms_in zJh (fun _ _ _ _ _ _ us hl=>match us,hl with|[_],_=>rfl) fun cd A outer s H E g hr=>(zAF (zAw (zF0 g (ixK g (fun _ _=>rfl) (v0 0) zAC) (zAx (zAA zAE (zAA zAE (zAA zAE zAD rfl) rfl) rfl)) rfl) (zAI (zAQ (se_lc2 g zCg (own:=[("part",1),("atom",2)]) (by kernel_rfl) rfl (zEe g (zCz g (v0 0) (zAm zAC) zB3)) ⋯ ⋯ ⋯ (fun _=>(sgn (GX.blk g) 1)) (fun _=>zCR) (fun _=>(zEe (GX.blk g) (zAc ih (GX.blk g) hr rfl x.g_atoms_in (zAA (v0 1) zAD rfl) rfl rfl rfl))) (fun _=>(sgn (GX.blk g) 2)) (fun _=>zCR) (fun _=>(v0 2)) (fun _=>rfl) (fun _ _=>rfl)))) zAd)
  (zAI (zAQ (zAl (zAA (v0 0) zAD rfl)))))) (zDt x n)
theorem zJo:FnScope ["factors", "found", "factor", "letter", "sign", "lead"] ["factors"] (defScope zCX):=⟨rfl,rfl,rfl,⋯,rfl,⋯,⋯⟩
theorem zG4(x:Fcts P K w mg):Fk P w K mg base (cl K fr) 1 (He.fAd K ("sum_text",none)) ["factors"] zCD:=Fk.of x.d_sum_text zJo (fun _ _ _ _ _ _ us hl=>match us,hl with|[_],_=>rfl) fun cd A outer s H E g hr=>(zAF (zAb g (i:=1) rfl (zAY rfl) zAE rfl (.inl rfl))
  (zAF (zFi JP g (zJe g rfl x.b_zip (v0 0) zAE rfl rfl rfl) (zD3 g (zAp (sgn g 2) (zAp (sgn g 3) zCr rfl) rfl) rfl rfl rfl) (zAF (zAw (zBG g (v0 2) zAC rfl) (zAI zQw) zAd)
  (zAF (zAb g (i:=4) rfl (zAY rfl) (zCU (zHD (v0 2) zAC rfl) zAE zAE) rfl (.inl rfl))
  (zAF (zAb g (i:=5) rfl (zAY rfl) (zCU (zFw g (v0 1) zAE rfl) (zJp (SJ.cons zAE (SJ.cons (zD0 (v0 4)) (SJ.cons zAE SJ.nil)))) (zCU (zHD (v0 2) zAC rfl) zAE zAE)) rfl (.inl rfl))
  (zAI (zAb g (i:=1) rfl (zAY rfl) (zAN g (zAN g (v0 1) (v0 5)) (zCU (zBG g (zAT call_abs zHs rfl x.b_abs ⋯ (zAA (v0 2) zAD rfl) ⋯ rfl rfl rfl) zAC rfl) (v0 3) (zJp (SJ.cons (zD0 (zAT call_abs zHs rfl x.b_abs ⋯ (zAA (v0 2) zAD rfl) ⋯ rfl rfl rfl)) (SJ.cons zAE (SJ.cons (zD0 (v0 3)) SJ.nil)))))) rfl (.inl rfl)))))) (fun _=>rfl))
  (zAI (zAQ (v0 1)))))
theorem zIE:FnScope ["tree", "word", "parts", "inner", "texts", "part"] ["tree"] (defScope zCF):=⟨rfl,rfl,rfl,⋯,rfl,⋯,⋯⟩
theorem zEU(x:Fcts P K w mg):∀n:Nat,Fk P w K mg base (cl K fr) (1+n) (He.fAd K ("tree_text",none)) ["tree"] (zAR n)
 |0=>(Fk.zero (N:=[]) (fun _ _=>rfl) x.d_tree_text (fun _ _ _ _ _ _ us hl=>match us,hl with|[_],_=>rfl)).mono (JI _)
 |n+1=>(fun(ih:Fk P w K mg base (cl K fr) (1+n) (He.fAd K ("tree_text",none)) ["tree"] (zAR n))=>Fk.of x.d_tree_text zIE (fun _ _ _ _ _ _ us hl=>match us,hl with|[_],_=>rfl) fun cd A outer s H E g hr=>(zAF (zLq g (i:=1) (j:=2) rfl rfl (zAY rfl) (zAY rfl) (.inl rfl) (.inl rfl) (v0 0) rfl rfl rfl rfl)
  (zAF (zAw (zBG g (v0 1) zAE rfl) (zAI (zAQ (zJp (SJ.cons (zD0 (zAc (zG4 x) g (hr.mono ∅) rfl x.g_sum_text (zAA (ixK g (fun _ _=>rfl) (v0 2) zAC) zAD rfl) rfl rfl rfl)) (SJ.cons zAE (SJ.cons (zD0 (ixK g (fun _ _=>rfl) (v0 2) zAC)) (SJ.cons zAE (SJ.cons (zD0 (ixK g (fun _ _=>rfl) (v0 2) zAC)) SJ.nil)))))))) zAd)
  (zAF (zAw (st_inT g x.t_SIGNS_OF rfl x.g_SIGNS_OF rfl (v0 1)) (zAI (zAQ (zJp (SJ.cons (zD0 (zAc (zG4 x) g (hr.mono ∅) rfl x.g_sum_text (zAA (ixK g (fun _ _=>rfl) (v0 2) zAC) zAD rfl) rfl rfl rfl)) (SJ.cons zAE (SJ.cons (zD0 (zP9 g x.t_SIGNS_OF rfl x.g_SIGNS_OF rfl (fun _ _=>rfl) (v0 1))) (SJ.cons zAE (SJ.cons (zD0 (ixK g (fun _ _=>rfl) (v0 2) zAC)) SJ.nil)))))))) zAd)
  (zAF (zAb g (i:=3) rfl (zAY rfl) (zHh g (fun _ _=>rfl) (zHu (SJ.cons (zAx (zAA zAE (zAA zAE zAD rfl) rfl)) (SJ.cons (zAx (zAA zAE (zAA zAE zAD rfl) rfl)) (SJ.cons (zAx (zAA zAE zAD rfl)) SJ.nil))) (Paired.cons ⟨_,_,rfl⟩ (Paired.cons ⟨_,_,rfl⟩ (Paired.cons ⟨_,_,rfl⟩ Paired.nil))) rfl ⋯ (by simp) (!0) rfl) (v0 1)) rfl (.inl rfl))
  (zAF (zFD g zCg rfl rfl (sw_true rfl rfl rfl rfl) (own:=[("part",5)]) (by kernel_rfl) rfl (zEe g (v0 2)) ⋯ (fun _=>(sgn (GX.blk g) 5)) (fun _=>zCR) (fun _=>(zCU (zF0 (GX.blk g) (ixK (GX.blk g) (fun _ _=>rfl) (v0 5) zAC) (v0 3) rfl) (zJp (SJ.cons zAE (SJ.cons (zD0 (zAc ih (GX.blk g) hr rfl x.g_tree_text (zAA (v0 5) zAD rfl) rfl rfl rfl)) (SJ.cons zAE SJ.nil)))) (zAc ih (GX.blk g) hr rfl x.g_tree_text (zAA (v0 5) zAD rfl) rfl rfl rfl))) (fun _=>rfl))
  (zAI (zAQ (zCU (zBG g (v0 1) zAE rfl) (zJp (SJ.cons zAE (SJ.cons (zD0 (ixK g (fun _ _=>rfl) (v0 4) zAC)) SJ.nil))) (zFF g Vn F.slot_str_join F.type_str_join mt_join zKh (zJp (SJ.cons zAE (SJ.cons (zD0 (v0 1)) (SJ.cons zAE SJ.nil)))) (zAA (v0 4) zAD rfl) rfl rfl rfl rfl rfl)))))))))) (zEU x n)
-- raises ['InvalidQuestion','TooMany']
theorem zF7:FnScope ["self", "tree"] ["self", "tree"] (defScope zBD):=⟨rfl,rfl,rfl,⋯,rfl,⋯,⋯⟩
theorem zFx(x:Fcts P K w mg):Xk P w K mg base (cl K fr) 17 (He.fAd K ("Question",some "__init__")) ["self", "tree"] zBU:=Xk.of x.d_Question_init zF7 (fun _ _ _ _ _ _ us hl=>match us,hl with|[_,_],_=>rfl) fun cd A outer s H E g tk hr=>(zAF (zAw (zCu (zBl g (zAc (zFS x 12) g (rm hr) rfl x.g_is_tree (zAA (v0 1) (zAA zAC zAD rfl) rfl) rfl rfl rfl) (fun _=>rfl))) (zAI (zGk (zFH x) g tk (rm hr) rfl x.g_InvalidQuestion ⋯)) zAd)
  (zAF (zAw (zHE (zAT zAa zAq rfl x.b_len ⋯ (zAA (zAc (zDt x 12) g (rm hr) rfl x.g_atoms_in (zAA (v0 1) zAD rfl) rfl rfl rfl) zAD rfl) ⋯ rfl rfl rfl) (zC7 rfl x.i_MOST_ATOMS rfl) rfl) (zAI (zLg (zLM x) g tk (rm hr) rfl x.g_TooMany (zC7 rfl x.i_MOST_ATOMS rfl) ⋯ rfl rfl)) zAd)
  (zAF (zH5 g (fld1 x.f_Question_shape) clsm (v0 0) (v0 1) rfl)
  (zAF (zH5 g (fld1 x.f_Question_leaves) clsm (v0 0) (zAc (zDt x 12) g (rm hr) rfl x.g_atoms_in (zAA (v0 1) zAD rfl) rfl rfl rfl) rfl)
  (zAI (zH5 g (fld1 x.f_Question_written) clsm (v0 0) (zAc (zEU x 12) g (rm hr) rfl x.g_tree_text (zAA (v0 1) zAD rfl) rfl rfl rfl) rfl))))))
-- raises ['InvalidQuestion','InvalidText','TooMany']
theorem zGA:FnScope ["cls", "text", "tree"] ["cls", "text"] (defScope zBF):=⟨rfl,rfl,rfl,⋯,rfl,⋯,⋯⟩
def zF5(K:PySem.W.Frag) (fd:FuncData):Prop:=(∃ds,Vals [] ds∧L2.Binds K fd ["cls", "text"] ds)∧True
theorem zFI(x:Fcts P K w mg):XkW (zF5 K) P w K mg base (cl K fr) 186 ((He5.wf K (He.ga K "Question") "classmethod" "read")) ["cls", "text"] zAK:=XkW.of x.d_Question_read zGA (fun fd F=>⟨⟨[],.nil,F.bindsN (fun _ _ _ _ _ _ us hl=>match us,hl with|[_,_],_=>rfl)⟩,trivial⟩) fun cd A outer s H E g tk hr=>(zAF (zAw (zC0 (zCj (zHE (zAT zAa zAq rfl x.b_len ⋯ (zAA (v0 1) zAD rfl) ⋯ rfl rfl rfl) (zC7 rfl x.i_MOST_TEXT rfl) rfl) (zCm (zHE (zFF g Vn F.slot_str_count F.type_str_count mt_count zMW (v0 1) (zAA zAE zAD rfl) rfl rfl rfl rfl rfl) (zC7 rfl x.i_MOST_BRACKETS rfl) rfl)))) (zAI (zGk (zEl x) g tk (rm hr) rfl x.g_InvalidText ⋯)) zAd)
  (zAF (zAb g (i:=2) rfl (zAY rfl) (zCv (zDy x ∅ (zEg x 60)) g (rm hr) rfl rfl x.c_Reader x.m_Reader_any_of (makeCK (zHJ x) g (rm hr) rfl rfl x.mk_Reader rfl x.g_Reader (zAA (v0 1) zAD rfl) rfl rfl rfl) rfl) rfl (.inl rfl))
  (zAF (zAw (zC0 (zCj (zL0 (v0 2) zBT rfl) (zCj (zCu (zBl g (zAc (zFS x 12) g (rm hr) rfl x.g_is_tree (zAA (v0 2) (zAA zAC zAD rfl) rfl) rfl rfl rfl) (fun _=>rfl))) (zCj (zHE (zAT zAa zAq rfl x.b_len ⋯ (zAA (zAc (zDt x 12) g (rm hr) rfl x.g_atoms_in (zAA (v0 2) zAD rfl) rfl rfl rfl) zAD rfl) ⋯ rfl rfl rfl) (zC7 rfl x.i_MOST_ATOMS rfl) rfl) (zCm (zFw g (zAc (zEU x 12) g (rm hr) rfl x.g_tree_text (zAA (v0 2) zAD rfl) rfl rfl rfl) (v0 1) rfl)))))) (zAI (zGk (zEl x) g tk (rm hr) rfl x.g_InvalidText ⋯)) zAd)
  (zAI (zAQ (makeLK (zFx x) g tk WI.e (rm hr) rfl rfl x.mk_Question (zAA (v0 2) zAD rfl) rfl (zEJ rfl) ⋯ ⋯ rfl rfl))))))
theorem zCL(x:Fcts P K w mg):Dk P w K mg base (cl K fr) 186 ((He5.wf K (He.ga K "Question") "classmethod" "read")) ["cls", "text"] zAK []:=(zFI x).dk (fun _ h=>h.1)
theorem sc_law:FnScope ["_law_script", "_law_bag_here", "_law_texts", "_law_turn", "_law_text_here", "_law_far", "_law_change", "_law_tree_here", "_law_at", "_law_good"] ["_law_script"] (defScope zEr):=⟨rfl,rfl,rfl,⋯,rfl,⋯,⋯⟩
theorem ok_law(x:Fcts P K w mg) (tb:LamX.TabB base mg (He.codeOf K ("law",none)) (He.tabOf K (He.codeOf K ("law",none)))){fd:FuncData} (Fd:FunD K "law" "law" (defArgs zEr) (defBody zEr) (defScope zEr) [] [] (He.fAd K ("law",none)) fd):FnOk P w K mg base CX0 190 (He.fAd K ("law",none)) fd ["_law_script"] (spL K [((He.cT K ("law",none)).2,lamQ)] sm_law) :=
 zRo (p:=("law",none)) (cl K) Fd sc_law (fun _=>rfl) fun A outer s H E g hr=>(by
  have LM:zHO K (cl K [(((cxD P w K mg base ["_law_script", "_law_bag_here", "_law_texts", "_law_turn", "_law_text_here", "_law_far", "_law_change", "_law_tree_here", "_law_at", "_law_good"] "law" (defScope zEr) (He.fAd K ("law",none)) (.ref (He.codeOf K ("law",none))) A outer s H E)).env.qual++("<lambda>" : Str),((cxD P w K mg base ["_law_script", "_law_bag_here", "_law_texts", "_law_turn", "_law_text_here", "_law_far", "_law_change", "_law_tree_here", "_law_at", "_law_good"] "law" (defScope zEr) (He.fAd K ("law",none)) (.ref (He.codeOf K ("law",none))) A outer s H E)).env.cells)]) (cxD P w K mg base ["_law_script", "_law_bag_here", "_law_texts", "_law_turn", "_law_text_here", "_law_far", "_law_change", "_law_tree_here", "_law_at", "_law_good"] "law" (defScope zEr) (He.fAd K ("law",none)) (.ref (He.codeOf K ("law",none))) A outer s H E) 186 0 zDu:=⟨⟨_,rfl,by kernel_rfl,zMr rfl (fun _ _ _ _ _=>rfl),fun A outer s H E f c' g tk hr=>(propK (zF9 x) g (rm hr) rfl x.c_Question (zJm (zCL x) (fun _=>.nil) g tk WI.e (rm hr) rfl x.p_Question_read.rd x.p_Question_read.cm rfl x.g_Question rfl (zAA (v0 4) zAD rfl) rfl rfl) rfl)⟩,⟨_,rfl,by kernel_rfl,zMr rfl (fun _ _ _ _ _=>rfl),fun A outer s H E f c' g tk hr=>(zJm (zCL x) (fun _=>.nil) g tk WI.e (rm hr) rfl x.p_Question_read.rd x.p_Question_read.cm rfl x.g_Question rfl (zAA (v0 4) zAD rfl) rfl rfl)⟩,trivial⟩
  exact(zAF (zAb g (i:=1) rfl (zAY rfl) (zAc (zK8 x) g (rm hr) rfl x.g__law_bag (zAA (v0 0) zAD rfl) rfl rfl rfl) rfl (.inl rfl))
  (zOZ g (i:=2) rfl (zAY rfl) (zAA zAE (zAA zAE (zAA zAE (zAA zAE (zAA zAE (zAA zAE (zAA zAE zAD rfl) rfl) rfl) rfl) rfl) rfl) rfl) (zBb (SSt.of (zAb g (i:=2) rfl (zAY rfl) (zDi (v0 2) (zAl (zAA zAE (zAA zAE (zAA zAE (zAA zAE zAD rfl) rfl) rfl) rfl))) rfl (.inl rfl)))
  (zBb (SSt.of (zAb g (i:=2) rfl (zAY rfl) (zDi (v0 2) (zAl (zAA zAE (zAA zAE (zAA zAE (zAA zAE (zAA zAE zAD rfl) rfl) rfl) rfl) rfl))) rfl (.inl rfl)))
  (zBb (SSt.of (zAb g (i:=2) rfl (zAY rfl) (zDi (v0 2) (zAl (zAA zAE (zAA zAE (zAA zAE (zAA zAE zAD rfl) rfl) rfl) rfl))) rfl (.inl rfl)))
  (zBb (SSt.of (zAb g (i:=2) rfl (zAY rfl) (zDi (v0 2) (zAl (zAA zAE (zAA zAE (zAA zAE (zAA zAE zAD rfl) rfl) rfl) rfl))) rfl (.inl rfl)))
  (zBb (SSt.of (zAb g (i:=2) rfl (zAY rfl) (zDi (v0 2) (zAl (zAA zAE (zAA zAE (zAA zAE zAD rfl) rfl) rfl))) rfl (.inl rfl)))
  (zBb (SSt.of (zAb g (i:=2) rfl (zAY rfl) (zDi (v0 2) (zAl (zAA zAE (zAA zAE zAD rfl) rfl))) rfl (.inl rfl)))
  (zBb (SSt.of (zAb g (i:=2) rfl (zAY rfl) (zDi (v0 2) (zAl (zAA zAE (zAA (zAN g (zDd zAE zAC) zAE) zAD rfl) rfl))) rfl (.inl rfl)))
  (zBb (SSt.of (zAb g (i:=2) rfl (zAY rfl) (zDi (v0 2) (zAl (zAA (zAN g (zDd zAE zAC) zAE) (zAA zAE (zAA zAE (zAA zAE zAD rfl) rfl) rfl) rfl))) rfl (.inl rfl)))
  (zBb (SSt.of (zAb g (i:=2) rfl (zAY rfl) (zDi (v0 2) (zAl (zAA zAE zAD rfl))) rfl (.inl rfl)))
  (zBb (SSt.of (zFi JP g (zHz rfl x.b_range zAC rfl) (sgn g 3) (zAF (zAb g (i:=4) rfl (zAY rfl) (zAc (zE0 x 12) g (rm hr) rfl x.g__law_text (zAA (zAc (zGP x 12) g (rm hr) rfl x.g__law_tree (zAA (v0 1) (zAA zAC (zAA zAC (zAA zAC zAD rfl) rfl) rfl) rfl) rfl rfl rfl) zAD rfl) rfl rfl rfl) rfl (.inl rfl))
  (zAF (zFi JP g (zHz rfl x.b_range (zAN g zAC (zAc (zAo x) g (rm hr) rfl x.g__law_pull (zAA (v0 1) (zAA zAC zAD rfl) rfl) rfl rfl rfl)) rfl) (sgn g 6) (zAF (zAb g (i:=8) rfl (zAY rfl) (zAc (zAo x) g (rm hr) rfl x.g__law_pull (zAA (v0 1) (zAA (zAN g (zAT zAa zAq rfl x.b_len ⋯ (zAA (v0 4) zAD rfl) ⋯ rfl rfl rfl) zAC) zAD rfl) rfl) rfl rfl rfl) rfl (.inl rfl))
  (zAI (zAb g (i:=4) rfl (zAY rfl) (zAN g (zAN g (zCz g (v0 4) zB3 (zAm (v0 8))) (zAc (zE9 x) g (rm hr) rfl x.g__law_of (zAA (v0 1) (zAA (zAl (zAA zAE (zAA zAE (zAA zAE (zAA zAE (zAA zAE (zAA zAE (zAA zAE (zAA zAE (zAA zAE (zAA zAE (zAA zAE zAD rfl) rfl) rfl) rfl) rfl) rfl) rfl) rfl) rfl) rfl) rfl)) zAD rfl) rfl) rfl rfl rfl)) (zCz g (v0 4) (zAm (zAN g (v0 8) (zAc (zAo x) g (rm hr) rfl x.g__law_pull (zAA (v0 1) (zAA zAC zAD rfl) rfl) rfl rfl rfl))) zB3)) rfl (.inl rfl)))) (fun _=>rfl))
  (zAI (zEp (zFF g Vv VC VD bo zC4 (v0 2) (zAA (v0 4) zAD rfl) rfl rfl rfl rfl rfl) rfl)))) (fun _=>rfl)))
  (zBb (zQM JP g (zEe g (v0 2)) (sgn g 4) (zBb (zP6 (zD3 g (zAp (sgn g 7) (zAp (sgn g 8) zCr rfl) rfl) rfl rfl rfl) (callKt (zEB x ∅ (zDz x 12)) g (rm hr) rfl x.g__law_read_any (zNw (zPg F.slot_str_split F.type_str_split mt_split zIG (zGC (zGC (SEt.of (v0 4)) ⋯ rfl rfl rfl) ⋯ rfl rfl rfl) zAE rfl rfl rfl) (SAt.of (zAA zAC (zAA zAC zAD rfl) rfl)) rfl) rfl rfl rfl) rfl rfl rfl)
  (SSst.of (zAF (zAb g (i:=9) rfl (zAY rfl) (zB6 (zO9 (v0 7) zBT rfl) (zB6 (zGL g (ixK g (fun _ _=>rfl) (zAc (zGn x) g (rm hr) rfl x.g__law_tree_due (zAA (v0 7) zAD rfl) rfl rfl rfl) zAC) zAE rfl) (zDG (zGL g (zAc (zE0 x 12) g (rm hr) rfl x.g__law_text (zAA (v0 7) zAD rfl) rfl rfl rfl) (v0 4) rfl)))) rfl (.inl rfl))
  (zAI (zAw (zCu (zBl g (zAc (zGz x 12) g (rm hr) rfl x.g__law_same (zAA (zRD (k:=186) (lam_d x) (tryok x) g (rm hr) rfl x.g__law_try rfl LM (lamV (r:=zO7 zEr [12,2] [0,1,1]) g rfl rfl tb rfl rfl (by kernel_rfl) (.inl ⟨rfl,rfl⟩)) ⋯) (zAA (zCU (zBl g (v0 9) (fun _=>rfl)) (zAx (zAA zAE (zAA (v0 7) zAD rfl) rfl)) (zAx (zAA zAE (zAA zBT zAD rfl) rfl))) zAD rfl) rfl) rfl rfl rfl) (fun _=>rfl))) (zAI (zAQ zGp)) zAd))))) (fun _=>rfl))
  (zBb (SSt.of (zAb g (i:=5) rfl (zAY rfl) (zAl (zAA (zDd zAE zAC) (zAA (zAN g (zDd zAE zAC) zAE) (zAA (zAN g (zAN g (zDd zAE zAC) zAE) (zDd zAE zAC)) zAD rfl) rfl) rfl)) rfl (.inl rfl)))
  (zBb (SSt.of (zAb g (i:=5) rfl (zAY rfl) (zAN g (v0 5) (zAl (zAA (zAN g zAE (zDd zAE zAC)) (zAA (zAN g (zAN g (zDd zAE zAC) zAE) (zDd zAE zAC)) zAD rfl) rfl))) rfl (.inl rfl)))
  (SSst.of (zAI (zAQ (zGL g (zIl g zCg (own:=[("_law_text_here",4)]) (by kernel_rfl) rfl (zEe g (v0 5)) ⋯ (fun _=>(sgn (GX.blk g) 4)) (fun _=>zCR) (fun _=>(se_nlb (c0:=cl K) (fun _ _=>rfl) (fun _ _=>rfl) (fun _ _=>rfl) (fun _ _=>rfl) (fun _=>rfl) (zNJ (k:=186) (lam_d x) (word_d x) (tryok x) (GX.blk g) (rm hr) rfl x.g__law_word rfl (zQl ⟨_,rfl,by kernel_rfl,zMr rfl (fun _ _ _ _ _=>rfl),fun A outer s H E f c' g tk hr=>(zJm (zCL x) (fun _=>.nil) g tk WI.e (rm hr) rfl x.p_Question_read.rd x.p_Question_read.cm rfl x.g_Question rfl (zAA (v0 4) zAD rfl) rfl rfl)⟩) (lamV (r:=zO7 zEr [15] [0,0,1]) (GX.blk g) rfl rfl tb rfl rfl (by kernel_rfl) (.inl ⟨rfl,rfl⟩)) ⋯))) (fun _=>rfl)) (zQI (zAl (zAA zAE zAD rfl)) zAC) rfl))))))))))))))))) rfl rfl (.inl rfl))))
end
theorem tabW{w:World}{h:Heap}{K:PySem.W.Frag} (c:He.SaysX fa fn ts tf ex w h K) (i:Nat){t:He.Tab} (e:ts[i]?=some t):He.dicW K (t.1 K)=some (He.keysIn w.params t.2):=by
 have z:(ts.map fun t=>He.dicW K (t.1 K))=ts.map fun t=>some (He.keysIn w.params t.2):=congrArg (fun z:He.AlT=>z.2) c.t
 have z2:=congrArg (fun l=>l[i]?) z
 simp only[Ji,e]at z2
 first|exact Jd z2|exact z2|simpa using z2
theorem exV{w:World}{h:Heap}{K:PySem.W.Frag} (c:He.SaysX fa fn ts tf ex w h K) (i:Nat){b:Bool} (e:(exl K)[i]?=some b):b=true:=Jp.mp c.more b (Jn e)
theorem fx{P:Program}{w:World}{h:Heap}{K:PySem.W.Frag}{mg:Str→Option Value} (pf:FileOf P "/claim/cut.py") (X:K.In h) (G:h.Ns mainGlobals mg) (c:SaysE fa fn ts tf ex es w h K):Fcts P K w mg where
 g__law_bag:=Jz X G (c.x.t.d.fact 0 rfl)
 g__law_sum_text:=Jz X G (c.x.t.d.fact 1 rfl)
 g__law_text:=Jz X G (c.x.t.d.fact 2 rfl)
 g__law_pull:=Jz X G (c.x.t.d.fact 3 rfl)
 g__law_of:=Jz X G (c.x.t.d.fact 4 rfl)
 g__law_sum:=Jz X G (c.x.t.d.fact 5 rfl)
 g__law_atom:=Jz X G (c.x.t.d.fact 6 rfl)
 g__law_mixed:=Jz X G (c.x.t.d.fact 7 rfl)
 g__law_depth:=Jz X G (c.x.t.d.fact 8 rfl)
 g__law_tree:=Jz X G (c.x.t.d.fact 9 rfl)
 g__law_read_all:=Jz X G (c.x.t.d.fact 10 rfl)
 g__law_read_any:=Jz X G (c.x.t.d.fact 11 rfl)
 g__law_read_atom:=Jz X G (c.x.t.d.fact 12 rfl)
 g__law_read_part:=Jz X G (c.x.t.d.fact 13 rfl)
 g__law_is_number:=Jz X G (c.x.t.d.fact 14 rfl)
 g__law_is_sum:=Jz X G (c.x.t.d.fact 15 rfl)
 g__law_is_tree:=Jz X G (c.x.t.d.fact 16 rfl)
 g__law_atoms:=Jz X G (c.x.t.d.fact 17 rfl)
 g__law_tree_due:=Jz X G (c.x.t.d.fact 18 rfl)
 g__law_same:=Jz X G (c.x.t.d.fact 19 rfl)
 g_is_digit:=Jz X G (c.x.t.d.fact 20 rfl)
 g_is_number:=Jz X G (c.x.t.d.fact 21 rfl)
 g_is_within:=Jz X G (c.x.t.d.fact 22 rfl)
 g_are_factors:=Jz X G (c.x.t.d.fact 23 rfl)
 g_is_atom:=Jz X G (c.x.t.d.fact 24 rfl)
 g_is_tree:=Jz X G (c.x.t.d.fact 25 rfl)
 g_atoms_in:=Jz X G (c.x.t.d.fact 26 rfl)
 g_sum_text:=Jz X G (c.x.t.d.fact 27 rfl)
 g_tree_text:=Jz X G (c.x.t.d.fact 28 rfl)
 g_law:=Jz X G (c.x.t.d.fact 29 rfl)
 g__law_try:=Jz X G (c.x.t.d.fact 30 rfl)
 g__law_field:=Jz X G (c.x.t.d.fact 31 rfl)
 g__law_word:=Jz X G (c.x.t.d.fact 32 rfl)
 g_InvalidQuestion:=Jz X G (c.x.t.d.fact 33 rfl)
 g_TooMany:=Jz X G (c.x.t.d.fact 34 rfl)
 g_InvalidText:=Jz X G (c.x.t.d.fact 35 rfl)
 g_Question:=Jz X G (c.x.t.d.fact 36 rfl)
 g_Reader:=Jz X G (c.x.t.d.fact 37 rfl)
 g_SIGNS_OF:=Jz X G (c.x.t.d.fact 38 rfl)
 g_Missing:=Jz X G (c.x.t.d.fact 39 rfl)
 g_NothingLeft:=Jz X G (c.x.t.d.fact 40 rfl)
 g_SayError:=Jz X G (c.x.t.d.fact 41 rfl)
 b_abs:=Vw X G (c.x.t.d.fact 42 rfl)
 b_all:=Vw X G (c.x.t.d.fact 43 rfl)
 b_any:=Vw X G (c.x.t.d.fact 44 rfl)
 b_bool:=Vw X G (c.x.t.d.fact 45 rfl)
 b_int:=Vw X G (c.x.t.d.fact 46 rfl)
 b_isinstance:=Vw X G (c.x.t.d.fact 47 rfl)
 b_len:=Vw X G (c.x.t.d.fact 48 rfl)
 b_list:=Vw X G (c.x.t.d.fact 49 rfl)
 b_max:=Vw X G (c.x.t.d.fact 50 rfl)
 b_range:=Vw X G (c.x.t.d.fact 51 rfl)
 b_str:=Vw X G (c.x.t.d.fact 52 rfl)
 b_super:=Vw X G (c.x.t.d.fact 53 rfl)
 b_tuple:=Vw X G (c.x.t.d.fact 54 rfl)
 b_zip:=Vw X G (c.x.t.d.fact 55 rfl)
 i_MOST_ATOMS:=YR X G (c.x.t.d.fact 56 rfl)
 i_MOST_BOUND:=YR X G (c.x.t.d.fact 57 rfl)
 i_MOST_BRACKETS:=YR X G (c.x.t.d.fact 58 rfl)
 i_MOST_DEPTH:=YR X G (c.x.t.d.fact 59 rfl)
 i_MOST_FACTOR:=YR X G (c.x.t.d.fact 60 rfl)
 i_MOST_PARTS:=YR X G (c.x.t.d.fact 61 rfl)
 i_MOST_TEXT:=YR X G (c.x.t.d.fact 62 rfl)
 x_InvalidQuestion_SayError:=He.exm_ok (c.x.t.d.fact 63 rfl)
 x_InvalidText_SayError:=He.exm_ok (c.x.t.d.fact 64 rfl)
 x_TooMany_SayError:=He.exm_ok (c.x.t.d.fact 65 rfl)
 c_Question:=YT (c.x.t.d.fact 66 rfl)
 mk_Question:=He.mkr_ok (c.x.t.d.fact 67 rfl)
 c_Reader:=YT (c.x.t.d.fact 68 rfl)
 mk_Reader:=He.mkr_ok (c.x.t.d.fact 69 rfl)
 m_Reader_all_of:=Yw (c.x.t.d.fact 70 rfl)
 m_Reader_any_of:=Yw (c.x.t.d.fact 71 rfl)
 m_Reader_atom:=Yw (c.x.t.d.fact 72 rfl)
 m_Reader_ending:=Yw (c.x.t.d.fact 73 rfl)
 m_Reader_joined_parts:=Yw (c.x.t.d.fact 74 rfl)
 m_Reader_next:=Yw (c.x.t.d.fact 75 rfl)
 m_Reader_part:=Yw (c.x.t.d.fact 76 rfl)
 f_Question_leaves:=fun{fr}=>⟨⟨_,_,rfl,⋯,rfl,YT (c.x.t.d.fact 66 rfl),bp (c.x.t.d.fact 77 rfl)⟩⟩
 f_Question_shape:=fun{fr}=>⟨⟨_,_,rfl,⋯,rfl,YT (c.x.t.d.fact 66 rfl),bp (c.x.t.d.fact 78 rfl)⟩⟩
 f_Question_written:=fun{fr}=>⟨⟨_,_,rfl,⋯,rfl,YT (c.x.t.d.fact 66 rfl),bp (c.x.t.d.fact 79 rfl)⟩⟩
 f_Reader_at:=fun{fr}=>⟨⟨_,_,rfl,⋯,rfl,YT (c.x.t.d.fact 68 rfl),bp (c.x.t.d.fact 80 rfl)⟩⟩
 f_Reader_words:=fun{fr}=>⟨⟨_,_,rfl,⋯,rfl,YT (c.x.t.d.fact 68 rfl),bp (c.x.t.d.fact 81 rfl)⟩⟩
 t_SIGNS_OF:=zQV (tabW c.x 0 rfl) (exV c.x 0 rfl)
 tl_SIGNS_OF:=zON (tabW c.x 0 rfl) (exV c.x 0 rfl) ⋯
 e_InvalidQuestion:=exV c.x 1 rfl
 de_InvalidQuestion:=(c.def_ 0 rfl).1
 dd_InvalidQuestion:=(c.def_ 0 rfl).2
 e_TooMany:=exV c.x 2 rfl
 de_TooMany:=(c.def_ 1 rfl).1
 dd_TooMany:=(c.def_ 1 rfl).2
 e_InvalidText:=exV c.x 3 rfl
 de_InvalidText:=(c.def_ 2 rfl).1
 dd_InvalidText:=(c.def_ 2 rfl).2
 p_Question_tree:=zPA (exV c.x 4 rfl)
 d_Question_tree:=DefE.funD (c.def_ 3 rfl).1 (c.def_ 3 rfl).2 rfl
 p_Question_read:=cmB_ok (exV c.x 5 rfl)
 d_Question_read:=DefE.funD (c.def_ 4 rfl).1 (c.def_ 4 rfl).2 rfl
 pf:=pf
 d_law_bag:=c.x.t.d.def_ 0 rfl
 d_law_sum_text:=c.x.t.d.def_ 1 rfl
 d_law_text:=c.x.t.d.def_ 2 rfl
 d_law_pull:=c.x.t.d.def_ 3 rfl
 d_law_of:=c.x.t.d.def_ 4 rfl
 d_law_sum:=c.x.t.d.def_ 5 rfl
 d_law_atom:=c.x.t.d.def_ 6 rfl
 d_law_mixed:=c.x.t.d.def_ 7 rfl
 d_law_depth:=c.x.t.d.def_ 8 rfl
 d_law_tree:=c.x.t.d.def_ 9 rfl
 d_law_read_all:=c.x.t.d.def_ 10 rfl
 d_law_read_any:=c.x.t.d.def_ 11 rfl
 d_law_read_atom:=c.x.t.d.def_ 12 rfl
 d_law_read_part:=c.x.t.d.def_ 13 rfl
 d_law_is_number:=c.x.t.d.def_ 14 rfl
 d_law_is_sum:=c.x.t.d.def_ 15 rfl
 d_law_is_tree:=c.x.t.d.def_ 16 rfl
 d_law_atoms:=c.x.t.d.def_ 17 rfl
 d_law_tree_due:=c.x.t.d.def_ 18 rfl
 d_law_same:=c.x.t.d.def_ 19 rfl
 d_Reader_init:=c.x.t.d.def_ 20 rfl
 d_Reader_next:=c.x.t.d.def_ 21 rfl
 d_Reader_joined_parts:=c.x.t.d.def_ 22 rfl
 d_Reader_all_of:=c.x.t.d.def_ 23 rfl
 d_Reader_any_of:=c.x.t.d.def_ 24 rfl
 d_is_digit:=c.x.t.d.def_ 25 rfl
 d_Reader_ending:=c.x.t.d.def_ 26 rfl
 d_Reader_atom:=c.x.t.d.def_ 27 rfl
 d_Reader_part:=c.x.t.d.def_ 28 rfl
 d_is_number:=c.x.t.d.def_ 29 rfl
 d_is_within:=c.x.t.d.def_ 30 rfl
 d_are_factors:=c.x.t.d.def_ 31 rfl
 d_is_atom:=c.x.t.d.def_ 32 rfl
 d_is_tree:=c.x.t.d.def_ 33 rfl
 d_atoms_in:=c.x.t.d.def_ 34 rfl
 d_sum_text:=c.x.t.d.def_ 35 rfl
 d_tree_text:=c.x.t.d.def_ 36 rfl
 d_Question_init:=c.x.t.d.def_ 37 rfl
 d_law_try:=c.x.t.d.def_ 39 rfl
 d_law_field:=c.x.t.d.def_ 40 rfl
 d_law_word:=c.x.t.d.def_ 41 rfl
theorem facts{P:Program}{w:World}{K:PySem.W.Frag}{h:Heap}{mg:Str→Option Value}{f:Addr} (pf:FileOf P "/claim/cut.py") (X:K.In h) (G:h.Ns mainGlobals mg) (hfa:mg ("law" : Str)=some (.ref f)) (c:SaysE fa fn ts tf ex es w h K) :
  ∃fd:FuncData,(∀(s:Shared) (v:Value),BindsTo s fd ⟨[v],[]⟩ [("_law_script",v)])∧∀base:Heap,K.In base→base.Ns mainGlobals mg→LamX.TabB base mg (He.cT K ("law",none)).1 (He.cT K ("law",none)).2→FnOk P w K mg base CX0 190 f fd ["_law_script"] (spL K [((He.cT K ("law",none)).2,lamQ)] sm_law):=by
 obtain⟨fd,F⟩:=c.x.t.d.def_ 38 rfl;have e:=hfa.symm.trans (Jz X G (c.x.t.d.fact 29 rfl));cases e;have b:=FunD.bindsA (ps:=["_law_script"]) F fun _ _ _ _ _ _ us hl=>match us,hl with|[_],_=>rfl
 exact⟨fd,fun s v=>b s [v] rfl,fun base _ _ tb=>ok_law (fx pf X G c) tb F⟩
end
end K33
open PySem.W PySem.Calls
theorem PySem.Challenge.cw_sharesay_k33_texts_that_are_no_questions_holds : PySem.Challenge.rw_sharesay_k33_texts_that_are_no_questions.Holds := by
 refine K33.early ?hc
 case hc =>
  refine LamX.walk_ofTsE (l:=PySem.Challenge.rw_sharesay_k33_texts_that_are_no_questions) (n:=63) (k:=190) (x := "_law_script") (CX:=fun _=>L2.CX0) rfl (!0) (by kernel_rfl) ⟨rfl,!0,!0⟩ ?F (fun _ _ _ _ _ z=>z)
  intro w mg fa h Y G hmg0;obtain⟨K,KX,c⟩:=Y
  have hmg:mg ("law" : PySem.Str)=some (.ref fa):=by
   have e:(HandSHeadRun.topDef (OpenLaw.row PySem.Challenge.rw_sharesay_k33_texts_that_are_no_questions).prog 58).name=("law" : PySem.Str):=by kernel_rfl
   rw[←e];exact hmg0
  obtain⟨fd,hb,hF⟩:=K33.facts (P:=(PySem.Challenge.rw_sharesay_k33_texts_that_are_no_questions).prog) (w:=w) K33.fileOf KX G hmg c
  have one:∀ {Q:Addr×Addr→Prop},Q (He.cT K ("law",none))→∀p∈[He.cT K ("law",none)],Q p:=fun{Q} q p hp=>by
   have e:p=He.cT K ("law",none):=by simpa using hp
   rw[e];exact q
  exact⟨K,KX,fd,[He.cT K ("law",none)],Y.spL K [((He.cT K ("law",none)).2,K33.lamQ)] K33.sm_law,one (c.x.empty _ (by simp[K33.tf])),one (c.x.out _ (by simp[K33.tf])),one (PySem.W.codeHd_of_K KX (c.x.hd _ (by simp[K33.tf]))),hb,
   fun H a ns hl _ hT hS=>(K33.plain ns ∅).elim fun st hp=>⟨a,ns,st,rfl,hS,fun p hp=>(by
    have e:p=((He.cT K ("law",none)).2,K33.lamQ):=Vc.mp hp
    rw[e];exact hT _ (by simp)),hp,fun _=>rfl⟩,fun base b1 b2 b3=>hF base b1 b2 (b3 _ (by simp))⟩
