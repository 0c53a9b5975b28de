import PyProof.Rows.All
import Wide.All
import OpenK.AllK
import Wide.FinOn
import HandS.ForMost
import HandS.IsInst
import HandS.Property
import HandS.Wide
import HandS.Conv
import HandS.Style
import HandS.FStr
import HandS.Defaults
import HandS.Exc
import HandS.ExcOwn
import HandS.WordsExc
import HandS.TryMany
import HandS.Star
import HandS.ClsMeth
import HandS.Lambda
import KE.KeyNested
import KE.KDictKeyed
import HandS.TupAny
import HandS.Deep
import HandS.Rev
import HandS.Zip
import HandS.TupLe
import HandS.RaiseMore
import HandS.HeadHook4
import PyProof.RulesMatch
import KE.GoesMore
import HandS.MakeKwOnly
import HandS.HeadHook3
import HandS.ExcInit
import KE.KExcSuper
import HandS.ExcField
import HandS.HotCalls
import OpenK.KOps
import OpenK.KMeth
import KE.KCallOwn
import PyProof.InstEq
import KE.KSortTupG
import HandS.TupSets
import HandS.SortInts
import HandS.Text
import PyProof.ListRange
import HandS.Dict
import HandS.List
import HandS.Head2
import PyProof.StrOps2
import HandS.DictComp
import KE.GoesEnum
import HandS.HeadNt
import HandS.Replace
import KE.KDictPairs
import KE.KDictDisplayH
import HandS.GenCall
import HandS.GenList
import HandS.Strs
import HandS.OwnEq
import KE.SortData
import PyProof.TupleOfSeq
import HandS.GenOver
import PyProof.SetRoads
import PyProof.Rows.StrIntSpec
import PyProof.FString3
import HandS.SetFor
import HandS.SetBool
import HandS.TryOnly
import HandS.More
import HandS.Iter
import KE.KExcIs
import HandS.ExcValue
import HandS.ExcIs
import HandS.StrMore
import HandS.ReplaceDef
import HandS.ReplaceLit
import HandS.RaiseFrom
import HandS.ExcInitHot
import HandS.SuiteRaise
import PyProof.Rows.StrCountLaw
import HandS.Codes
import HandS.Base
import HandS.Call
import HandS.Words
import HandS.Head0
import HandS.Head1
import HandS.HeadEnd
import HandS.HeadWalk
import Wide.Once
import PySem.Challenge.RW_sharesay_k18_relations_judged
set_option Elab.async false
set_option linter.all false
set_option maxRecDepth 100000
set_option maxHeartbeats 8000000
open PySem PySem.Spec PyProof.Rows L2
local macro_rules|`(!0)=>`(by decide)
local macro_rules|`(⋯)=>`(by decide +kernel)
local macro_rules|`(∅)=>`(by omega)
local macro_rules|`(%[$xs,*|0])=>do
 let mut r:Lean.Term:=Lean.mkIdent `mNil
 for x in xs.getElems.reverse do r←`($(Lean.mkIdent `zAB) $x $r)
 return r
def Ja:=@List.getElem?_eq_getElem
def Jb:=@List.getElem?_eq_some_iff
def Jc:=@List.length_map
def Jd:=@List.getElem?_map
def Je:=@List.getElem?_append_left
def Jf:=@List.mem_cons_of_mem
def Jg:=@List.mem_cons_self
def Jh:=@List.prefix_refl
def Ji:=@List.mem_of_getElem?
def Jj:=@List.mem_map
def Jk:=@Option.some.inj
def Jl:=@List.map_cons
def Jm:=@List.map_map
def Jn:=@PySem.Heap.get?_push_of_some
def Jo:=@List.mem_cons
def Jp:=@List.all_eq_true
def Jq:=@List.getElem?_append_right
def Jr:=@PySem.wpAny_bind
def Js:=@Bool.and_eq_true
def Jt:=@List.getElem?_eq_none
def Ju:=@List.length_append
def Jv:=@List.getElem?_set_ne
def Jw:=@List.getElem?_set_self
def Jx:=@Option.map_eq_some_iff
def Jy:=@List.mem_range
def Jz:=@decide_eq_true_eq
def JA:=@PySem.wpAny_pure
def JB:=@of_decide_eq_true
def JC:=@L2.upd_same
def JD:=@decide_eq_true
def JE:=@List.map_append
def JF:=@List.getElem?_of_mem
def JG:=@He.glo_ok
def JH:=@Nat.le_refl
def JI:=@List.mem_append
def JJ:=@List.length_cons
def JK:=@PySem.Heap.get?_push_size
def JL:=@List.getElem_mem
def JM:=@decide_eq_false
def JN:=@List.length_range
def JO:=@L2.upd_ne
def JP:=@PySem.Heap.lt_size
def JQ:=@PySem.PassesOwn.never
def JR:=@List.getElem?_eq_none_iff
def JS:=@List.mem_singleton
def JT:=@List.filterMap_cons
def JU:=@PySem.F.plainAttrs_list
def JV:=@List.nodup_cons
def JW:=@if_pos
def JY:=@List.zip_cons_cons
def JZ:=@List.getElem?_range
def J0:=@List.getD_eq_getElem?_getD
def J3:=@Nat.zero_le
def J4:=@List.pairwise_map
def J5:=@List.length_set
def J6:=@Array.getElem?_toList
def J7:=@PySem.F.slot_list_append
def J8:=@PySem.F.type_list_append
def J9:=@List.mergeSort_perm
def Va:=@List.prefix_append
def Vb:=@Nat.lt_of_lt_of_le
def Vc:=@Bool.false_eq_true
def Vd:=@Nat.ne_of_lt
def Ve:=@List.length_filter_le
def Vf:=@Array.length_toList
def Vg:=@List.mem_map_of_mem
def Vh:=@if_neg
def Vi:=@List.drop_eq_getElem_cons
def Vj:=@Int.toNat_natCast
def Vk:=@List.take_of_length_le
def Vl:=@List.drop_of_length_le
def Vm:=@List.length_replicate
def Vn:=@PySem.F.called_set
def Vo:=@List.getElem?_cons_succ
def Vp:=@List.nodup_iff_pairwise_ne
def Vq:=@PySem.sizeLine_eq
def Vr:=@List.mem_append_left
def Vs:=@Nat.le_trans
def Vt:=@List.append_nil
def Vu:=@Bool.eq_iff_iff
def Vv:=@List.filter_cons
def Vw:=@List.map_congr_left
def Vx:=@List.nodup_append
def Vy:=@List.length_take
def Vz:=@Nat.lt_succ_self
def VA:=@List.cons_append
def VB:=@beq_eq_false_iff_ne
def VC:=@Nat.lt_succ_of_lt
def VD:=@List.take_add_one
def VE:=@List.drop_zero
def VF:=@Option.map_some
def VG:=@List.mem_append_right
def VH:=@List.cons.injEq
def VI:=@List.pairwise_cons
def VJ:=@List.Pairwise.imp_of_mem
def VL:=@He.free_ok
def VM:=@List.not_mem_nil
def VN:=@Nat.le_add_right
def VO:=@List.getElem?_replicate
def VP:=@List.cons.inj
def VQ:=@Nat.mul_le_mul
def VR:=@List.all_map
def VS:=@List.map_nil
def VT:=@List.find?_cons
def VU:=@Nat.not_lt_zero
def VW:=@PyProof.Rows.args_cons
def VX:=@List.lookup_cons
def VY:=@Prod.mk.injEq
def VZ:=@PyProof.Rows.args_nil
def V0:=@List.pairwise_iff_getElem
def V3:=@List.mem_iff_getElem
def V4:=@List.size_toArray
def V5:=@List.nil_append
def V6:=@PySem.codeAny_builtin
def V7:=@List.Pairwise.imp
def V8:=@List.range_succ
def V9:=@PyProof.Rows.callWith_builtin1
def Ya:=@decide_eq_false_iff_not
def Yb:=@List.getElem_inj
def Yc:=@List.any_eq_true
def Yd:=@List.nodup_range
def Ye:=@if_true
def Yf:=@PySem.Str.ofString_eq_toList
def Yg:=@List.length_zip
def Yh:=@PyProof.Rows.callWith_type1
def Yi:=@List.mem_filter
def Yj:=@L2.mt_append
def Yk:=@List.ext_getElem?
def Yl:=@List.append_assoc
def Ym:=@List.any_cons
def Yn:=@PySem.wpAny_setState_of
def Yo:=@Bool.eq_false_iff
def Yp:=@PySem.F.excBase_ValueError
def Yq:=@Classical.byContradiction
def Yr:=@List.getElem?_zip_eq_some
def Ys:=@L2.wp_if_neg
def Yt:=@List.nodup_nil
def Yu:=@List.mem_flatMap
def Yv:=@PySem.F.plainAttrs_str
def Yw:=@Int.toNat_of_nonneg
def Yx:=@List.replicate_succ
def Yy:=@L2.ne_of_none
def Yz:=@Nat.zero_add
def YA:=@PySem.codeAny_mono
def YB:=@PySem.Code.quiet_builtin
def YC:=@PySem.wpAny_holding
def YD:=@List.findIdx?_eq_some_iff_getElem
def YE:=@if_false
def YF:=@PyProof.Rows.F.plain_set_update_loop
def YG:=@Int.natCast_nonneg
def YH:=@Nat.add_sub_cancel_left
def YI:=@List.getElem_range
def YJ:=@List.pairwise_lt_range
def YK:=@He.eqO_ok
def YL:=@Bool.and_eq_false_iff
def YM:=@List.Nodup.length_le_of_subset
def YN:=@List.take_append_drop
def YO:=@List.set_append_right
def YQ:=@Int.mul_le_mul_of_nonneg_right
def YR:=@Array.toList_map
def YT:=@List.take_length
def YU:=@List.eq_nil_of_length_eq_zero
def YV:=@decide_eq_decide
def YW:=@PySem.Around.under_plainId
def YX:=@List.map_take
def YY:=@PySem.F.slot_dict_keyiterator_iter
def Y0:=@Bool.not_true
def Y2:=@Nat.le_succ
def Y3:=@List.map_eq_nil_iff
def Y4:=@PyProof.Rows.pairsOf_toList
def Y5:=@List.flatMap_append
def Y6:=@PySem.F.slot_str_join
def Y7:=@PySem.F.type_str_join
def Y8:=@Array.getElem?_eq_some_iff
def Y9:=@PyProof.Rows.sortedAll_old
def be:=@List.perm_ext_iff_of_nodup
def bf:=@List.perm_append_singleton
def bg:=@PySem.wpAny_pyIter_tuple
def bh:=@PySem.wpAny_Call_Name_kw
def bj:=@List.mem_replicate
def bo:=@Ne.symm
def bp:=@PyProof.Rows.mem_zip_self
def bq:=@PySem.Calls.call_function_entry
def br:=@PyProof.Rows.sortedAll_at
def bt:=@PySem.Heap.size_push
def bu:=@PySem.wpAny_pyIter_list
def bx:=@Bool.not_eq_true'
def bz:=@PySem.wpAny_comprehension_free
def bA:=@PySem.F.slot_list_index
def bB:=@PySem.F.type_list_index
def bC:=@or_false
def bD:=@L2.wipe_length
def bF:=@List.map_drop
def bG:=@Nat.lt_irrefl
def bH:=@L2.passes_call
def bJ:=@List.pairwise_mergeSort
def bK:=@List.getElem?_cons_zero
def bL:=@Int.eq_ofNat_of_zero_le
def bM:=@PySem.Str.length_append
def bN:=@L2.call_tuple_of
def bO:=@PySem.wpAny_call_entry
def bP:=@Option.bind_some
def bQ:=@List.perm_middle
def bR:=@Int.natCast_emod
def bS:=@List.of_mem_zip
def bU:=@Nat.ne_of_gt
def bV:=@PySem.codeAny_of_tree
def bW:=@List.length_nil
def bX:=@Bool.or_eq_true
def bY:=@Nat.le_of_eq
def bZ:=@List.forIn_cons
def b7:=@L2.call_list_of
def b8:=@PySem.wpAny_mono
def ja:=@PySem.wpAny_call
def jb:=@beq_iff_eq
def jc:=@Nat.mod_lt
def jd:=@He.meth_ok
def je:=@PySem.wpAny_runValue
def jf:=@List.perm_cons
def jg:=@List.forIn_nil
def jh:=@Int.le_refl
def ji:=@L2.sw_true
def jj:=@List.all_cons
def jk:=@L2.Vals.ref1
def jl:=@PySem.wpAny_newList
def jm:=@L2.tupI_raw
def jn:=@L2.wp_if_pos
def jo:=@He.cls_ok
def jp:=@L2.pa_cons
def jq:=@He.noat_ok
namespace Y
inductive P where
 |non|bl (b:Bool)|int (i:Int)|str (s:Str)
 |tup (l:List P)|lst (l:List P)|scr (l:List Int)
 |dk (ks:List Key) (l:List P)
 |obj (c:Nat) (l:List P)
 /-- an exception of the class number c,its fields by place -/
 |exn (c:Nat) (l:List P)
 /-- the lambda number i of the frame number j -/
 |lam (j i:Nat)
 /-- a class by number -/
 |cls (c:Nat)
 /-- a dict that is never written again;keys ints and texts -/
 |fd (ks:List Key) (l:List P)
 /-- .. keys tuples of ints,texts,tuples -/
 |fn (ks:List P) (l:List P)
inductive W where
 |p (x:P)|r (i:Nat)
inductive Cell where
 |lst (l:List W)|dk (ks:List Key) (l:List W)|ins (c:Nat) (l:List W)|dead|dn (ks:List P) (l:List W)
 /-- a tuple of ints that is known to have no dict -/
 |tp (l:List Int)
structure Exn where
 c:Nat
 l:List P
inductive Res (α:Type) where
 |ok (a:α) (st:List Cell)|exc (x:Exn) (st:List Cell)|no
def Res.bind{α β:Type} (r:Res α) (k:α→List Cell→Res β):Res β:=match r with
 | .ok a st=>k a st
 | .exc x st=>.exc x st
 | .no=>.no
abbrev Sg:=List (Option W)
abbrev EM:=Sg→List Cell→Res W
inductive Fl where
 |nx|rt (w:W)|bk|ct
abbrev FM:=List W→List Cell→Res W
structure LamR where
 params:Arguments
 body:Expr
 scope:Scope
 dfl:Bool
def lamO(r:LamR) (q:Str) (clos:List (Str×Addr)) (pm cv ct dV:Value):Obj :=
 { cls:=.type "function",data:=.func { PySem.W.kla_fn "<lambda>" q r.params r.body r.scope clos pm cv ct with defaults:=dV } }
structure Cls where
 l:List (Addr×List Str)
 /-- the tables of code objects,each with the name that its code objects bear -/
 tb:List (Addr×Str):=[]
 /-- the lambdas by number -/
 lm:List LamR:=[]
 /-- the cells of the frames whose lambdas are told,each with the name that its lambdas bear -/
 fr:List (Str×List (Str×Addr)):=[]
 /-- the World,where hashes of texts are asked for -/
 wd:Option World:=none
instance:GetElem? Cls Nat (Addr×List Str) fun c i=>i<c.l.length where
 getElem c i h:=c.l[i]
 getElem? c i:=c.l[i]?
mutual
def nkP:P→Option NestedKey
 | .non=>some .none
 | .int i=>some (.num i)
 | .str z=>some (.text z)
 | .tup l=>(nkPs l).map .tup
 |_=>none
def nkPs:List P→Option (List NestedKey)
 |[]=>some []
 |x::l=>match nkP x,nkPs l with
  |some k,some ks=>some (k::ks)
  |_,_=>none
end
def nkT:P→Option NestedKey
 | .tup l=>match nkP (.tup l)with
  |some k=>if k.depth≤8 then some k else none
  |none=>none
 |_=>none
def zJ1(w:World):List NestedKey→List Addr→List Value→List DictEntry
 |k::ks,a::as,v::vs=>⟨k.hash w,.ref a,v⟩::zJ1 w ks as vs
 |_,_,_=>[]
def NDat(wd:Option World) (od:Obj) (nks:List NestedKey) (as:List Addr) (vs:List V):Prop :=
 ∃w0 vals es ep,wd=some w0∧od.ExactDict∧od.data=.dict es ep∧Vals vs vals∧es.toList=zJ1 w0 nks as vals∧nks.length=as.length∧nks.length=vs.length∧nks.Nodup
def zPR(wd:Option World) (a:Addr) (nks:List NestedKey) (as:List Addr) (vs:List V):HO:=.ext fun h=>∃od,h.get? a=some od∧NDat wd od nks as vs
def exq(a:Addr) (oe:Obj):HO:=.ext fun h=>h.get? a=some oe
section
variable (K:PySem.W.Frag) (cl:Cls) (G:Hp)
mutual
inductive RP:P→V→Prop
 |non:RP .non .non
 |bl (b:Bool):RP (.bl b) (.bl b)
 |int (i:Int):RP (.int i) (.int i)
 |str (s:Str):RP (.str s) (.str s)
 |tup {a:Addr}{vs:List V}{l:List P}:SqT K G a vs→RPs l vs→RP (.tup l) (.ref a)
 |lst {a:Addr}{vs:List V}{l:List P}:G a=some (.lst vs)→RPs l vs→RP (.lst l) (.ref a)
 |scr {a:Addr}{l:List Int}:SqL K G a (l.map V.int)→RP (.scr l) (.ref a)
 |dk {a:Addr}{ks:List Key}{vs:List V}{l:List P}:G a=some (.dK (ks.zip vs))→ks.length=vs.length→RPs l vs→RP (.dk ks l) (.ref a)
 |obj {a C dx:Addr}{c:Nat}{ns:List Str}{vs:List V}{l:List P}:cl[c]?=some (C,ns)→G a=some (.ins C dx (ns.zip vs))→ns.length=vs.length→RPs l vs→RP (.obj c l) (.ref a)
 |exn {a C dd:Addr}{oe:Obj}{c:Nat}{ns:List Str}{vs:List V}{l:List P}:cl[c]?=some (C,ns)→(oe.cls=.ref C∧oe.dict=some dd∧∃fs,oe.data=.fields fs)→G a=some (exq a oe)→G dd=some (.xd (ns.zip vs))→ns.length=vs.length→RPs l vs→RP (.exn c l) (.ref a)
 |lam {f c':Addr}{j i:Nat}{r:LamR}{q:Str}{cs:List (Str×Addr)}{pm ct dV:Value}:cl.lm[i]?=some r→cl.fr[j]?=some (q,cs)→G f=some (exq f (lamO r q (cloFrom cs r.scope.names []) pm (.ref c') ct dV))→G c'=some (LamX.CodeO c' q)→(r.dfl=false∧dV=.none∨r.dfl=true∧∃T,dV=.ref T∧G T=some (.tup [.int 0]))→RP (.lam j i) (.ref f)
 |cls {C:Addr}{c:Nat}{ns:List Str}:cl[c]?=some (C,ns)→RP (.cls c) (.ref C)
 |fd {a:Addr}{od:Obj}{ks:List Key}{vs:List V}{l:List P}:G a=some (.frz od (.dK (ks.zip vs)))→ks.length=vs.length→RPs l vs→RP (.fd ks l) (.ref a)
 |fn {a:Addr}{od:Obj}{nks:List NestedKey}{as:List Addr}{vs us:List V}{ks l:List P}:(a==sysModules)=false→G a=some (exq a od)→NDat cl.wd od nks as vs→ks.map nkT=nks.map some→us=as.map V.ref→RPs ks us→RPs l vs→RP (.fn ks l) (.ref a)
inductive RPs:List P→List V→Prop
 |nil:RPs [] []
 |cons {x:P}{v:V}{l:List P}{vs:List V}:RP x v→RPs l vs→RPs (x::l) (v::vs)
end
end
def Sub(G G':Hp):Prop:=∀a o,G a=some o→G' a=some o
theorem Sub.refl(G:Hp):Sub G G:=fun _ _ h=>h
theorem Sub.trans{G G' G'':Hp} (a:Sub G G') (b:Sub G' G''):Sub G G'':=fun x o h=>b x o (a x o h)
theorem Sub.new{G:Hp}{p:Addr}{o:HO} (h:G p=none):Sub G (upd G p o):=fun a u e=>by
 rw[JO (Yy e h)];exact e
theorem Sub.rd{G G':Hp} (s:Sub G G'){a:Addr}{u:HO} (h:Rd G a u):Rd G' a u:=by
 rcases h with h|⟨o,h⟩
 ·exact .inl (s _ _ h)
 ·exact .inr ⟨o,s _ _ h⟩
theorem Sub.sqL{K:PySem.W.Frag}{G G':Hp} (s:Sub G G'){a:Addr}{xs:List V} (h:SqL K G a xs):SqL K G' a xs:=by
 rcases h with h|h
 ·exact .inl (s.rd h)
 ·exact .inr h
theorem Sub.sqT{K:PySem.W.Frag}{G G':Hp} (s:Sub G G'){a:Addr}{xs:List V} (h:SqT K G a xs):SqT K G' a xs:=by
 rcases h with h|h
 ·exact .inl (s.rd h)
 ·exact .inr h
section
variable {K:PySem.W.Frag}{cl:Cls}{G G':Hp}
mutual
theorem RP.mono(s:Sub G G'):∀ {x:P}{v:V},RP K cl G x v→RP K cl G' x v
 |_,_,.non=>.non
 |_,_,.bl b=>.bl b
 |_,_,.int i=>.int i
 |_,_,.str z=>.str z
 |_,_,.tup h r=>.tup (s.sqT h) (RPs.mono s r)
 |_,_,.lst h r=>.lst (s _ _ h) (RPs.mono s r)
 |_,_,.scr h=>.scr (s.sqL h)
 |_,_,.dk h e r=>.dk (s _ _ h) e (RPs.mono s r)
 |_,_,.obj c h e r=>.obj c (s _ _ h) e (RPs.mono s r)
 |_,_,.exn c x h d e r=>.exn c x (s _ _ h) (s _ _ d) e (RPs.mono s r)
 |_,_,.lam a b c d e=>.lam a b (s _ _ c) (s _ _ d) (e.elim .inl fun⟨h,T,h1,h2⟩=>.inr ⟨h,T,h1,s _ _ h2⟩)
 |_,_,.cls h=>.cls h
 |_,_,.fd h e r=>.fd (s _ _ h) e (RPs.mono s r)
 |_,_,.fn n h d e u r q=>.fn n (s _ _ h) d e u (RPs.mono s r) (RPs.mono s q)
theorem RPs.mono(s:Sub G G'):∀ {l:List P}{vs:List V},RPs K cl G l vs→RPs K cl G' l vs
 |_,_,.nil=>.nil
 |_,_,.cons h r=>.cons (RP.mono s h) (RPs.mono s r)
end
theorem RPs.length:∀ {l:List P}{vs:List V},RPs K cl G l vs→l.length=vs.length
 |_,_,.nil=>rfl
 |_,_,.cons _ r=>congrArg Nat.succ (RPs.length r)
theorem RPs.get:∀ {l:List P}{vs:List V}{i:Nat}{x:P},RPs K cl G l vs→l[i]?=some x→∃v,vs[i]?=some v∧RP K cl G x v
 |_,_,_,_,.nil,e=>by simp at e
 |_,_,0,_,.cons h _,e=>by simp at e;subst e;exact⟨_,rfl,h⟩
 |_,_,i+1,x,.cons _ r,e=>by
  obtain⟨u,h1,h2⟩:=RPs.get (i:=i) (x:=x) r (by simpa using e)
  exact⟨u,by simpa using h1,h2⟩
theorem RPs.take:∀ {l:List P}{vs:List V} (n:Nat),RPs K cl G l vs→RPs K cl G (l.take n) (vs.take n)
 |_,_,0,_=>.nil
 |_,_,_+1,.nil=>.nil
 |_,_,n+1,.cons h r=>.cons h (RPs.take n r)
theorem RPs.drop:∀ {l:List P}{vs:List V} (n:Nat),RPs K cl G l vs→RPs K cl G (l.drop n) (vs.drop n)
 |_,_,0,r=>r
 |_,_,_+1,.nil=>.nil
 |_,_,n+1,.cons _ r=>RPs.drop n r
end
def RW(K:PySem.W.Frag) (cl:Cls) (ρ:List Addr) (G:Hp):W→V→Prop
 | .p x,v=>RP K cl G x v
 | .r i,v=>∃a,ρ[i]?=some a∧v=.ref a
inductive RWs (K:PySem.W.Frag) (cl:Cls) (ρ:List Addr) (G:Hp):List W→List V→Prop
 |nil:RWs K cl ρ G [] []
 |cons {w:W}{v:V}{l:List W}{vs:List V}:RW K cl ρ G w v→RWs K cl ρ G l vs→RWs K cl ρ G (w::l) (v::vs)
section
variable {K:PySem.W.Frag}{cl:Cls}{ρ ρ':List Addr}{G G':Hp}
theorem RW.mono(p:ρ <+: ρ') (s:Sub G G'){w:W}{v:V} (h:RW K cl ρ G w v):RW K cl ρ' G' w v:=by
 cases w with
 |p x=>exact RP.mono s h
 |r i =>
  obtain⟨a,e,q⟩:=h;obtain⟨t,rfl⟩:=p;refine⟨a,?_,q⟩;have hi:i<ρ.length:=(Jb.mp e).1;rw[Je hi];exact e
theorem RWs.mono(p:ρ <+: ρ') (s:Sub G G'):∀ {l:List W}{vs:List V},RWs K cl ρ G l vs→RWs K cl ρ' G' l vs
 |_,_,.nil=>.nil
 |_,_,.cons h r=>.cons (h.mono p s) (RWs.mono p s r)
theorem RWs.length:∀ {l:List W}{vs:List V},RWs K cl ρ G l vs→l.length=vs.length
 |_,_,.nil=>rfl
 |_,_,.cons _ r=>congrArg Nat.succ (RWs.length r)
theorem RWs.get:∀ {l:List W}{vs:List V}{i:Nat}{x:W},RWs K cl ρ G l vs→l[i]?=some x→∃v,vs[i]?=some v∧RW K cl ρ G x v
 |_,_,_,_,.nil,e=>by simp at e
 |_,_,0,_,.cons h _,e=>by simp at e;subst e;exact⟨_,rfl,h⟩
 |_,_,i+1,x,.cons _ r,e=>by
  obtain⟨u,h1,h2⟩:=RWs.get (i:=i) (x:=x) r (by simpa using e)
  exact⟨u,by simpa using h1,h2⟩
theorem RWs.set{w:W}{v:V} (h:RW K cl ρ G w v):∀ {l:List W}{vs:List V} (i:Nat),RWs K cl ρ G l vs→RWs K cl ρ G (l.set i w) (vs.set i v)
 |_,_,_,.nil=>.nil
 |_,_,0,.cons _ r=>.cons h r
 |_,_,i+1,.cons q r=>.cons q (RWs.set h i r)
theorem RWs.take:∀ {l:List W}{vs:List V} (n:Nat),RWs K cl ρ G l vs→RWs K cl ρ G (l.take n) (vs.take n)
 |_,_,0,_=>.nil
 |_,_,_+1,.nil=>.nil
 |_,_,n+1,.cons h r=>.cons h (RWs.take n r)
theorem RWs.drop:∀ {l:List W}{vs:List V} (n:Nat),RWs K cl ρ G l vs→RWs K cl ρ G (l.drop n) (vs.drop n)
 |_,_,0,r=>r
 |_,_,_+1,.nil=>.nil
 |_,_,n+1,.cons _ r=>RWs.drop n r
theorem RWs.of_pures:∀ {l:List P}{vs:List V},RPs K cl G l vs→RWs K cl ρ G (l.map W.p) vs
 |_,_,.nil=>.nil
 |_,_,.cons h r=>.cons h (RWs.of_pures r)
def pures:List W→Option (List P)
 |[]=>some []
 | .p x::l=>(pures l).map (x :: ·)
 | .r _::_=>none
theorem zH4:∀ {l:List W}{m:List P},pures l=some m→l=m.map W.p
 |[],m,h=>by
  obtain rfl:[]=m:=Jk h;rfl
 | .p x::l,m,h=>by
  have h:(pures l).map (x :: ·)=some m:=h
  cases e:pures l with
  |none=>rw[e]at h;cases h
  |some k =>
   rw[e]at h;obtain rfl:x::k=m:=Jk h;rw[zH4 e];rfl
 | .r i::l,m,h=>by cases h
theorem RWs.pure':∀ {l:List P}{vs:List V},RWs K cl ρ G (l.map W.p) vs→RPs K cl G l vs
 |[],_,.nil=>.nil
 |_::_,_,.cons h r=>.cons h (RWs.pure' r)
theorem RWs.pures{l:List W}{m:List P}{vs:List V} (h:RWs K cl ρ G l vs) (e:Y.pures l=some m):RPs K cl G m vs:=by
 rw[zH4 e]at h;exact h.pure'
end
def RS(K:PySem.W.Frag) (cl:Cls) (ρ:List Addr) (G:Hp) (σ:Sg) (τ:L2.St):Prop :=
 σ.length=τ.length∧∀(i:Nat) (w:W),σ[i]?=some (some w)→∃v,τ[i]?=some (some v)∧RW K cl ρ G w v
def CA(K:PySem.W.Frag) (cl:Cls) (ρ:List Addr) (G:Hp) (H:Hp) (a:Addr):Cell→Prop
 | .lst l=>∃vs,H a=some (.lst vs)∧RWs K cl ρ G l vs
 | .dk ks l=>∃vs,H a=some (.dK (ks.zip vs))∧ks.length=vs.length∧RWs K cl ρ G l vs
 | .ins c l=>∃C dx ns vs,cl[c]?=some (C,ns)∧H a=some (.ins C dx (ns.zip vs))∧vs.length≤ns.length∧RWs K cl ρ G l vs
 | .dead=>∃o,G a=some o
 | .dn ks l=>∃nks as vs,(a==sysModules)=false∧H a=some (zPR cl.wd a nks as vs)∧ks.map nkT=nks.map some∧RPs K cl G ks (as.map V.ref)∧RWs K cl ρ G l vs
 | .tp l=>∃(oe:Obj) (its:List Value) (n:Nat),H a=some (exq a oe)∧oe.cls=.type "tuple" ∧ oe.dict=none∧oe.data=.seq its.toArray n∧Vals (l.map V.int) its
def strip(H:Hp):Hp:=fun a=>match H a with
 |some (.tbl _)=>none
 |o=>o
def NT(u:HO):Prop:=∀ps,u≠.tbl ps
theorem strip_of{H:Hp}{a:Addr}{u:HO} (h:H a=some u) (nt:NT u):strip H a=some u:=by
 unfold strip;rw[h];split
 ·rename_i ps e
  exact absurd (Jk e) (nt ps)
 ·rfl
theorem zFX{H:Hp}{a:Addr} (h:strip H a=none):H a=none∨∃ps,H a=some (.tbl ps):=by
 cases e:H a with
 |none=>exact .inl rfl
 |some u =>
  by_cases nt:NT u
  ·rw[strip_of e nt]at h;cases h
  ·exact .inr (Yq fun z=>nt fun ps q=>z ⟨ps,by rw[q]⟩)
def TabG(G H:Hp) (P:Addr) (q:Str):Prop:=∃ps:Array Value,H P=some (.tbl ps)∧TriplesOk ps.toList∧∀(pos:Pos) (cv:Value),codeAmong pos ps.toList=some cv→∃c,cv=.ref c∧G c=some (LamX.CodeO c q)
theorem TabG.nil{G H:Hp}{P:Addr}{q:Str} (h:H P=some (.tbl #[])):TabG G H P q:=⟨#[],h,True.intro,fun pos cv hc=>by
 have z:codeAmong pos []=some cv:=hc
 simp[codeAmong]at z⟩
theorem TabG.ext{G H H':Hp}{P:Addr}{q:Str} (t:TabG G H P q) (e:∀b o,H b=some o→H' b=some o):TabG G H' P q:=by
 obtain⟨ps,h1,h2,h3⟩:=t;exact⟨ps,e _ _ h1,h2,h3⟩
theorem TabG.sub{G G' H:Hp}{P:Addr}{q:Str} (t:TabG G H P q) (s:Sub G G'):TabG G' H P q:=by
 obtain⟨ps,h1,h2,h3⟩:=t
 exact⟨ps,h1,h2,fun pos cv hc=>by
  obtain⟨c,e1,e2⟩:=h3 pos cv hc
  exact⟨c,e1,s _ _ e2⟩⟩
theorem zIB{G H:Hp}{P p:Addr}{q:Str}{o:HO} (t:TabG G H P q) (h:H p=none):TabG G (upd H p o) P q:=t.ext fun b u e=>by
 rw[JO (Yy e h)];exact e
def PlO(u:HO):Prop:=NT u∧True
theorem zNg{u:HO} (h:match u with | .tbl _=>False | .ext _=>False|_=>True):PlO u:=by
 refine⟨fun ps z=>?_,trivial⟩
 subst z;exact h
structure En where
 H0:Hp
 n0:Nat
 G0:Hp
structure Rel (K:PySem.W.Frag) (cl:Cls) (E0:En) (ρ:List Addr) (G:Hp) (st:List Cell) (H:Hp):Prop where
 len:ρ.length=st.length
 nd:ρ.Nodup
 cell:∀(i:Nat) c a,st[i]?=some c→ρ[i]?=some a→CA K cl ρ G H a c
 sep:∀(i:Nat) c a,st[i]?=some c→ρ[i]?=some a→c=.dead∨G a=none
 sub:Sub G H
 old:∀a u,E0.H0 a=some u→(∀i:Nat,i<E0.n0→ρ[i]?≠some a)→H a=some u
 new:∀(i:Nat) a,E0.n0≤i→ρ[i]?=some a→E0.H0 a=none
 n0:E0.n0≤ρ.length
 grow:∀a o,G a=some o→E0.G0 a=some o∨E0.H0 a=none∨∃i:Nat,i<E0.n0∧ρ[i]?=some a
 ent:∀a u,E0.H0 a=some u→NT u
 gnt:∀a u,G a=some u→NT u
 tabs:∀p∈cl.tb,TabG G H p.1 p.2
section
variable {K:PySem.W.Frag}{cl:Cls}{E0:En}{ρ ρ':List Addr}{G G':Hp}{st:List Cell}{H H':Hp}
theorem CA.mono(p:ρ <+: ρ') (s:Sub G G'){a:Addr} (e:H' a=H a):∀ {c:Cell},CA K cl ρ G H a c→CA K cl ρ' G' H' a c
 | .lst l,⟨vs,h,r⟩=>⟨vs,e.trans h,r.mono p s⟩
 | .dk ks l,⟨vs,h,z,r⟩=>⟨vs,e.trans h,z,r.mono p s⟩
 | .ins c l,⟨C,dx,ns,vs,k,h,z,r⟩=>⟨C,dx,ns,vs,k,e.trans h,z,r.mono p s⟩
 | .dead,⟨o,h⟩=>⟨o,s _ _ h⟩
 | .dn ks l,⟨nks,as,vs,n,h,z,q,r⟩=>⟨nks,as,vs,n,e.trans h,z,RPs.mono s q,r.mono p s⟩
 | .tp _,⟨oe,its,n,h,r⟩=>⟨oe,its,n,e.trans h,r⟩
theorem Rel.at(R:Rel K cl E0 ρ G st H){i:Nat}{c:Cell} (h:st[i]?=some c):∃a,ρ[i]?=some a∧CA K cl ρ G H a c∧(c=.dead∨G a=none):=by
 have hi:i<st.length:=(Jb.mp h).1;have hj:i<ρ.length:=by rw[R.len];exact hi
 exact⟨ρ[i],by simp[hj],R.cell i c _ h (by simp[hj]),R.sep i c _ h (by simp[hj])⟩
theorem Rel.there(R:Rel K cl E0 ρ G st H){i:Nat}{a:Addr} (h:ρ[i]?=some a):∃o,H a=some o:=by
 have hi:i<ρ.length:=(Jb.mp h).1;have hj:i<st.length:=by rw[←R.len];exact hi
 have x:=R.cell i _ a (Ja hj) h;cases e:st[i]with
 |lst l=>rw[e]at x;obtain⟨vs,z,_⟩:=x;exact⟨_,z⟩
 |dk ks l=>rw[e]at x;obtain⟨vs,z,_⟩:=x;exact⟨_,z⟩
 |ins c l=>rw[e]at x;obtain⟨C,dx,ns,vs,_,z,_⟩:=x;exact⟨_,z⟩
 |dead=>rw[e]at x;obtain⟨o,z⟩:=x;exact⟨o,R.sub _ _ z⟩
 |dn ks l=>rw[e]at x;obtain⟨_,_,_,_,z,_⟩:=x;exact⟨_,z⟩
 |tp l=>rw[e]at x;obtain⟨_,_,_,z,_⟩:=x;exact⟨_,z⟩
theorem Rel.gnone(R:Rel K cl E0 ρ G st H){p:Addr} (h:H p=none):G p=none:=by
 cases e:G p with
 |none=>rfl
 |some o=>rw[R.sub _ _ e]at h;cases h
theorem Rel.fresh0(R:Rel K cl E0 ρ G st H){p:Addr} (h:H p=none):E0.H0 p=none:=by
 cases e:E0.H0 p with
 |none=>rfl
 |some u =>
  by_cases q:∀i:Nat,i<E0.n0→ρ[i]?≠some p
  ·rw[R.old p u e q]at h;cases h
  ·exfalso;apply q;intro i _ z;obtain⟨o,y⟩:=R.there z;rw[h]at y;cases y
theorem Rel.froze(R:Rel K cl E0 ρ G st H){p:Addr}{o:HO} (h:H p=none) (nt:NT o:=by intro _ z;cases z):Rel K cl E0 ρ (upd G p o) st (upd H p o):=by
 have gp:=R.gnone h
 have ne:∀(i:Nat) a,ρ[i]?=some a→a≠p:=fun i a e z=>by
  obtain⟨u,q⟩:=R.there e;rw[z,h]at q;cases q
 refine⟨R.len,R.nd,fun i c a e1 e2=>?_,fun i c a e1 e2=>?_,fun a u e=>?_,fun a u e q=>?_,R.new,R.n0,fun a u e=>?_,R.ent,fun a u e=>?_,fun q hq=>(zIB (R.tabs q hq) h).sub (Sub.new gp)⟩
 ·exact(R.cell i c a e1 e2).mono (Jh _) (Sub.new gp) (JO (ne i a e2))
 ·rw[JO (ne i a e2)];exact R.sep i c a e1 e2
 ·by_cases z:a=p
  ·subst z;rw[JC]at e ⊢;exact e
  ·rw[JO z]at e ⊢;exact R.sub a u e
 ·have q2:=R.old a u e q;rw[JO (Yy q2 h)];exact q2
 ·by_cases z:a=p
  ·subst z;exact .inr (.inl (R.fresh0 h))
  ·rw[JO z]at e;exact R.grow a u e
 ·by_cases z:a=p
  ·subst z;rw[JC]at e;cases e;exact nt
  ·rw[JO z]at e;exact R.gnt a u e
theorem CA.po{K:PySem.W.Frag}{cl:Cls}{ρ:List Addr}{G H:Hp}{a:Addr}:∀ {c:Cell},CA K cl ρ G H a c→c≠.dead→∃u,H a=some u∧PlO u
 | .lst l,⟨vs,h,_⟩,_=>⟨_,h,zNg trivial⟩
 | .dk ks l,⟨vs,h,_⟩,_=>⟨_,h,zNg trivial⟩
 | .ins c l,⟨C,dx,ns,vs,_,h,_⟩,_=>⟨_,h,zNg trivial⟩
 | .dead,_,n=>absurd rfl n
 | .dn ks l,⟨nks,as,vs,_,h,_⟩,_=>⟨_,h,⟨fun _ z=>(nomatch z),trivial⟩⟩
 | .tp _,⟨_,_,_,h,_⟩,_=>⟨_,h,⟨fun _ z=>(nomatch z),trivial⟩⟩
theorem Rel.tblF(R:Rel K cl E0 ρ G st H){a:Addr}{ps:Array Value} (h:H a=some (.tbl ps)):(∀i:Nat,ρ[i]?≠some a)∧E0.H0 a=none:=by
 have h1:∀i:Nat,ρ[i]?≠some a:=fun i z=>by
  have hi:i<st.length:=by rw[←R.len];exact(Jb.mp z).1
  by_cases hcd:st[i]=.dead
  ·obtain⟨o2,z2⟩:=R.cell i _ a (by rw[Ja hi,hcd]) z
   have z3:=R.sub _ _ z2;rw[h]at z3;exact R.gnt a o2 z2 ps (Jk z3).symm
  ·obtain⟨u2,z2,po⟩:=(R.cell i _ a (Ja hi) z).po hcd;rw[h]at z2;exact po.1 ps (Jk z2).symm
 refine⟨h1,?_⟩;cases e:E0.H0 a with
 |none=>rfl
 |some u =>
  have z1:=R.old a u e fun i _=>h1 i
  rw[h]at z1;exact absurd (Jk z1).symm (R.ent a u e ps)
end
def RX(K:PySem.W.Frag) (cl:Cls) (G:Hp) (H:Hp) (x:Exn) (cls:Value) (d:Option Addr):Prop :=
 ∃C ns dd vs,cl[x.c]?=some (C,ns)∧cls=.ref C∧d=some dd∧H dd=some (.xd (ns.zip vs))∧ns.length=vs.length∧RPs K cl G x.l vs
structure Bs where
 K:PySem.W.Frag
 cl:Cls
 E0:En
abbrev Bs.Rel(B:Bs) (ρ:List Addr) (G:Hp) (st:List Cell) (H:Hp):Prop:=Y.Rel B.K B.cl B.E0 ρ G st H
abbrev Bs.RW(B:Bs) (ρ:List Addr) (G:Hp):W→V→Prop:=Y.RW B.K B.cl ρ G
abbrev ZX:=Value→Option Addr→Hp→Prop
def Aft(B:Bs){α β:Type} (V:List Addr→Hp→α→β→Prop) (ρ:List Addr) (G:Hp) (R:Res α) (Q:β→Hp→Prop) (Z:ZX):Prop:=match R with
 | .ok a st=>∀ρ' G' H' b,ρ <+: ρ'→Sub G G'→B.Rel ρ' G' st H'→V ρ' G' a b→Q b H'
 | .exc x st=>∀ρ' G' H' cls d,ρ <+: ρ'→Sub G G'→B.Rel ρ' G' st H'→RX B.K B.cl G' H' x cls d→Z cls d H'
 | .no=>False
section
variable {B:Bs}{α β γ δ:Type}{U:List Addr→Hp→α→β→Prop}{U2:List Addr→Hp→γ→δ→Prop}{ρ ρ':List Addr}{G G':Hp}{Z:ZX}
theorem Aft.mono{R:Res α}{Q:β→Hp→Prop} (p:ρ <+: ρ') (s:Sub G G') (h:Aft B U ρ G R Q Z):Aft B U ρ' G' R Q Z:=by
 cases R with
 |ok a st=>exact fun ρ2 G2 H2 b p2 s2 r u=>h ρ2 G2 H2 b (p.trans p2) (s.trans s2) r u
 |exc x st=>exact fun ρ2 G2 H2 c d p2 s2 r u=>h ρ2 G2 H2 c d (p.trans p2) (s.trans s2) r u
 |no=>exact h
theorem Aft.seq{R:Res α}{k:α→List Cell→Res γ}{Q:δ→Hp→Prop}{Q':β→Hp→Prop} (h:Aft B U2 ρ G (R.bind k) Q Z)
  (g:∀a st ρ' G' H' b,R=.ok a st→ρ <+: ρ'→Sub G G'→B.Rel ρ' G' st H'→U ρ' G' a b→Aft B U2 ρ' G' (k a st) Q Z→Q' b H'):Aft B U ρ G R Q' Z:=by
 cases R with
 |ok a st=>exact fun ρ2 G2 H2 b p s r u=>g a st ρ2 G2 H2 b rfl p s r u (Aft.mono p s h)
 |exc x st=>exact h
 |no=>exact h
end
section
variable {X:Cx}
def T(X:Cx) (e:Expr):TE:=fun σ H Q=>∀(pins:List (Addr×Obj)) (s:Shared),Inv X pins σ H s→wpAny (model X.prog X.w) X.A (eval e X.env) (EP X pins σ Q) X.xe s
theorem T.of{e:Expr}{t:TE}{σ:L2.St}{H:Hp}{Q:VK} (h:PE X e t) (q:t σ H Q):T X e σ H Q:=fun pins s I=>h.run pins s σ H Q I q
end
abbrev TM:=Sg→List Cell→Res Bool
abbrev AM:=Sg→List Cell→Res (List W)
abbrev bs(K:PySem.W.Frag) (cl:Cls) (E0:En):Bs:=⟨K,cl,E0⟩
structure SE (K:PySem.W.Frag) (cl:Cls) (X:Cx) (Wx:WX) (m:EM) (e:Expr):Prop where
 run:∀E0 ρ G σ st τ H Q,(bs K cl E0).Rel ρ G st H→RS K cl ρ G σ τ→Aft (bs K cl E0) (bs K cl E0).RW ρ G (m σ st) Q (fun c d H'=>Wx c d τ H')→T X e τ H Q
structure GX (K:PySem.W.Frag) (X:Cx):Prop where
 hK:X.K=K
 hc:X.calm=true
 hN:X.N.Nodup
 hu:X.A.units+65<cLine
 hh:X.A.handled=none
section
variable {K:PySem.W.Frag}{cl:Cls}{X:Cx}{Wx:WX}{E0:En}{ρ ρ':List Addr}{G G':Hp}{σ:Sg}{τ:L2.St}{st:List Cell}{H:Hp}
theorem RS.mono(p:ρ <+: ρ') (s:Sub G G') (h:RS K cl ρ G σ τ):RS K cl ρ' G' σ τ:=⟨h.1,fun i w e=>by
 obtain⟨v,e1,r⟩:=h.2 i w e
 exact⟨v,e1,r.mono p s⟩⟩
theorem Aft.here{B:Bs}{α β:Type}{U:List Addr→Hp→α→β→Prop}{a:α}{b:β}{Q:β→Hp→Prop}{Z:ZX} (h:Aft B U ρ G (.ok a st) Q Z) (R:B.Rel ρ G st H) (u:U ρ G a b):Q b H :=
 h ρ G H b (Jh _) (Sub.refl _) R u
def mVar(i:Nat):EM:=fun σ st=>match σ[i]? with
 |some (some w)=>.ok w st
 |_=>.no
theorem se_var{i:Nat}{x:Str}{pos:Pos} (hN:X.N[i]?=some x) (hv:Vis X.env.scope x) (hd:(x==("__debug__" : Str))=false:=by decide +kernel) (hcd:(x==("__classdict__" : Str))=false:=by decide +kernel):SE K cl X Wx (mVar i) (.Name x pos):=by
 refine⟨fun E0 ρ G σ st τ H Q R S h=>T.of (pe_var hN hv hd hcd) ?_⟩
 unfold mVar at h;split at h
 ·rename_i w e
  obtain⟨v,e1,r⟩:=S.2 i w e;exact⟨v,e1,h.here R r⟩
 ·exact h.elim
end
section
variable {K:PySem.W.Frag}{cl:Cls}{X:Cx}{Wx:WX}{E0:En}{ρ ρ':List Addr}{G G':Hp}{σ:Sg}{τ:L2.St}{st:List Cell}{H:Hp}
theorem RPs.empty{l:List P}{vs:List V} (r:RPs K cl G l vs):l.isEmpty=vs.isEmpty:=by cases r<;>rfl
theorem RWs.empty{l:List W}{vs:List V} (r:RWs K cl ρ G l vs):l.isEmpty=vs.isEmpty:=by cases r<;>rfl
theorem T.bind{e:Expr}{Q Q':VK} (h:T X e τ H Q) (k:∀v H',Q v H'→Q' v H'):T X e τ H Q':=fun pins s I=>thn (h pins s I) fun u s1 ⟨v,H1,I1,r,q⟩=>⟨v,H1,I1,r,k v H1 q⟩
end
inductive SR where
 |ok (f:Fl) (σ:Sg) (st:List Cell)|exc (x:Exn) (σ:Sg) (st:List Cell)|no
abbrev SMm:=Sg→List Cell→SR
section
variable {K:PySem.W.Frag}{cl:Cls}{X:Cx}{Wx:WX}{E0:En}{ρ ρ':List Addr}{G G':Hp}{σ:Sg}{τ:L2.St}{st:List Cell}{H:Hp}{D:Ends}
theorem RS.set(S:RS K cl ρ G σ τ){w:W}{v:V} (r:RW K cl ρ G w v) (i:Nat):RS K cl ρ G (σ.set i (some w)) (τ.set i (some v)):=by
 refine⟨by rw[J5,J5];exact S.1,fun j z e=>?_⟩
 by_cases hj:i=j
 ·subst hj
  have hl:i<σ.length:=by
   have:=(Jb.mp e).1
   rwa [J5]at this
  rw[Jw hl]at e;cases e;exact⟨v,Jw (by rw[←S.1];exact hl),r⟩
 ·rw[Jv hj]at e;obtain⟨u,e1,r1⟩:=S.2 j z e;exact⟨u,by rw[Jv hj];exact e1,r1⟩
inductive Tg where
 |nm (i:Nat)|tp (l:List Tg)
mutual
def Tg.slots:Tg→List Nat
 | .nm i=>[i]
 | .tp ts=>Tg.slotss ts
def Tg.slotss:List Tg→List Nat
 |[]=>[]
 |t::ts=>Tg.slots t++Tg.slotss ts
end
end
structure Src where
 get:List Cell→Nat→Option (Option W)
 n:Nat
abbrev IM:=Sg→List Cell→Res Src
def content:Cell→List W
 | .lst l=>l
 | .dk _ l=>l
 | .ins _ l=>l
 | .dead=>[]
 | .dn _ l=>l
 | .tp _=>[]
def zAx(c:Cell):Bool:=match c with
 | .dead=>false
 |c=>(pures (content c)).isSome
def getCells(st:List Cell):List Nat→Option (List Cell)
 |[]=>some []
 |i::is=>match st[i]? with
  |some c=>if zAx c=true then match getCells st is with
    |some cs=>some (c::cs)
    |none=>none else none
  |none=>none
def putCells:List Nat→List Cell→List Cell→List Cell
 |i::is,c::cs,st=>(putCells is cs st).set i c
 |_,_,st=>st
section
variable {K:PySem.W.Frag}{cl:Cls}{X:Cx}{Wx:WX}{E0:En}{ρ ρ' ρ2:List Addr}{G G':Hp}{σ:Sg}{τ:L2.St}{st st':List Cell}{H H' Hm:Hp}{D:Ends}
theorem zFE{l:List W}{vs:List V} (h:(pures l).isSome=true) (r:RWs K cl ρ G l vs):RWs K cl ρ2 G l vs:=by
 cases e:pures l with
 |none=>rw[e]at h;cases h
 |some m =>
  have q:=r.pures e;rw[zH4 e];exact .of_pures q
theorem CA.plain{a:Addr}{c:Cell} (h:zAx c=true) (x:CA K cl ρ G H a c):CA K cl ρ2 G H a c:=by
 cases c with
 |lst l=>obtain⟨vs,h1,h2⟩:=x;exact⟨vs,h1,zFE h h2⟩
 |dk ks l=>obtain⟨vs,h1,z,h2⟩:=x;exact⟨vs,h1,z,zFE h h2⟩
 |ins c l=>obtain⟨C,dx,ns,vs,k,h1,z,h2⟩:=x;exact⟨C,dx,ns,vs,k,h1,z,zFE h h2⟩
 |dead=>cases h
 |dn ks l=>obtain⟨nks,as,vs,n,h1,z,q,h2⟩:=x;exact⟨nks,as,vs,n,h1,z,q,zFE h h2⟩
 |tp l=>exact x
theorem zC5:∀ {refs:List Nat}{cs st:List Cell},(putCells refs cs st).length=st.length
 |[],_,_=>by unfold putCells;rfl
 |_::_,[],_=>by unfold putCells;rfl
 |i::is,c::cs,st=>by unfold putCells;rw[J5];exact zC5
theorem zD4:∀ {refs:List Nat}{cs st:List Cell}{i:Nat},i∉refs→(putCells refs cs st)[i]?=st[i]?
 |[],_,_,_,_=>by unfold putCells;rfl
 |_::_,[],_,_,_=>by unfold putCells;rfl
 |k::is,c::cs,st,i,h=>by
  unfold putCells;rw[Jv (fun e=>h (by rw[e];exact Jg))]
  exact zD4 fun m=>h (Jf _ m)
theorem zEn:∀ {refs:List Nat}{cs st:List Cell}{j i:Nat},refs.Nodup→refs[j]?=some i→refs.length≤cs.length→i<st.length→(putCells refs cs st)[i]?=cs[j]?
 |[],_,_,_,_,_,h,_,_=>by simp at h
 |_::_,[],_,_,_,_,_,h,_=>by simp at h
 |k::is,c::cs,st,0,i,nd,h,hl,hi=>by
  simp at h;subst h;unfold putCells;rw[Jw (by rw[zC5];exact hi)]
  rfl
 |k::is,c::cs,st,j+1,i,nd,h,hl,hi=>by
  have h:is[j]?=some i:=by simpa using h
  have ne:k≠i:=fun e=>(JV.mp nd).1 (by rw[e];exact Ji h)
  unfold putCells;rw[Jv ne];rw[zEn (JV.mp nd).2 h (by simpa using hl) hi]
  simp
theorem zDr:∀ {refs:List Nat}{cs:List Cell}{j i:Nat},getCells st refs=some cs→refs[j]?=some i→∃c,cs[j]?=some c∧st[i]?=some c∧zAx c=true
 |[],_,_,_,_,h=>by simp at h
 |k::is,cs,j,i,e,h=>by
  rw[getCells]at e;split at e
  ·rename_i c ec
   split at e
   ·rename_i hp
    split at e
    ·rename_i ds ed
     cases e;cases j with
     |zero =>
      simp at h;subst h;exact⟨c,rfl,ec,hp⟩
     |succ j =>
      obtain⟨d,h1,h2⟩:=zDr (j:=j) ed (by simpa using h)
      exact⟨d,by simpa using h1,h2⟩
    ·cases e
   ·cases e
  ·cases e
def rhos(ρ:List Addr) (refs:List Nat):List Addr:=refs.map fun i=>ρ.getD i 0
theorem zGh(R:Rel K cl E0 ρ G st H){refs:List Nat}{cs:List Cell} (e:getCells st refs=some cs){j i:Nat} (h:refs[j]?=some i):∃a,ρ[i]?=some a∧(rhos ρ refs)[j]?=some a:=by
 obtain⟨c,_,h2,_⟩:=zDr e h;obtain⟨a,ha,_⟩:=R.at h2;refine⟨a,ha,?_⟩;unfold rhos;rw[Jd,h];show some (ρ.getD i 0)=some a;rw[J0,ha];rfl
theorem zEk(R:Rel K cl E0 ρ G st H){refs:List Nat}{cs:List Cell} (e:getCells st refs=some cs){j:Nat}{a:Addr} (h:(rhos ρ refs)[j]?=some a):∃i,refs[j]?=some i∧ρ[i]?=some a:=by
 unfold rhos at h;rw[Jd]at h;cases q:refs[j]? with
 |none=>rw[q]at h;cases h
 |some i =>
  obtain⟨b,h1,h2⟩:=zGh R e q;unfold rhos at h2;rw[Jd]at h2;rw[h]at h2;cases h2;exact⟨i,rfl,h1⟩
theorem getElem?_inj {α:Type}{l:List α} (nd:l.Nodup){i j:Nat}{a:α} (h1:l[i]?=some a) (h2:l[j]?=some a):i=j:=by
 have e1:=Jb.mp h1;have e2:=Jb.mp h2;exact(Yb (h₀:=e1.1) (h₁:=e2.1) nd).mp (e1.2.trans e2.2.symm)
theorem zDT{α:Type}{l m:List α}{i:Nat}{a:α} (h:(l++m)[i]?=some a):(i<l.length∧l[i]?=some a)∨(l.length≤i∧m[i-l.length]?=some a):=by
 by_cases hi:i<l.length
 ·rw[Je hi]at h;exact .inl ⟨hi,h⟩
 ·rw[Jq ∅]at h;exact .inr ⟨∅,h⟩
theorem Rel.ret(R:Rel K cl E0 ρ G st H){refs:List Nat}{cs:List Cell}{xs:List Addr} (nd:refs.Nodup) (hc:getCells st refs=some cs) (up:Sub H Hm) (hx:∀x∈xs,H x=none)
  (p:(xs++rhos ρ refs) <+: ρ') (s:Sub G G') (R':Rel K cl ⟨strip Hm,(xs++rhos ρ refs).length,G⟩ ρ' G' st' H') (pl:((st'.drop xs.length).take refs.length).all zAx=true) (ln:xs.length+refs.length≤st'.length) :
  Rel K cl E0 ρ G' (putCells refs (st'.drop xs.length) st) H':=by
 have lr:(rhos ρ refs).length=refs.length:=Jc ..;obtain⟨tl,rfl⟩:=p
 -- a cell of the caller that is not handed in
 have notin:∀(i:Nat) a,ρ[i]?=some a→i∉refs→∀j:Nat,j<(xs++rhos ρ refs).length→(xs++rhos ρ refs++tl)[j]?≠some a:=fun i a ha hi j hj e=>by
  rw[Je hj]at e;rcases zDT e with⟨h1,h2⟩|⟨h1,h2⟩
  ·obtain⟨o,q⟩:=R.there ha;rw[hx a (Ji h2)]at q;cases q
  ·obtain⟨k,r1,r2⟩:=zEk R hc h2
   have:=getElem?_inj R.nd r2 ha
   subst this;exact hi (Ji r1)
 -- what was handed in,by places
 have inn:∀(j:Nat) a,j<(xs++rhos ρ refs).length→(xs++rhos ρ refs++tl)[j]?=some a→a∈xs∨∃i,i∈refs∧ρ[i]?=some a:=fun j a hj e=>by
  rw[Je hj]at e;rcases zDT e with⟨h1,h2⟩|⟨h1,h2⟩
  ·exact .inl (Ji h2)
  ·obtain⟨k,r1,r2⟩:=zEk R hc h2;exact .inr ⟨k,Ji r1,r2⟩
 have at':∀(i:Nat) a,i∈refs→ρ[i]?=some a→∃j,refs[j]?=some i∧(xs++rhos ρ refs++tl)[xs.length+j]?=some a∧j<refs.length:=fun i a hi ha=>by
  obtain⟨j,hj⟩:=JF hi;obtain⟨b,h1,h2⟩:=zGh R hc hj;rw[ha]at h1;cases h1;have hl:j<refs.length:=(Jb.mp hj).1;refine⟨j,hj,?_,hl⟩;rw[Je (by rw[Ju,lr];omega),Jq ∅]
  rw[show xs.length+j-xs.length=j by omega];exact h2
 have hil:∀(i:Nat) a,ρ[i]?=some a→i<st.length:=fun i a ha=>by rw[←R.len];exact(Jb.mp ha).1
 refine⟨by rw[zC5];exact R.len,R.nd,fun i c a e1 e2=>?_,fun i c a e1 e2=>?_,R'.sub,fun a u e q=>?_,R.new,R.n0,fun a u e=>?_,R.ent,R'.gnt,R'.tabs⟩
 ·by_cases hi:i∈refs
  ·obtain⟨j,h1,h2,h3⟩:=at' i a hi e2;rw[zEn nd h1 (by rw[List.length_drop];omega) (hil i a e2)]at e1
   have x:=R'.cell (xs.length+j) c a (by rw[List.getElem?_drop]at e1;exact e1) h2
   have hp:zAx c=true:=Jp.mp pl c (Ji (i:=j) (by rw[List.getElem?_take_of_lt h3];exact e1))
   exact CA.plain hp x
  ·rw[zD4 hi]at e1
   by_cases hcd:c=.dead
   ·subst hcd;obtain⟨o,z⟩:=R.cell i _ a e1 e2;exact⟨o,s _ _ z⟩
   ·obtain⟨o,q,po⟩:=(R.cell i c a e1 e2).po hcd;have q2:=R'.old a o (strip_of (up a o q) po.1) (notin i a e2 hi);exact(R.cell i c a e1 e2).mono (Jh _) s (q2.trans q.symm)
 ·by_cases hi:i∈refs
  ·obtain⟨j,h1,h2,h3⟩:=at' i a hi e2;rw[zEn nd h1 (by rw[List.length_drop];omega) (hil i a e2)]at e1
   exact R'.sep (xs.length+j) c a (by rw[List.getElem?_drop]at e1;exact e1) h2
  ·rw[zD4 hi]at e1;rcases R.sep i c a e1 e2 with z|z
   ·exact .inl z
   ·refine .inr ?_
    cases g:G' a with
    |none=>rfl
    |some u =>
     obtain⟨o,q⟩:=R.there e2;rcases R'.grow a u g with y|y|⟨j,hj,y⟩
     ·have y:G a=some u:=y;rw[z]at y;cases y
     ·have y:strip Hm a=none:=y;rcases zFX y with y|⟨ps,y⟩
      ·rw[up a o q]at y;cases y
      ·rw[up a o q]at y;cases y;exact absurd e2 ((R.tblF q).1 i)
     ·exact absurd y (notin i a e2 hi j hj)
 ·have h1:=R.old a u e q;refine R'.old a u (strip_of (up a u h1) (R.ent a u e)) fun j hj y=>?_
  rcases inn j a hj y with m|⟨i,hi,r⟩
  ·rw[hx a m]at h1;cases h1
  ·by_cases hn:i<E0.n0
   ·exact q i hn r
   ·rw[R.new i a ∅ r]at e;cases e
 ·rcases R'.grow a u e with y|y|⟨j,hj,y⟩
  ·exact R.grow a u y
  ·have y:strip Hm a=none:=y;refine .inr (.inl ?_);rcases zFX y with y|⟨ps,y⟩
   ·exact R.fresh0 (by
     cases g:H a with
     |none=>rfl
     |some o=>rw[up a o g]at y;cases y)
   ·cases g:H a with
    |none=>exact R.fresh0 g
    |some o =>
     rw[up a o g]at y;cases y;exact(R.tblF g).2
  ·rcases inn j a hj y with m|⟨i,hi,r⟩
   ·exact .inr (.inl (R.fresh0 (hx a m)))
   ·by_cases hn:i<E0.n0
    ·exact .inr (.inr ⟨i,hn,r⟩)
    ·exact .inr (.inl (R.new i a ∅ r))
section
variable {f:Addr}{fd:FuncData}{ps:List Str}{F:FM}{a:AM}{k:Nat}{x m:Str}{p pos apos:Pos}{e:Expr}{es:List Expr}
structure zIp (K:PySem.W.Frag) (cl:Cls) (fn:Str) (c i:Nat):Prop where
 ex:∃C ns,cl[c]?=some (C,ns)∧ns.Nodup∧ns[i]?=some fn∧L2.Cls K C∧NoAttr K C fn
end
end
inductive ZK where
 |L (a:Addr)|T (a:Addr)|S (x:Str)
def ZK.val:ZK→V
 | .L a=>.ref a
 | .T a=>.ref a
 | .S x=>.str x
def ZK.len(K:PySem.W.Frag) (H:Hp) (n:Nat):ZK→Prop
 | .L a=>∃xs,SqL K H a xs∧xs.length=n
 | .T a=>∃xs,SqT K H a xs∧xs.length=n
 | .S x=>x.cps.size=n
section
variable {K:PySem.W.Frag}{cl:Cls}{X:Cx}{Wx:WX}{E0:En}{ρ ρ':List Addr}{G G':Hp}{σ:Sg}{τ:L2.St}{st:List Cell}{H:Hp}{D:Ends}
def vis(sc:Scope) (x:Str):Bool:=match sc.names.lookup x with
 |some .local=>true
 |some .cell=>true
 |some .free=>true
 |_=>false
theorem zQg{sc:Scope}{x:Str} (h:vis sc x=true):Vis sc x:=by
 unfold vis at h;split at h
 ·exact .inl (by assumption)
 ·exact .inr (.inl (by assumption))
 ·exact .inr (.inr (by assumption))
 ·cases h
theorem v{i:Nat}{x:Str}{pos:Pos} (hN:X.N[i]?=some x) (hv:vis X.env.scope x=true) (hd:((x==("__debug__" : Str))||(x==("__classdict__" : Str)))=false):SE K cl X Wx (mVar i) (.Name x pos):=by
 rw[Bool.or_eq_false_iff]at hd;exact se_var hN (zQg hv) hd.1 hd.2
end
section
variable {K:PySem.W.Frag}{cl:Cls}{X:Cx}{Wx:WX}{E0:En}{ρ ρ':List Addr}{G G':Hp}{σ:Sg}{τ:L2.St}{st:List Cell}{H:Hp}{D:Ends}
mutual
def kvB(K:PySem.W.Frag):P→Value→Bool
 | .non,.none=>true
 | .bl b,.bool c=>b==c
 | .int i,.int j _=>i==j
 | .str x,.str y _=>x==y
 | .tup l,.ref a=>match K.lookup a with
  |some o=>decide (o.cls=.type "tuple")&&(match o.data with
   | .seq its _=>decide (its.size≤sizeLine)&&kvsB K l its.toList
   |_=>false)
  |none=>false
 |_,_=>false
def kvsB(K:PySem.W.Frag):List P→List Value→Bool
 |[],[]=>true
 |x::l,u::us=>kvB K x u&&kvsB K l us
 |_,_=>false
end
def gtB(K:PySem.W.Frag) (x:Str) (p:P):Bool:=match PySem.W.nsIn K mainGlobals x with
 |some (some u)=>kvB K p u
 |_=>false
end
section
open PySem.W (ksEnv ksFn kxs_mw)
section
variable {K:PySem.W.Frag}{cl:Cls}{X:Cx}{Wx:WX}{E0:En}{ρ ρ':List Addr}{G G':Hp}{σ:Sg}{τ:L2.St}{st:List Cell}{H:Hp}{D:Ends}
abbrev WE(E:XK):WX:=fun c d _ H=>E c d H
end
end
section
open LamX
section
variable {K:PySem.W.Frag}{cl:Cls}{E0:En}{ρ:List Addr}{G:Hp}{st:List Cell}{H H1:Hp}
theorem Rel.grown(R:Rel K cl E0 ρ G st H) (eN:ExtN H H1) (T1:∀p∈cl.tb,TabG G H1 p.1 p.2):Rel K cl E0 ρ G st H1:=by
 refine⟨R.len,R.nd,fun i c a e1 e2=>?_,R.sep,fun a u e=>eN a u (R.sub a u e) (R.gnt a u e),fun a u e q=>eN a u (R.old a u e q) (R.ent a u e),R.new,R.n0,R.grow,R.ent,R.gnt,T1⟩
 by_cases hcd:c=.dead
 ·subst hcd;exact R.cell i _ a e1 e2
 ·obtain⟨o,z,po⟩:=(R.cell i c a e1 e2).po hcd;exact(R.cell i c a e1 e2).mono (Jh _) (Sub.refl _) ((eN a o z po.1).trans z.symm)
end
end
section
open LamX (CodeO ExtN TabB)
section
variable {K:PySem.W.Frag}{cl:Cls}{X:Cx}{Wx:WX}{E0:En}{ρ:List Addr}{G:Hp}{σ:Sg}{τ:L2.St}{st:List Cell}{H:Hp}
theorem zKt{c:Addr}{q:Str}:NT (CodeO c q):=fun _ z=>by unfold CodeO at z;cases z
theorem Rel.code{Pt c':Addr}{q:Str}{ps ps':Array Value} (R:Rel K cl E0 ρ G st H) (hP:H Pt=some (.tbl ps)) (hc:H c'=none) (hu:∀p∈cl.tb,p.1=Pt→p.2=q) (ht:TriplesOk ps'.toList)
  (ha:∀(pos:Pos) (cv:Value),codeAmong pos ps'.toList=some cv→∃c,cv=.ref c∧upd G c' (CodeO c' q) c=some (CodeO c q)):Rel K cl E0 ρ (upd G c' (CodeO c' q)) st (upd (upd H Pt (.tbl ps')) c' (CodeO c' q)):=by
 have R':=R.froze (o:=CodeO c' q) hc zKt;have ne:Pt≠c':=Yy hP hc;refine R'.grown (fun b o e n=>?_) fun p hp=>?_
 ·by_cases hb:b=c'
  ·rw[hb]at e ⊢;rw[JC]at e ⊢;exact e
  ·rw[JO hb]at e ⊢;rw[JO fun z=>by rw[z,hP]at e;exact n ps (Jk e).symm]
   exact e
 ·by_cases hb:p.1=Pt
  ·rw[hu p hp hb,hb];exact⟨ps',by rw[JO ne,JC],ht,ha⟩
  ·obtain⟨qs,e1,e2,e3⟩:=R'.tabs p hp
   have ec:p.1≠c':=fun z=>by
    rw[z,JC]at e1;exact zKt qs (Jk e1)
   rw[JO ec]at e1;exact⟨qs,by rw[JO ec,JO hb];exact e1,e2,e3⟩
end
end
section
open PySem.W (ksFn ksEnv)
structure DefE where
 at_:PySem.W.Frag→Addr
 name:Str
 qual:Str
 params:Arguments
 body:List Stmt
 scope:Scope
 clo:List Str
abbrev FnE:Type:=Option ((Str×Str×Arguments)×(FuncBody×Scope)×Addr×List Str×Addr)
def fnE(K:PySem.W.Frag) (a:Addr):FnE:=(K.lookup a).bind fun o=>match o.data with
 | .func d=>some ((d.name,d.qualname,d.params),(d.body,d.scope),d.globals,d.closure.map Prod.fst,d.builtins)
 |_=>none
def DefE.val(d:DefE):FnE:=some ((d.name,d.qual,d.params),(.stmts d.body,d.scope),mainGlobals,d.clo,builtinsNs)
def DefE.okB(K:PySem.W.Frag) (d:DefE):Bool:=(K.lookup (d.at_ K)).any fun o=>match o.data with
 | .func e=>PySem.W.keepIn K (.ref (d.at_ K))&&PySem.W.codeIn K e.code d.qual&&He.dflB K e.defaults []&&He.kwdB K e.kwdefaults []
 |_=>false
theorem DefE.ex{K:PySem.W.Frag}{d:DefE} (e:fnE K (d.at_ K)=d.val) (c:d.okB K=true):∃(oc:Value) (od:Option Addr) (osl:Array (Option Value)) (clo:List (Str×Addr)) (dV kV doc pm cdv ct:Value) (an:Option Addr),
  K.lookup (d.at_ K)=some ⟨oc,od,.func (PySem.W.fnX d.name d.qual d.params d.body d.scope clo dV kV doc pm an cdv ct),osl⟩∧clo.map Prod.fst=d.clo∧PySem.W.keepIn K (.ref (d.at_ K))=true∧PySem.W.codeIn K cdv d.qual=true∧DflV K dV []∧KwdV K kV []:=by
 unfold fnE at e;unfold DefE.okB at c;cases q:K.lookup (d.at_ K)with
 |none=>rw[q]at c;cases c
 |some o =>
  obtain⟨oc,od,dt,osl⟩:=o;rw[q]at c e;cases dt with
  |func fd =>
   obtain⟨n1,n2,n3,n4,n5,n6,n7,n8,n9,n10,n11,n12,n13,n14,n15⟩:=fd;have e2:(some ((n1,n2,n3),(n4,n5),n6,n7.map Prod.fst,n15):FnE)=some ((d.name,d.qual,d.params),(.stmts d.body,d.scope),mainGlobals,d.clo,builtinsNs):=e;simp only[Option.some.injEq,VY]at e2;obtain⟨⟨h1,h2,h3⟩,⟨h4,h5⟩,h6,h7,h8⟩:=e2;have c2:(PySem.W.keepIn K (.ref (d.at_ K))&&PySem.W.codeIn K n13 d.qual&&He.dflB K n8 []&&He.kwdB K n9 [])=true:=c;simp only[Js]at c2;obtain⟨⟨⟨k1,k2⟩,k3⟩,k4⟩:=c2;refine⟨oc,od,osl,n7,n8,n9,n10,n11,n13,n14,n12,?_,h7,k1,k2,He.dflB_ok k3,He.kwdB_ok k4⟩;subst h1 h2 h3 h4 h5 h6 h8;rfl
  |_=>cases c
structure SaysE (fa:List He.Fa) (fn:List He.DefD) (ts:List He.Tab) (tf:List He.Defn) (ex:PySem.W.Frag→Bool) (es:List DefE) (w:World) (h:Heap) (K:PySem.W.Frag):Prop where
 x:He.SaysX fa fn ts tf ex w h K
 e:es.map (fun d=>fnE K (d.at_ K))=es.map DefE.val
 ok:es.all (fun d=>d.okB K)=true
abbrev AlE:Type:=He.AlX×Bool×List FnE
def zPW(fn:List He.DefD) (ts:List He.Tab) (es:List DefE) (w:World):AlE:=(He.valX fn ts w,true,es.map DefE.val)
def oexD(C:Addr):Value→Data→List (Option Value)→Bool
 | .type "type",.cls cd,sl=>(match cd.mro,sl with
  | .ref c::bm,[_,_,_,_,some (.builtin n),_]=>decide (c=C)&&decide (n = "ValueError.__new__") && !cd.hasDel&&cd.hasDict&&PySem.HandSPX.refsVE bm
  |_,_=>false)
 |_,_,_=>false
def oexB(K:PySem.W.Frag) (C:Addr):Bool:=((K.lookup C).any fun o=>oexD C o.cls o.data o.slots.toList)&&He.eqO (PySem.W.findIn K (.ref C) "__setattr__") (some (some (.builtin "object.__setattr__")))&&decide (PySem.W.subIn K (.ref C) (.type "BaseException")=some true)&&decide (PySem.W.typeIn K (.ref C)=some (.type "type"))&&PySem.W.keepIn K (.ref C)
def zRj(C:Addr):Data→Bool
 | .cell (some (.ref c))=>decide (c=C)
 |_=>false
def strIs(z:Str):Option Value→Bool
 |some (.str y _)=>z==y
 |_=>false
def fileD(z:Str):Data→Bool
 | .fields vs=>strIs z vs[2]?
 |_=>false
def zO6(K:PySem.W.Frag) (cc C:Addr):Bool:=(K.lookup cc).any fun o=>zRj C o.data
def zOu(K:PySem.W.Frag) (a:Addr) (z:Str):Bool:=(K.lookup a).any fun o=>fileD z o.data
def cloOf(K:PySem.W.Frag) (f:Addr):Option (Addr×Addr):=(K.lookup f).bind fun o=>match o.data with
 | .func d=>(match d.closure,d.code with|[q],.ref a=>some (q.2,a)|_,_=>none)
 |_=>none
def excB(K:PySem.W.Frag) (x z:Str) (g:Option Str):Bool:=oexB K (He.ga K x)&&xfB K (He.ga K x)&&He.eqO (PySem.W.findIn K (.ref (He.ga K x)) "tag") (some none)&&(g.all fun f=>He.eqO (PySem.W.findIn K (.ref (He.ga K x)) f) (some none) && !(f==("tag" : Str))) &&
 He.eqO (PySem.W.findIn K (.ref (He.ga K x)) "__init__") (some (some (.ref (He.ma K (He.ga K x) "__init__"))))&&decide (PySem.W.typeIn K (.ref (He.ma K (He.ga K x) "__init__"))=some (.type "function")) &&
 ((cloOf K (He.ma K (He.ga K x) "__init__")).any fun q=>zO6 K q.1 (He.ga K x)&&zOu K q.2 z)&&He.eqO (PySem.W.ks_superIn K (He.ga K x) (He.ga K x) "__init__") (some (some (.builtin "ValueError.__init__"))) &&
 decide (PySem.W.mroIn K (He.ga K x) (.ref (He.ga K x))=some true)&&decide (PySem.W.subIn K (.ref (He.ga K x)) (.type "ValueError")=some true)&&He.eqO (PySem.W.nsIn K cStatics "thirdparty.any") (some none)
structure FileOf (P:Program) (z:Str):Prop where
 file:((P.main.file:Str)==z)=true
 top:(P.main.scope.names.lookup ("super" : Str)).isSome=false
end
section
open PySem.W (ksFn ksEnv)
def zBd(K:PySem.W.Frag) (C:Addr) (f:Str):Addr×Addr:=match PySem.W.findIn K (.ref C) f with
 |some (some (.ref p))=>(match PySem.W.recIn K p "property" with
  |some (.ref g::_)=>(p,g)
  |_=>(p,0))
 |_=>(0,0)
def zRx(K:PySem.W.Frag) (C:Addr) (f:Str):Bool:=He.eqO (PySem.W.findIn K (.ref C) f) (some (some (.ref (zBd K C f).1)))&&He.eqO (PySem.W.specialIn K (.ref (zBd K C f).1) "__get__") (some (some (.builtin "property.__get__")))&&decide (PySem.W.takesIn K (.ref (zBd K C f).1)=some true) &&
 ((PySem.W.recIn K (zBd K C f).1 "property").any fun l=>match l with | .ref g::_=>decide (g=(zBd K C f).2)|_=>false)
end
section
open PySem.W PySem.Calls HandSHeadRun
noncomputable section
def RunA(r:OpenRow) (q:Program) (M:Nat) (loose:List PySem.Str) (w:World):Prop :=
 ∀os:OsState,(endF (stepQ (denQ tabQ) r.prog w) M r.prog w os).map (fun s=>(looksF r.prog (boot_heap w.params) s.abs,seenQ q loose (importedModules r.prog.main.body) (fun s=>xlAt q [] s&&recOk r.toRowW.records s) s.abs))=some (true,openGood q loose)
def RunB(r:OpenRow) (H:Hook) (ob:SharedT→H.α) (M:Nat) (w:World):Prop :=
 ∀os:OsState,(endF (stepQ (denQ tabQ) r.prog w) M r.prog w os).map ob=some (H.val w)
theorem two3{α β γ δ:Type}{x:Option α}{f:α→β}{g:α→γ}{h:α→δ}{a:β}{b:γ}{c:δ} (h1:x.map (fun s=>(f s,g s))=some (a,b)) (h2:x.map h=some c):x.map (fun s=>(f s,g s,h s))=some (a,b,c):=by
 cases x with
 |none=>cases h1
 |some s =>
  simp only[VF,Option.some.injEq,VY]at h1 h2 ⊢;exact⟨h1.1,h1.2,h2⟩
theorem zOJ{r:OpenRow}{q:Program}{H:Hook}{ob:SharedT→H.α}{M:Nat}{loose:List PySem.Str}{w:World} (a:RunA r q M loose w) (b:RunB r H ob M w):RunEq r q H ob M loose w:=fun os=>two3 (a os) (b os)
end
end
def cmB(K:PySem.W.Frag) (C:Addr) (m:Str):Bool:=PySem.W.readsIn K C (.type "type")&&He.eqO (PySem.W.specialIn K (.ref C) "__getattribute__") (some (some (.builtin "type.__getattribute__"))) &&
 He5.wrapB K C "classmethod" "classmethod.__get__" m&&PySem.W.fnIn K (He5.wf K C "classmethod" m)
def zQP(K:PySem.W.Frag) (a:Addr) (kws:List (Str×V)):Bool:=match K.lookup a with
 |some ⟨_,_,.func fd,_⟩=>He.kwdB K fd.kwdefaults kws
 |_=>false
def z3:List NestedKey→List Addr→List Value→List (NestedKey×Addr×Value)
 |k::ks,a::as,v::vs=>(k,a,v)::z3 ks as vs
 |_,_,_=>[]
section
open GenW
inductive Pjk where
 |id|fst
end
section
open GenW
abbrev SpJ:=Pjk→List V→Hp→(List V→Hp→Prop)→XK→Prop
end
section
open PySem.W PySem.Calls HandSHeadRun
noncomputable section
def RunH{γ:Type} (r:OpenRow) (M:Nat) (w:World) (h:SharedT→γ) (c:γ):Prop:=∀os:OsState,(endF (stepQ (denQ tabQ) r.prog w) M r.prog w os).map h=some c
def zOI(ts:List He.Tab) (es:List DefE) (w:World):(List (Option (List (Option (PySem.Str×Int))))×Bool)×(Bool×List FnE):=((ts.map fun t=>some (He.keysIn w.params t.2),true),true,es.map DefE.val)
variable {r:OpenRow}{M n:Nat}{w:World}{fa fb:List He.Fa}{fn fm:List He.DefD}{ts:List He.Tab}{tf:List He.Defn}{ex:PySem.W.Frag→Bool}{es:List DefE}
theorem two2{α β γ:Type}{x:Option α}{f:α→β}{g:α→γ}{a:β}{b:γ} (h1:x.map f=some a) (h2:x.map g=some b):∃s,x=some s∧f s=a∧g s=b:=by
 cases x with
 |none=>cases h1
 |some s=>exact⟨s,rfl,Jk h1,Jk h2⟩
end
end
end Y
namespace NS
def ask(m:Nat) (h:Int) (c:Nat):SetTable.Probe:=nth m (runAt m (SetTable.bits h%(m+1)) (SetTable.bits h)) c
abbrev Lk:=List (NestedKey×Addr)
end NS
namespace Y
open GenW
inductive LR where
 |ok (f:Fl) (σ:Sg) (st:List Cell) (ys:List P)|no (ys:List P)
abbrev LMn:=Sg→List Cell→List P→LR
def LR.ys:LR→List P
 | .ok _ _ _ ys=>ys
 | .no ys=>ys
def Mono(m:LMn):Prop:=∀σ st ys,ys <+: (m σ st ys).ys
structure Gf where
 P:Program
 w:World
 K:PySem.W.Frag
 mg:Str→Option Value
 base:Heap
 cl:Cls
 N:List Str
 qual:Str
 scope:Scope
 f:Addr
 cd:Value
 A:Around
 outer:List Env
 n0:Nat
abbrev Gf.env(g:Gf):Env:=envOfC g.qual g.scope g.n0 g.f g.cd
structure Ix where
 s0:Shared
 H0:Hp
 pn:List (Addr×Obj)
 E0:En
 ρ0:List Addr
 i:Nat
def Gf.X(g:Gf) (x:Ix):Cx:=gcxOf g.P g.w g.K g.mg g.base g.N g.qual g.scope g.f g.cd g.A g.outer x.s0 x.H0 (fun _ _ _=>False) x.pn
def Gf.Ok(g:Gf) (x:Ix):Prop:=x.s0.heap.objs.size=g.n0
section
variable {g:Gf}{x x2:Ix}
theorem Gf.AX(h:g.Ok x):(g.X x).A=g.A.deeper g.env:=by
 show g.A.deeper (envOfC g.qual g.scope x.s0.heap.objs.size g.f g.cd)=_;rw[h]
end
structure Game where
 Wk:Shared→Ix→Prop
 yf:List P
 Bud:Nat
 fin:Bool
def GSt(g:Gf) (x:Ix) (ρ:List Addr) (G:Hp) (st:List Cell) (τ:L2.St) (H:Hp) (s:Shared):Prop :=
 g.Ok x∧(bs g.K g.cl x.E0).Rel ρ G st H∧Inv (g.X x) [] τ H s∧Sub x.E0.G0 G∧x.ρ0 <+: ρ
def Bd(W:Game) (n c:Nat):Prop:=n+c=W.Bud∧1≤n
def YP(g:Gf) (W:Game):Protocol:=fun n s₀ v s kap =>
 ∃x ρ G σ st τ H z xv,W.Wk s₀ x∧GSt g x ρ G st τ H s∧RS g.K g.cl ρ G σ τ∧RelV xv v∧RP g.K g.cl G z xv∧W.yf[x.i]?=some z∧n+1+x.i=W.Bud ∧
  (1≤n→∀s2 x2 G2 H2,W.Wk s2 x2→x2.i=x.i+1→GSt g x2 ρ G2 st τ H2 s2→RS g.K g.cl ρ G2 σ τ→kap (.send .none) s2)
def RE(g:Gf) (W:Game):GenEnd:=fun n s₀ r s =>
 ((r=.ok (.ret .none)∨r=.ok .next)∧∃x ρ G st τ H,W.Wk s₀ x∧GSt g x ρ G st τ H s∧x.i=W.yf.length∧W.fin=true∧n+x.i=W.Bud)∨∃e,r=.error e∧False
structure JCL (g:Gf) (c:Code) (fs:List Frame) (gd:Bool→Bool):Prop where
 over:g.A.over c fs=g.A.deeper g.env
 split:splitAtGen fs=none
 guard:fs.any Frame.guarded=false
 gd:gd false=false
def FlR(g:Gf) (ρ:List Addr) (G:Hp) (σ:Sg) (τ:L2.St):Fl→Flow→Prop
 | .nx,fl=>fl=.next∧RS g.K g.cl ρ G σ τ
 | .bk,fl=>fl=.brk∧RS g.K g.cl ρ G σ τ
 | .ct,fl=>fl=.cont∧RS g.K g.cl ρ G σ τ
 | .rt w,fl=>∃v u,RW g.K g.cl ρ G w v∧RelV v u∧fl=.ret u
def Acc(g:Gf) (W:Game) (c:Code) (fs:List Frame) (k:Flow→Sem PySem.Fin):LR→Prop
 | .ok f σ st ys=>ys <+: W.yf∧∀n s₀ s x ρ G τ H fl,Bd W n ys.length→x.i=ys.length→W.Wk s₀ x→GSt g x ρ G st τ H s→FlR g ρ G σ τ f fl→Seg (model g.P g.w) g.A (RE g W) (YP g W) n s₀ c (k fl) fs s
 | .no ys=>ys <+: W.yf∧W.Bud≤ys.length
theorem Acc.pre{g:Gf}{W:Game}{c:Code}{fs:List Frame}{k:Flow→Sem PySem.Fin}{r:LR} (h:Acc g W c fs k r):r.ys <+: W.yf:=by
 cases r<;>exact h.1
def JX(g:Gf) (W:Game) (c:Code) (fs:List Frame) (j:Value→Sem PySem.Fin):Prop :=
 ∀n s₀ e s x,g.Ok x→(g.X x).xe e s→Seg (model g.P g.w) g.A (RE g W) (YP g W) n s₀ c (j e) fs s
def TL(g:Gf) (m:LMn) (t:(Flow→Sem PySem.Fin)→(Value→Sem PySem.Fin)→(Bool→Bool)→(List Value→List Value)→Sem PySem.Fin):Prop :=
 ∀(W:Game) (n:Nat) (s₀ s:Shared) (c:Code) (fs:List Frame) (k:Flow→Sem PySem.Fin) (j:Value→Sem PySem.Fin) (gd:Bool→Bool) (lv:List Value→List Value) (x:Ix) (ρ:List Addr) (G:Hp) (σ:Sg) (st:List Cell) (ys:List P) (τ:L2.St) (H:Hp),
  JCL g c fs gd→Bd W n ys.length→x.i=ys.length→W.Wk s₀ x→GSt g x ρ G st τ H s→RS g.K g.cl ρ G σ τ→Acc g W c fs k (m σ st ys)→JX g W c fs j→Seg (model g.P g.w) g.A (RE g W) (YP g W) n s₀ c (t k j gd lv) fs s
structure YLs (g:Gf) (m:LMn) (e:List Stmt):Prop where
 mono:Mono m
 run:TL g m fun k j gd lv=>(execs e g.env).wrap k j gd lv
abbrev WN:WX:=WE (fun _ _ _=>False)
def cut(h:Heap) (n:Nat):Heap:=⟨h.objs.extract 0 n,h.life⟩
def Gf.own(g:Gf):List Addr:=g.n0::(g.env.cells.map (·.1)).filterMap fun y=>g.env.cells.lookup y
theorem Gf.own_of{g:Gf}{a:Addr} (h:a∈g.own):a=g.n0∨∃y,g.env.cells.lookup y=some a:=by
 rcases Jo.mp h with e|e
 ·exact .inl e
 ·obtain⟨y,_,e⟩:=List.mem_filterMap.mp e;exact .inr ⟨y,e⟩
def AccE(W:Game):LR→Prop
 | .ok .nx _ _ ys=>ys=W.yf∧W.fin=true
 | .ok (.rt (.p .non)) _ _ ys=>ys=W.yf∧W.fin=true
 | .no ys=>ys=W.yf∧W.Bud≤ys.length
 |_=>False
abbrev sgN(ws:List W) (np N:Nat):Sg:=ws.map some++List.replicate (N-np) none
def MadeL(P:Program) (w:World) (K:PySem.W.Frag) (mg:Str→Option Value) (base:Heap) (cl:Cls) (k:Nat) (outer:List Env) (H:Hp) (s:Shared) (m:LMn) (np Nn:Nat) (vs:List V) (u:Value) (s':Shared):Prop :=
 ∃(a:Addr) (go:Obj) (gi:Nat) (c:Code) (N:List Str) (qual:Str) (scope:Scope) (f:Addr) (cd:Value),u=.ref a∧s.heap.objs.size≤a∧s'.heap.get? a=some go∧(∀v,go.data≠.cell v)∧(∀h:Heap,h.get? a=some go→h.IsGen a gi) ∧
  s'.gens[gi]?=some (.fresh c)∧s'.os=s.os∧AllBare s'.gens∧s'.heap.NoLimit∧(∀b o,s.heap.get? b=some o→s'.heap.get? b=some o) ∧
  ∀A,Room k A→A.frames=some outer→∀g:Gf,g=⟨P,w,K,mg,base,cl,N,qual,scope,f,cd,A,outer,s.heap.objs.size⟩ →
   (∀b∈g.own,s.heap.objs.size≤b∧b≠a∧∃o,s'.heap.get? b=some o)∧(∃x0 τ0,g.Ok x0∧Inv (g.X x0) [] τ0 H s'∧(∀ws G,ws.length=np→RPs K cl G ws vs→RS K cl [] G (sgN (ws.map W.p) np Nn) τ0) ∧
   ∀(W:Game) (s2:Shared) (x:Ix) (G H2:Hp) (σ0:Sg),W.Wk s2 x→x.i=0→1≤W.Bud→GSt g x [] G [] τ0 H2 s2→RS K cl [] G σ0 τ0→AccE W (m σ0 [] [])→Seg (model P w) A (RE g W) (YP g W) W.Bud s2 c ((model P w).den c) [] s2)
structure GenL (P:Program) (w:World) (K:PySem.W.Frag) (mg:Str→Option Value) (base:Heap) (cl:Cls) (k:Nat) (f:Addr) (fd:FuncData) (ps:List Str) (Nn:Nat) (m:LMn):Prop where
 run:∀(A:Around) (outer:List Env) (s:Shared) (H:Hp) (args:Args) (us:List Value) (vs:List V),Room k A→Env0 P w K mg base A outer s H→BindsTo s fd args (ps.zip us)→Vals vs us→vs.length=ps.length →
  codeAny (model P w) A (.call (.ref f) args) (fun r s'=>match r with | .ok (.ret u)=>MadeL P w K mg base cl k outer H s m ps.length Nn vs u s'|_=>False) s
theorem zPZ{K:PySem.W.Frag}{cl:Cls}{G:Hp}{ws:List P}{vs:List V}{np:Nat}{N:List Str} (hl:ws.length=np) (hN:np≤N.length) (r:RPs K cl G ws vs):RS K cl [] G (sgN (ws.map W.p) np N.length) (L2.start N vs):=by
 have lv:=r.length;unfold L2.start sgN;refine⟨by simp[hl,←lv],fun i w' e=>?_⟩
 rcases zDT e with⟨h1,h2⟩|⟨h1,h2⟩
 ·rw[Jc,Jc]at h1;rw[Jd]at h2;cases q:(ws.map W.p)[i]? with
  |none=>rw[q]at h2;cases h2
  |some u =>
   rw[q]at h2;have h2:some (some u)=some (some w'):=h2;cases h2;obtain⟨v,ev,rv⟩:=(RWs.of_pures (ρ:=[]) r).get q;refine⟨v,?_,rv⟩;rw[Je (by rw[Jc,←lv];exact h1),Jd,ev];rfl
 ·rw[VO]at h2;split at h2<;>cases h2
theorem zSE{P:Program}{w:World}{K:PySem.W.Frag}{mg:Str→Option Value}{base:Heap}{cl:Cls}{k:Nat}{f:Addr}{name qual:Str}{params:Arguments}{body:List Stmt}{scope:Scope}{dV kV doc pm cdv ct oc:Value}{an od:Option Addr}
  {osl:Array (Option Value)}{N ps:List Str}{m:LMn} (lk:K.lookup f=some ⟨oc,od,.func (PySem.W.fnOf name qual params body scope dV kV doc pm an cdv ct),osl⟩) (hcd:PySem.W.codeIn K cdv qual=true) (S:GScope N ps scope)
  (hbody:∀(A:Around) (outer:List Env) (n0:Nat),Room k (A.deeper (envOfC qual scope n0 f cdv))→YLs ⟨P,w,K,mg,base,cl,N,qual,scope,f,cdv,A,outer,n0⟩ m body) :
  GenL P w K mg base cl (k+1) f (PySem.W.fnOf name qual params body scope dV kV doc pm an cdv ct) ps N.length m:=by
 refine⟨fun A outer s H args us vs hr e0 hb r hl=>?_⟩
 have KX:K.In s.heap:=e0.mod.kin.keeps fun b o e=>(e0.bs b o e).1
 have lim:s.heap.NoLimit:=e0.mod.nolimit.keeps fun b o e=>(e0.bs b o e).1
 have kinds:∀y∈ps.zip us,scope.names.lookup y.1=some .local∨(scope.names.lookup y.1=some .cell∧((cellsFrom (s.heap.objs.size+1) scope.names []).lookup y.1).isSome=true):=fun⟨n,v⟩ hy =>
  (S.par n (bS hy).1).elim .inl fun q=>.inr ⟨q,PySem.W.cellsFrom_some _ _ _ (.inl q)⟩
 refine codeAny_call_generator hr.depth (KX _ _ lk) rfl S.co S.gen rfl (PySem.W.codeRec_of KX hcd) (hb _ _ _ _ ?_);refine wpAny_newFunctionEnv_cells S.kind kinds fun env he s1 x=>?_
 subst he;have lim1:s1.heap.NoLimit:=lim.keeps x.toInCall.keep;refine⟨lim1,?_⟩;obtain⟨h1,tk,es1,_⟩:=x.done;have os1:s1.os=s.os:=by rw[es1]
 have gen1:s1.gens=s.gens:=by rw[es1]
 have lt1:s.heap.objs.size<s1.heap.objs.size:=x.toInCall.ns.lt;have kp1:∀b o,s.heap.get? b=some o→s1.heap.get? b=some o:=x.toInCall.keep;generalize hL:s1.heap.objs.size=L at lt1
 have main:∀(go:Obj) (nm qn:Value) (tk2:Nat),go.cls=.type "generator" → go.data=.fields #[.int s1.gens.size 0,nm,qn]→go.slots = #[]→(∀h:Heap,(h.push go).get? h.objs.size=some go) →
   MadeL P w K mg base cl (k+1) outer H s m ps.length N.length vs (.ref L) { s1 with gens:=s1.gens.push (.fresh (.func body (envOfC qual scope s.heap.objs.size f cdv))),toks:=tk2,heap:=s1.heap.push go }:=by
  intro go nm qn tk2 hgc hgd0 hgs hgp;have isg:∀h:Heap,h.get? L=some go→h.IsGen L s1.gens.size:=fun h e=>⟨go,nm,qn,e,hgc,hgd0,hgs⟩
  have pushed:(s1.heap.push go).get? L=some go:=by rw[←hL];exact hgp _
  have ab:AllBare (s1.gens.push (.fresh (.func body (envOfC qual scope s.heap.objs.size f cdv)))):=AllBare.push (by rw[gen1];exact e0.bare) rfl
  refine⟨L,go,s1.gens.size,_,N,qual,scope,f,cdv,rfl,∅,pushed,(fun v q=>by rw[hgd0]at q;cases q),isg,Array.getElem?_push_size ..,os1,ab,lim1.keeps fun b o e=>Jn _ e,fun b o e=>Jn _ (kp1 b o e),?_⟩
  intro Aw hrw hfr g hg;have e0w:Env0 P w K mg base Aw outer s H:=⟨hfr,e0.mod,e0.bs,e0.bsz,e0.funs,e0.frf,e0.hok,e0.bare⟩;have I1:Inv (gcxOf P w K mg base N qual scope f cdv Aw outer s H (fun _ _ _=>False) []) [] (L2.start N vs) H s1:=inv_startG S hrw.hd e0w hl r x
  have I2:Inv (gcxOf P w K mg base N qual scope f cdv Aw outer s H (fun _ _ _=>False) []) [] (L2.start N vs) H { s1 with gens:=s1.gens.push (.fresh (.func body (envOfC qual scope s.heap.objs.size f cdv))),toks:=tk2,heap:=s1.heap.push go } :=
   I1.call' (ch:=[]) rfl (Un.kept fun b o e=>Jn _ e) (I1.hok.kept fun b o e=>Jn _ e) ab fun b z=>by simp at z
  have hln:ps.length≤N.length:=by have:=congrArg List.length S.pre;rw[Vy]at this;omega
  refine⟨fun b hb=>?_,⟨s,H,[],⟨H,0,H⟩,[],0⟩,L2.start N vs,by rw[hg];rfl,by rw[hg];exact I2,fun ws G hw hr2=>zPZ hw hln hr2,?_⟩
  ·have lt_L:∀o,s1.heap.get? b=some o→b<L:=fun o e=>by rw[←hL];exact JP e
   rcases Gf.own_of hb with e|⟨y,e⟩
   ·rw[hg]at e;have e:b=s.heap.objs.size:=e;obtain⟨o,_,_,ho,_⟩:=x.toInCall.ns;rw[e];exact⟨JH _,Vd lt1,o,Jn _ ho⟩
   ·rw[hg]at e;have e':(gcxOf P w K mg base N qual scope f cdv Aw outer s H (fun _ _ _=>False) []).env.cells.lookup y=some b:=e
    obtain⟨v,ob,ho,_⟩:=I1.cell y b e';exact⟨I1.ok.cab y b rfl e',Vd (lt_L ob ho),ob,Jn _ ho⟩
  intro W s2 xx G H2 σ0 hw hi hbud hgs S0 acc;have ht:=hbody Aw outer s.heap.objs.size (hrw.deeper _);rw[←hg]at ht;have ev:g.env=envOfC qual scope s.heap.objs.size f cdv:=by rw[hg]
  have gP:g.P=P:=by rw[hg]
  have gw:g.w=w:=by rw[hg]
  have gA:g.A=Aw:=by rw[hg]
  have key:=ht.run W W.Bud s2 s2 (.func body (envOfC qual scope s.heap.objs.size f cdv)) [] (fun f=>.pure (.done (.ret (match f with | .ret v=>v|_=>.none)))) (fun e=>(leaving (envOfC qual scope s.heap.objs.size f cdv) e).wrap (fun _=>.raise e) .raise id id) id id
   xx [] G σ0 [] [] _ H2 ⟨by rw[gA,ev];exact over_func,rfl,rfl,rfl⟩ ⟨Nat.add_zero _,hbud⟩ hi hw hgs (by rw[hg];exact S0) ?_ ?_
  ·refine seg_func ?_
   rw[gP,gw,gA,ev]at key;exact key
  ·generalize m σ0 [] []=r at acc;cases r with
   |no ys=>exact⟨by rw[acc.1];exact Jh _,acc.2⟩
   |ok fl σ st ys =>
    cases fl with
    |nx =>
     refine⟨by rw[acc.1];exact Jh _,fun n s₀ s3 x' ρ' G' τ' H' fl hn hi' hw' hg' hf=>?_⟩
     obtain⟨rfl,_⟩:=hf;exact seg_end (.ok (.ret .none)) (.inl ⟨.inl rfl,x',ρ',G',st,τ',H',hw',hg',by rw[hi',acc.1],acc.2,by rw[hi'];exact hn.1⟩)
    |rt u =>
     cases u with
     |r i=>exact acc.elim
     |p y =>
      cases y with
      |non =>
       refine⟨by rw[acc.1];exact Jh _,fun n s₀ s3 x' ρ' G' τ' H' fl hn hi' hw' hg' hf=>?_⟩
       obtain⟨v,u,hv,hr,rfl⟩:=hf;cases hv;have eu:u=Value.none:=hr;subst eu;exact seg_end (.ok (.ret .none)) (.inl ⟨.inl rfl,x',ρ',G',st,τ',H',hw',hg',by rw[hi',acc.1],acc.2,by rw[hi'];exact hn.1⟩)
      |_=>exact acc.elim
    |bk=>exact acc.elim
    |ct=>exact acc.elim
  ·intro n s₀ e s3 x' hok hx;refine seg_wrap ?_
   have hx:wpAny (model g.P g.w) (g.A.deeper (envOfC g.qual g.scope x'.s0.heap.objs.size g.f g.cd)) (leaving (envOfC g.qual g.scope x'.s0.heap.objs.size g.f g.cd) e) (fun _ s''=>CX g.P g.w g.outer x'.H0 x'.s0 (fun _ _ _=>False) e s''∧∀p∈x'.pn,s''.heap.get? p.1=some p.2) (fun _ _=>False) s3:=hx
   have hok:x'.s0.heap.objs.size=g.n0:=hok;rw[hok]at hx;have ev2:envOfC g.qual g.scope g.n0 g.f g.cd=envOfC qual scope s.heap.objs.size f cdv:=ev;rw[ev2]at hx;rw[over_func];refine b8 hx ?_ ?_
   ·intro _ s4 q;obtain⟨⟨_,_,_,_,_,_,_,_,_,_,_,_,q⟩,_⟩:=q;exact q.elim
   ·exact fun _ s4 q=>q.elim
 exact hL▸main _ _ _ _ rfl rfl rfl fun h=>JK _ rfl
structure Lk (P:Program) (w:World) (K:PySem.W.Frag) (mg:Str→Option Value) (base:Heap) (cl:Cls) (k:Nat) (f:Addr) (ps:List Str) (Nn:Nat) (m:LMn):Prop where
 ex:∃fd,GenL P w K mg base cl k f fd ps Nn m∧Binds K fd ps []
 kp:PySem.W.keepIn K (.ref f)=true
structure FXL (k:Nat) (g:Gf):Prop where
 gx:∀x,g.Ok x→GX g.K (g.X x)
 tk:∀x,g.Ok x→Takes (g.X x) WN
 own:∀x,g.Ok x→PassesOwn (model (g.X x).prog (g.X x).w) (g.X x).A (g.X x).env (g.X x).xe
 rm:∀x,g.Ok x→Room k (g.X x).A
section
variable {K:PySem.W.Frag}{cl:Cls}
theorem Lk.of{P:Program}{w:World}{mg:Str→Option Value}{base:Heap}{N ps:List Str}{x qual:Str}{params:Arguments}{body:List Stmt}{scope:Scope}{f:Addr}{k:Nat}{m:LMn}
  (F:∃fd,FunD K x qual params body scope [] [] f fd) (S:GScope N ps scope) (bd:∀(kV doc pm:Value) (an:Option Addr) (cdv ct:Value) (us:List Value),us.length=ps.length→bindArgs (PySem.W.fnOf x qual params body scope .none kV doc pm an cdv ct) ⟨us,[]⟩=pure (ps.zip us))
  (hb:∀(cd:Value) (A:Around) (outer:List Env) (n0:Nat),FXL k ⟨P,w,K,mg,base,cl,N,qual,scope,f,cd,A,outer,n0⟩→YLs ⟨P,w,K,mg,base,cl,N,qual,scope,f,cd,A,outer,n0⟩ m body) :
  Lk P w K mg base cl (k+1) f ps N.length m:=by
 obtain⟨fd,F⟩:=F;refine⟨⟨fd,?_,F.bindsN bd⟩,F.kp⟩;obtain⟨oc,od,dV,kV,doc,pm,an,cdv,ct,osl,rfl,lk,hcd,_,_⟩:=F.ex;refine zSE lk hcd S fun A outer n0 hr=>hb cdv A outer n0 ⟨fun y hy=>?_,fun y hy=>takes_gcx,fun y hy=>owns_gcx,fun y hy=>?_⟩
 ·have eA:=Gf.AX hy;refine⟨rfl,rfl,S.nd,?_,?_⟩
  ·rw[eA]
   have:=hr.un
   show(A.deeper (envOfC qual scope n0 f cdv)).units+65<cLine;omega
  ·rw[eA];exact hr.hd
 ·rw[Gf.AX hy];exact hr
end
section
variable {K:PySem.W.Frag}{cl:Cls}{E0 E1:En}{ρ ρg ρg' ρ':List Addr}{G G':Hp}{st stg stg' st':List Cell}{H H':Hp}
def Dsj(E0:En) (ρ ρg:List Addr):Prop:=∀b∈ρg,(∀j:Nat,ρ[j]?≠some b)∧E0.H0 b=none
def trk(H:Hp) (L:List Addr) (h:Heap):Hp:=fun b=>if b∈L then(h.get? b).map (exq b)else H b
theorem trk_in{L:List Addr}{h:Heap}{b:Addr} (m:b∈L){o:Obj} (e:h.get? b=some o):trk H L h b=some (exq b o):=by
 unfold trk;rw[JW m,e];rfl
theorem zNf{L:List Addr}{h:Heap}{b:Addr} (m:b∉L):trk H L h b=H b:=Vh m
def zRm(E0:En) (Hb:Hp) (L ρg:List Addr) (G:Hp):En:=⟨fun b=>if b∈L++ρg then Hb b else E0.H0 b,E0.n0,G⟩
theorem Rel.body{L:List Addr}{h:Heap} (R:Rel K cl E0 ρ G st H) (Rg:Rel K cl E1 ρg G stg H) (d:Dsj E0 ρ ρg) (hL:∀b∈L,H b=none∧∃o,h.get? b=some o):Rel K cl (zRm E0 (trk H L h) L ρg G) ρ G st (trk H L h):=by
 have off:∀a u,H a=some u→a∉L:=fun a u e m=>by rw[(hL a m).1]at e;cases e
 have up:∀a u,H a=some u→trk H L h a=some u:=fun a u e=>by rw[zNf (off a u e)];exact e
 have at_:∀(i:Nat) a,ρ[i]?=some a→a∉L++ρg:=fun i a e m=>by
  rcases JI.mp m with m|m
  ·obtain⟨o,q⟩:=R.there e;exact off a o q m
  ·exact(d a m).1 i e
 have hin:∀a,a∈L++ρg→(zRm E0 (trk H L h) L ρg G).H0 a=trk H L h a:=fun a m=>JW m
 have hout:∀a,a∉L++ρg→(zRm E0 (trk H L h) L ρg G).H0 a=E0.H0 a:=fun a m=>Vh m
 refine⟨R.len,R.nd,fun i c a e1 e2=>?_,R.sep,fun a u e=>up a u (R.sub a u e),fun a u e q=>?_,fun i a hi e=>?_,R.n0,fun a o e=>.inl e,fun a u e=>?_,R.gnt,fun q hq=>(R.tabs q hq).ext up⟩
 ·obtain⟨o,q⟩:=R.there e2;exact(R.cell i c a e1 e2).mono (Jh _) (Sub.refl _) ((up a o q).trans q.symm)
 ·by_cases m:a∈L++ρg
  ·rw[hin a m]at e;exact e
  ·rw[hout a m]at e;exact up a u (R.old a u e q)
 ·rw[hout a (at_ i a e)];exact R.new i a hi e
 ·by_cases m:a∈L++ρg
  ·rw[hin a m]at e
   by_cases m2:a∈L
   ·obtain⟨o,q⟩:=(hL a m2).2;rw[trk_in m2 q]at e;cases e;exact fun ps z=>nomatch z
   ·rw[zNf m2]at e;have m3:a∈ρg:=(JI.mp m).resolve_left m2;obtain⟨j,hj⟩:=JF m3;intro ps z;subst z;exact(Rg.tblF e).1 j hj
  ·rw[hout a m]at e;exact R.ent a u e
end
structure Lp where
 K:PySem.W.Frag
 cl:Cls
 X:Cx
 Wx:WX
 E0:En
 pins:List (Addr×Obj)
 ρ1:List Addr
 G1:Hp
 kont:Nat→Sg→List Cell→SR
 D:Ends
 g:Gf
 a:Addr
 go:Obj
 gi:Nat
 xs:List Addr
 yf:List P
 fin:Bool
section
open GenW GT
section
variable {L:Lp}{i:Nat}{ρ ρg:List Addr}{G H:Hp}{σ σg:Sg}{st stg:List Cell}{τ τg:L2.St}{gs:GenState}{s:Shared}
def Lp.obs(L:Lp):List Addr:=L.a::(L.g.own++L.xs)
end
end
section
open PySem.W PySem.Calls HandSHeadRun
noncomputable section
variable {fa fb:List He.Fa}{fn fm:List He.DefD}{ts:List He.Tab}{tf:List He.Defn}{ex:PySem.W.Frag→Bool}{es:List DefE}
theorem zOZ{as:List Addr}{w:World}{h:Heap}
  (e:((fun K:PySem.W.Frag=>(((He.obsT fa fn ts K,ex K&&He.tabsB h.get? tf K),(es.all fun d=>d.okB K),es.map fun d=>fnE K (d.at_ K)):AlE)) (He.frT h.get? as))=zPW fn ts es w):SaysE fa fn ts tf ex es w h (He.frT h.get? as):=by
 generalize hK:He.frT h.get? as=K at *
 have e1:He.obsT fa fn ts K=He.valT fn ts w:=congrArg (fun z:AlE=>z.1.1) e
 have e2:(ex K&&He.tabsB h.get? tf K)=true:=congrArg (fun z:AlE=>z.1.2) e
 have e3:(es.all fun d=>d.okB K)=true:=congrArg (fun z:AlE=>z.2.1) e
 have e4:(es.map fun d=>fnE K (d.at_ K))=es.map DefE.val:=congrArg (fun z:AlE=>z.2.2) e
 rw[Js]at e2
 have key:∀p∈tf,PySem.W.codeHdIn K (He.cT K p).1 (He.cT K p).2=true∧∃o,h.get? (He.cT K p).2=some o∧He.emptyTab o=true:=fun p hp=>by
  have z:=Jp.mp e2.2 p hp;rw[Js]at z;refine⟨z.1,?_⟩;have z2:=z.2;cases q:h.get? (He.cT K p).2 with
  |none=>rw[q]at z2;cases z2
  |some o=>rw[q]at z2;exact⟨o,rfl,z2⟩
 refine⟨⟨e1,e2.1,fun p hp=>(key p hp).1,fun p hp=>?_,fun p hp=>?_⟩,e4,e3⟩
 ·obtain⟨_,o,q,z⟩:=key p hp
  have:=He.frT_none (as:=as) q z
  rw[hK]at this;exact this
 ·obtain⟨_,o,q,z⟩:=key p hp;rw[q,He.emptyTab_eq z]
def refV:Value→List Addr
 | .ref a=>[a]
 |_=>[]
def refO(o:Obj):List Addr:=match o.data with
 | .func e=>refV e.code++(refV e.defaults++(refV e.kwdefaults++e.closure.map (·.2)))
 | .cls c=>[c.ns]
 | .dict es _=>es.toList.flatMap fun e=>refV e.val
 | .seq xs _=>xs.toList.flatMap refV
 | .fields vs=>(match o.cls with
  | .type "code" => []
  | .none=>[]
  |_=>vs.toList.flatMap refV)
 | .cell v=>(match v with
  |some v=>refV v
  |none=>[])
 | .prim v=>refV v
 |_=>[]
def lvlR(g:Addr→Option Obj) (l:List Addr):List Addr:=l.flatMap fun a=>match g a with
 |some o=>refO o
 |none=>[]
def upR(g:Addr→Option Obj):Nat→List Addr→List Addr
 |0,l=>l
 |n+1,l=>l++upR g n (lvlR g l)
def asR(g:Addr→Option Obj):List Addr:=cStatics::upR g 5 [mainGlobals]
def frR(g:Addr→Option Obj):PySem.W.Frag:=He.frT g (asR g)
def obsR(fa:List He.Fa) (fn:List He.DefD) (ts:List He.Tab) (tf:List He.Defn) (ex:PySem.W.Frag→Bool) (es:List DefE) (g:Addr→Option Obj):AlE :=
 (fun K:PySem.W.Frag=>(((He.obsT fa fn ts K,ex K&&He.tabsB g tf K),(es.all fun d=>d.okB K),es.map fun d=>fnE K (d.at_ K)):AlE)) (frR g)
def zRi(fa:List He.Fa) (fn:List He.DefD) (ts:List He.Tab) (tf:List He.Defn) (ex:PySem.W.Frag→Bool) (es:List DefE):PySem.W.Hook where
 α:=AlE
 obs:=fun s=>obsR fa fn ts tf ex es s.heap.get?
 val:=fun w=>zPW fn ts es w
 says:=fun w h=>∃K:PySem.W.Frag,K.In h∧SaysE fa fn ts tf ex es w h K
 of:=fun _ _ e=>⟨_,He.frT_in,zOZ e⟩
 keeps:=fun _ _ _ ⟨K,hK,c⟩ k=>⟨K,PySem.W.Frag.In.keeps hK k,⟨⟨c.x.t,c.x.more,c.x.hd,c.x.out,fun p hp=>k _ _ (c.x.empty p hp)⟩,c.e,c.ok⟩⟩
def obR(fa:List He.Fa) (fn:List He.DefD) (ts:List He.Tab) (tf:List He.Defn) (ex:PySem.W.Frag→Bool) (es:List DefE) (s:PySem.W.SharedT):AlE:=obsR fa fn ts tf ex es (getT s)
theorem obR_eq(s:PySem.W.SharedT):obR fa fn ts tf ex es s=(zRi fa fn ts tf ex es).obs s.abs:=by
 have e:getT s=s.abs.heap.get?:=funext (getT_eq s);show obsR fa fn ts tf ex es (getT s)=obsR fa fn ts tf ex es s.abs.heap.get?;rw[e]
def hFaR(fa:List He.Fa) (s:PySem.W.SharedT):Bool:=(fun K:PySem.W.Frag=>fa.all fun f=>f.ok K) (frR (getT s))
def hFnR(fn:List He.DefD) (s:PySem.W.SharedT):He.AlD:=(fun K:PySem.W.Frag=>(fn.all fun d=>d.ok K,fn.map fun d=>He.fnW K d.at_)) (frR (getT s))
def zJF(ts:List He.Tab) (tf:List He.Defn) (ex:PySem.W.Frag→Bool) (es:List DefE) (s:PySem.W.SharedT):(List (Option (List (Option (PySem.Str×Int))))×Bool)×(Bool×List FnE) :=
 (fun K:PySem.W.Frag=>((ts.map fun t=>He.dicW K (t.1 K),ex K&&He.tabsB (getT s) tf K),(es.all fun d=>d.okB K),es.map fun d=>fnE K (d.at_ K))) (frR (getT s))
variable {r:OpenRow}{M:Nat}{w:World}
theorem run_fnR(a:RunH r M w (hFnR fn) (He.valD fn)) (b:RunH r M w (hFnR fm) (He.valD fm)):RunH r M w (hFnR (fn++fm)) (He.valD (fn++fm)):=fun os=>by
 obtain⟨s,e,h1,h2⟩:=two2 (a os) (b os);rw[e];unfold hFnR He.valD at *
 show some _=_
 congr 1
 simp only[VY]at *
 exact⟨by rw[List.all_append,h1.1,h2.1];rfl,by rw[JE,JE,h1.2,h2.2]⟩
theorem zHT(a:RunH r M w (hFaR fa) true) (b:RunH r M w (hFnR fn) (He.valD fn)) (c:RunH r M w (zJF ts tf ex es) (zOI ts es w)):RunB r (zRi fa fn ts tf ex es) (obR fa fn ts tf ex es) M w:=fun os=>by
 obtain⟨s,e,h1,h2⟩:=two2 (a os) (b os);have h3:=c os;rw[e]at h3 ⊢;have h3:zJF ts tf ex es s=zOI ts es w:=Jk h3;show some (obR fa fn ts tf ex es s)=some (zPW fn ts es w)
 congr 1
 unfold hFaR at h1;dsimp only at h1;unfold hFnR He.valD at h2;unfold zJF zOI at h3;unfold obR obsR zPW He.valX He.valT He.valD He.obsT He.obsD;simp only[VY]at h2 h3 ⊢;obtain⟨⟨h4,h5⟩,h6,h7⟩:=h3;exact⟨⟨⟨⟨by rw[h1,h2.1];rfl,h2.2⟩,h4⟩,h5⟩,h6,h7⟩
end
end
theorem rm{j k:Nat}{A:Around} (r:Room k A) (h:j≤k:=by decide):Room j A:=r.mono h
section
variable {X:Cx}{CX:CXT}{k:Nat}{f:Addr}{fd:FuncData}{ps:List Str}{sp:Sp}{x:Str}{p pos:Pos}{e tg:Expr}{es:List Expr}{t:TA}{te:TE}{g:TG}{E:XK}{ds:List Value}{dvs:List V}
theorem PAT.of(h:PA X es t):PAT X es t:=fun pos pins s σ H Q _ I q=>h.run pos pins s σ H Q I q
end
end Y
namespace YZ
end YZ
namespace YS
end YS
namespace K18
open Y YZ YS
def top(i:Nat):Stmt:=PySem.Challenge.pw_sharesay_k18_relations_judged.main.body.getD i (.Pass ⟨0,0,0,0⟩)
def clsB:Stmt→List Stmt
 | .ClassDef (body:=b) .. => b
 |_=>[]
abbrev zC4:Stmt:=(top 33)
abbrev zCW:Stmt:=(top 34)
abbrev zDj:Stmt:=(top 35)
abbrev zCV:Stmt:=(top 39)
abbrev zBZ:Stmt:=(top 36)
abbrev zB9:Stmt:=(top 41)
abbrev zCR:Stmt:=(top 40)
abbrev zBi:Stmt:=(top 42)
abbrev zB8:Stmt:=(top 43)
abbrev zA0:Stmt:=(top 44)
abbrev zCO:Stmt:=(top 45)
abbrev zBz:Stmt:=(top 54)
abbrev zB4:Stmt:=(top 46)
abbrev zC2:Stmt:=(top 56)
abbrev zB0:Stmt:=(top 48)
abbrev zAq:Stmt:=(top 59)
abbrev zB6:Stmt:=(top 51)
abbrev zCd:Stmt:=(top 49)
abbrev zBv:Stmt:=(top 50)
abbrev zCN:Stmt:=(top 52)
abbrev zBV:Stmt:=(top 53)
abbrev zBC:Stmt:=(top 55)
abbrev zCP:Stmt:=(top 18)
abbrev zBu:Stmt:=((clsB (top 22)).getD 11 (.Pass ⟨0,0,0,0⟩))
abbrev zBN:Stmt:=(top 19)
abbrev zB1:Stmt:=(top 14)
abbrev zBy:Stmt:=(top 15)
abbrev zC6:Stmt:=((clsB (top 22)).getD 16 (.Pass ⟨0,0,0,0⟩))
abbrev zAy:Stmt:=((clsB (top 22)).getD 7 (.Pass ⟨0,0,0,0⟩))
abbrev zAe:Stmt:=(top 24)
abbrev zAo:Stmt:=((clsB (top 22)).getD 9 (.Pass ⟨0,0,0,0⟩))
abbrev zBI:Stmt:=((clsB (top 22)).getD 5 (.Pass ⟨0,0,0,0⟩))
abbrev zC1:Stmt:=(top 25)
abbrev zCZ:Stmt:=(top 26)
abbrev zB5:Stmt:=(top 31)
abbrev zAz:Stmt:=(top 30)
abbrev zBj:Stmt:=(top 29)
abbrev zBt:Stmt:=((clsB (top 22)).getD 8 (.Pass ⟨0,0,0,0⟩))
abbrev zAr:Stmt:=(top 28)
abbrev zBK:Stmt:=(top 16)
abbrev zDh:Stmt:=(top 17)
abbrev zB3:Stmt:=(top 20)
abbrev zBB:Stmt:=(top 21)
abbrev zCb:Stmt:=((clsB (top 22)).getD 2 (.Pass ⟨0,0,0,0⟩))
abbrev zCX:Stmt:=(top 47)
abbrev zCU:Stmt:=(top 37)
abbrev zA1:Stmt:=(top 38)
abbrev zBb:Stmt:=(top 58)
abbrev zBM:Stmt:=(top 57)
abbrev zCa:Stmt:=((clsB (top 22)).getD 3 (.Pass ⟨0,0,0,0⟩))
abbrev zJz:Stmt:=(top 60)
abbrev zCS:Stmt:=((clsB (top 7)).getD 0 (.Pass ⟨0,0,0,0⟩))
abbrev zDg:DefE:=⟨fun K=>He.ma K (He.ga K "InvalidWay") "__init__", "__init__", "InvalidWay.__init__",defArgs zCS,defBody zCS,defScope zCS,["__class__"]⟩
abbrev zCy:Stmt:=((clsB (top 8)).getD 0 (.Pass ⟨0,0,0,0⟩))
abbrev zEh:DefE:=⟨fun K=>He.ma K (He.ga K "NotOfWay") "__init__", "__init__", "NotOfWay.__init__",defArgs zCy,defBody zCy,defScope zCy,["__class__"]⟩
abbrev zCJ:Stmt:=((clsB (top 6)).getD 0 (.Pass ⟨0,0,0,0⟩))
abbrev zDR:DefE:=⟨fun K=>He.ma K (He.ga K "InvalidNode") "__init__", "__init__", "InvalidNode.__init__",defArgs zCJ,defBody zCJ,defScope zCJ,["__class__"]⟩
abbrev zBc:Stmt:=((clsB (top 3)).getD 0 (.Pass ⟨0,0,0,0⟩))
abbrev zCT:DefE:=⟨fun K=>He.ma K (He.ga K "InvalidLetters") "__init__", "__init__", "InvalidLetters.__init__",defArgs zBc,defBody zBc,defScope zBc,["__class__"]⟩
abbrev zCQ:Stmt:=((clsB (top 4)).getD 0 (.Pass ⟨0,0,0,0⟩))
abbrev zDn:DefE:=⟨fun K=>He.ma K (He.ga K "InvalidArc") "__init__", "__init__", "InvalidArc.__init__",defArgs zCQ,defBody zCQ,defScope zCQ,["__class__"]⟩
abbrev zBw:Stmt:=((clsB (top 5)).getD 0 (.Pass ⟨0,0,0,0⟩))
abbrev zCz:DefE:=⟨fun K=>He.ma K (He.ga K "NotConnected") "__init__", "__init__", "NotConnected.__init__",defArgs zBw,defBody zBw,defScope zBw,["__class__"]⟩
abbrev zHA:DefE:=⟨fun K=>(zBd K (He.ga K "Web") "letters").2, "letters", "Web.letters",defArgs zBI,defBody zBI,defScope zBI,[]⟩
abbrev zKk:DefE:=⟨fun K=>(He5.wf K (He.ga K "Web") "classmethod" "ring"), "ring", "Web.ring",defArgs zCa,defBody zCa,defScope zCa,[]⟩
def cl(K:PySem.W.Frag) (w:World) (fr:List (Str×List (Str×Addr))):Cls := { l:=[(0,([]:List Str)),(0,([]:List Str)),(0,([]:List Str)),(He.ga K "Web",(["signs", "lines", "sources", "same"]:List Str)),(0,([]:List Str)),(0,([]:List Str)),(0,([]:List Str)),(0,([]:List Str)),(0,([]:List Str)),(0,([]:List Str)),(0,([]:List Str)),(0,([]:List Str)),(0,([]:List Str)),(0,([]:List Str)),(0,([]:List Str)),(0,([]:List Str)),(0,([]:List Str)),(He.ga K "InvalidLetters",(["tag"]:List Str)),(He.ga K "InvalidArc",(["index", "tag"]:List Str)),(He.ga K "NotConnected",(["tag"]:List Str)),(He.ga K "InvalidNode",(["given", "tag"]:List Str)),(0,([]:List Str)),(He.ga K "InvalidWay",(["given", "tag"]:List Str)),(He.ga K "NotOfWay",(["given", "tag"]:List Str))],tb:=[],lm:=[],fr:=fr,wd:=some w }
theorem clsm{K:PySem.W.Frag}{w:World}{fr:List (Str×List (Str×Addr))}:∀(c:Nat) (C:Addr) (ns:List Str),(cl K w fr)[c]?=some (C,ns)→ns.length<1000:=by
 intro c C ns h;have hm:=Ji h;simp only[cl,Jo,VM,bC]at hm;rcases hm with hm|hm|hm|hm|hm|hm|hm|hm|hm|hm|hm|hm|hm|hm|hm|hm|hm|hm|hm|hm|hm|hm|hm|hm<;>(cases hm;decide)
theorem fld1{K:PySem.W.Frag}{cl:Cls}{fn:Str}{c i:Nat} (h:zIp K cl fn c i):∀q∈[(c,i)],zIp K cl fn q.1 q.2:=fun q m=>by
 have e:q=(c,i):=by simpa using m
 rw[e];exact h
def zOD:P:=.tup [.str "heard",.str "counted",.str "two-way",.str "marked"]
def fa0:List He.Fa:=([.glo "_law_bag",.glo "_law_pull",.glo "_law_of",.glo "_law_ways",.glo "_law_mixed",.glo "_law_model",.glo "_law_ring",.glo "_law_lifted",.glo "_law_goals",.glo "_law_connected",.glo "_law_even",.glo "_law_moved"]:List He.Fa)++([.glo "_law_drawn",.glo "_law_kin",.glo "_law_heard",.glo "_law_most_heard",.glo "_law_ranks",.glo "_law_outs",.glo "_law_marks",.glo "_law_next",.glo "_law_rounds",.glo "_law_pairs_of",.glo "need_way",.glo "need_of_way"]:List He.Fa)++([.glo "is_number",.glo "is_within",.glo "knows_out_numbers",.glo "mark_of",.glo "marks_of",.glo "exchanged",.glo "found_partner",.glo "are_paired",.glo "relation_holds",.glo "are_letters",.glo "is_arc",.glo "reachable"]:List He.Fa)++([.glo "is_connected",.glo "_law_made",.glo "_law_same",.glo "_law_is_number",.glo "_law_paired",.glo "_law_related",.glo "law",.glo "Web",.glo "InvalidWay",.glo "NotOfWay",.glo "InvalidNode",.glo "InvalidLetters"]:List He.Fa)++([.glo "InvalidArc",.glo "NotConnected",.free "all",.free "bool",.free "enumerate",.free "int",.free "isinstance",.free "len",.free "list",.free "max",.free "range",.free "set"]:List He.Fa)++([.free "sorted",.free "str",.free "super",.free "tuple",.free "zip",.int "MOST_ARCS" 200,.int "MOST_NODES" 30,.str "SIGNS" "abcm",.cls "Web",.mkr "Web",.meth "Web" "__len__",.meth "Web" "heard"]:List He.Fa)++([.meth "Web" "is_of",.meth "Web" "need_node",.meth "Web" "out_number",.noat "Web" "lines",.noat "Web" "same",.noat "Web" "signs",.noat "Web" "sources"]:List He.Fa)
def fa:List He.Fa:=fa0
def fn0:List He.DefD:=([⟨("_law_bag",none), "_law_bag", "_law_bag",defArgs zC4,defBody zC4,defScope zC4,[],[]⟩,⟨("_law_pull",none), "_law_pull", "_law_pull",defArgs zCW,defBody zCW,defScope zCW,[],[]⟩,⟨("_law_of",none), "_law_of", "_law_of",defArgs zDj,defBody zDj,defScope zDj,[],[]⟩,⟨("_law_ways",none), "_law_ways", "_law_ways",defArgs zCV,defBody zCV,defScope zCV,[],[]⟩,⟨("_law_mixed",none), "_law_mixed", "_law_mixed",defArgs zBZ,defBody zBZ,defScope zBZ,[],[]⟩,⟨("_law_model",none), "_law_model", "_law_model",defArgs zB9,defBody zB9,defScope zB9,[],[]⟩,⟨("_law_ring",none), "_law_ring", "_law_ring",defArgs zCR,defBody zCR,defScope zCR,[],[]⟩,⟨("_law_lifted",none), "_law_lifted", "_law_lifted",defArgs zBi,defBody zBi,defScope zBi,[],[]⟩,⟨("_law_goals",none), "_law_goals", "_law_goals",defArgs zB8,defBody zB8,defScope zB8,[],[]⟩,⟨("_law_connected",none), "_law_connected", "_law_connected",defArgs zA0,defBody zA0,defScope zA0,[],[]⟩,⟨("_law_even",none), "_law_even", "_law_even",defArgs zCO,defBody zCO,defScope zCO,[],[]⟩,⟨("_law_moved",none), "_law_moved", "_law_moved",defArgs zBz,defBody zBz,defScope zBz,[],[]⟩]:List He.DefD)++([⟨("_law_drawn",none), "_law_drawn", "_law_drawn",defArgs zB4,defBody zB4,defScope zB4,[],[]⟩,⟨("_law_kin",none), "_law_kin", "_law_kin",defArgs zC2,defBody zC2,defScope zC2,[],[]⟩,⟨("_law_heard",none), "_law_heard", "_law_heard",defArgs zB0,defBody zB0,defScope zB0,[],[]⟩,⟨("_law_most_heard",none), "_law_most_heard", "_law_most_heard",defArgs zAq,defBody zAq,defScope zAq,[],[]⟩,⟨("_law_ranks",none), "_law_ranks", "_law_ranks",defArgs zB6,defBody zB6,defScope zB6,[],[]⟩,⟨("_law_outs",none), "_law_outs", "_law_outs",defArgs zCd,defBody zCd,defScope zCd,[],[]⟩,⟨("_law_marks",none), "_law_marks", "_law_marks",defArgs zBv,defBody zBv,defScope zBv,[],[]⟩,⟨("_law_next",none), "_law_next", "_law_next",defArgs zCN,defBody zCN,defScope zCN,[],[]⟩,⟨("_law_rounds",none), "_law_rounds", "_law_rounds",defArgs zBV,defBody zBV,defScope zBV,[],[]⟩,⟨("_law_pairs_of",none), "_law_pairs_of", "_law_pairs_of",defArgs zBC,defBody zBC,defScope zBC,[],[]⟩,⟨("need_way",none), "need_way", "need_way",defArgs zCP,defBody zCP,defScope zCP,[],[]⟩,⟨("Web",some "is_of"), "is_of", "Web.is_of",defArgs zBu,defBody zBu,defScope zBu,[],[]⟩]:List He.DefD)++([⟨("need_of_way",none), "need_of_way", "need_of_way",defArgs zBN,defBody zBN,defScope zBN,[],[]⟩]:List He.DefD)
def fn1:List He.DefD:=([⟨("is_number",none), "is_number", "is_number",defArgs zB1,defBody zB1,defScope zB1,[],[]⟩,⟨("is_within",none), "is_within", "is_within",defArgs zBy,defBody zBy,defScope zBy,[],[]⟩,⟨("Web",some "__len__"), "__len__", "Web.__len__",defArgs zC6,defBody zC6,defScope zC6,[],[]⟩,⟨("Web",some "need_node"), "need_node", "Web.need_node",defArgs zAy,defBody zAy,defScope zAy,[],[]⟩,⟨("knows_out_numbers",none), "knows_out_numbers", "knows_out_numbers",defArgs zAe,defBody zAe,defScope zAe,[],[]⟩,⟨("Web",some "out_number"), "out_number", "Web.out_number",defArgs zAo,defBody zAo,defScope zAo,[],[]⟩,⟨("mark_of",none), "mark_of", "mark_of",defArgs zC1,defBody zC1,defScope zC1,[],[]⟩,⟨("marks_of",none), "marks_of", "marks_of",defArgs zCZ,defBody zCZ,defScope zCZ,[],[]⟩,⟨("exchanged",none), "exchanged", "exchanged",defArgs zB5,defBody zB5,defScope zB5,[],[]⟩,⟨("found_partner",none), "found_partner", "found_partner",defArgs zAz,defBody zAz,defScope zAz,[],[]⟩,⟨("are_paired",none), "are_paired", "are_paired",defArgs zBj,defBody zBj,defScope zBj,[],[]⟩,⟨("Web",some "heard"), "heard", "Web.heard",defArgs zBt,defBody zBt,defScope zBt,[],[]⟩]:List He.DefD)++([⟨("relation_holds",none), "relation_holds", "relation_holds",defArgs zAr,defBody zAr,defScope zAr,[],[]⟩,⟨("are_letters",none), "are_letters", "are_letters",defArgs zBK,defBody zBK,defScope zBK,[],[]⟩,⟨("is_arc",none), "is_arc", "is_arc",defArgs zDh,defBody zDh,defScope zDh,[],[]⟩,⟨("reachable",none), "reachable", "reachable",defArgs zB3,defBody zB3,defScope zB3,[],[]⟩,⟨("is_connected",none), "is_connected", "is_connected",defArgs zBB,defBody zBB,defScope zBB,[],[]⟩,⟨("Web",some "__init__"), "__init__", "Web.__init__",defArgs zCb,defBody zCb,defScope zCb,[],[]⟩,⟨("_law_made",none), "_law_made", "_law_made",defArgs zCX,defBody zCX,defScope zCX,[],[]⟩,⟨("_law_same",none), "_law_same", "_law_same",defArgs zCU,defBody zCU,defScope zCU,[],[]⟩,⟨("_law_is_number",none), "_law_is_number", "_law_is_number",defArgs zA1,defBody zA1,defScope zA1,[],[]⟩,⟨("_law_paired",none), "_law_paired", "_law_paired",defArgs zBb,defBody zBb,defScope zBb,[],[]⟩,⟨("_law_related",none), "_law_related", "_law_related",defArgs zBM,defBody zBM,defScope zBM,[],[]⟩,⟨("law",none), "law", "law",defArgs zJz,defBody zJz,defScope zJz,[],[]⟩]:List He.DefD)
def fn:List He.DefD:=fn0++(fn1)
def ts:List He.Tab:=[]
def es:List DefE:=[zDg,zEh,zDR,zCT,zDn,zCz,zHA,zKk]
def tf:List He.Defn:=[]
def exl(K:PySem.W.Frag):List Bool:=[gtB K "WAYS" zOD,excB K "InvalidWay" "/claim/cut.py" (some "given"),excB K "NotOfWay" "/claim/cut.py" (some "given"),excB K "InvalidNode" "/claim/cut.py" (some "given"),excB K "InvalidLetters" "/claim/cut.py" none,excB K "InvalidArc" "/claim/cut.py" (some "index"),excB K "NotConnected" "/claim/cut.py" none,zRx K (He.ga K "Web") "letters",cmB K (He.ga K "Web") "ring",zQP K ((He5.wf K (He.ga K "Web") "classmethod" "ring")) [("both",V.bl false)]]
def ex(K:PySem.W.Frag):Bool:=(exl K).all id
def loose:List Str:=(["_wall", "__name__", "SayError", "InvalidLetters", "InvalidArc", "NotConnected", "InvalidNode", "InvalidWay", "NotOfWay", "SIGNS", "WAYS", "MOST_NODES"]:List Str)++(["MOST_ARCS", "is_number", "is_within", "are_letters", "is_arc", "need_way", "need_of_way", "reachable", "is_connected", "Web", "knows_out_numbers", "mark_of"]:List Str)++(["marks_of", "relation_holds", "are_paired", "found_partner", "exchanged", "_law_bag", "_law_pull", "_law_of", "_law_mixed", "_law_same", "_law_is_number", "_law_ways"]:List Str)++(["_law_ring", "_law_model", "_law_lifted", "_law_goals", "_law_connected", "_law_even", "_law_drawn", "_law_made", "_law_heard", "_law_outs", "_law_marks", "_law_ranks"]:List Str)++(["_law_next", "_law_rounds", "_law_moved", "_law_pairs_of", "_law_kin", "_law_related", "_law_paired", "_law_most_heard"]:List Str)
abbrev R:PySem.W.OpenRow:=PySem.W.OpenLaw.row PySem.Challenge.rw_sharesay_k18_relations_judged
abbrev hk:PySem.W.Hook:=zRi fa fn ts tf ex es
def ob(s:PySem.W.SharedT):AlE:=obR fa fn ts tf ex es s
theorem ob_eq(s:PySem.W.SharedT):ob s=hk.obs s.abs:=obR_eq s
section
open PySem.W PySem.Calls HandSHeadRun
theorem fileOf:Y.FileOf (PySem.Challenge.rw_sharesay_k18_relations_judged).prog "/claim/cut.py" := ⟨by kernel_rfl,by kernel_rfl⟩
theorem hj1:opening R.prog=plainProg R.prog.main.scope.names:=by kernel_rfl
theorem hj2:∀s,fenceModules? R.prog s=some s:=fun s=>by kernel_rfl
theorem hj3:defOf (view R.prog [60]) R.name=some (topDef R.prog 60,[]):=by kernel_rfl
theorem hj4:R.prog.theDef R.name=some ((topDef R.prog 60).params,(topDef R.prog 60).body,(topDef R.prog 60).scope):=by kernel_rfl
theorem hj5:kwWritten? (topDef R.prog 60).params.kwonlyargs (topDef R.prog 60).params.kw_defaults=some []:=by kernel_rfl
theorem hj6:(!R.writes||R.records.isEmpty)=true:=by rfl
theorem hj8:(chainsOk (view R.prog [60])&&opensWell R.prog&&(frees R.toRowW&&R.within.isEmpty))=true:=by decide +kernel
theorem hj9:R.prog.bare:=⟨rfl,rfl,rfl,rfl,rfl,⋯⟩
theorem hjw:R.toRowW.promised:=by w_witness2
end
theorem runFa(w:World):RunA R (PySem.W.view R.prog [60]) 60000 loose (w.withFollow "special-get-raises" false):=by
 intro os
 kernel_rfl
theorem zPV(w:World):RunH R 60000 (w.withFollow "special-get-raises" false) (hFaR fa0) true:=by
 intro os
 kernel_rfl
theorem zPi(w:World):RunH R 60000 (w.withFollow "special-get-raises" false) (hFnR fn0) (He.valD fn0):=by
 intro os
 kernel_rfl
theorem zPG(w:World):RunH R 60000 (w.withFollow "special-get-raises" false) (hFnR fn1) (He.valD fn1):=by
 intro os
 kernel_rfl
theorem zR6(w:World):RunH R 60000 (w.withFollow "special-get-raises" false) (zJF ts tf ex es) (zOI ts es (w.withFollow "special-get-raises" false)):=by
 intro os
 kernel_rfl
theorem runFb(w:World):RunB R hk ob 60000 (w.withFollow "special-get-raises" false):=zHT (zPV w) (run_fnR (zPi w) (zPG w)) (zR6 w)
theorem runTa(w:World):RunA R (PySem.W.view R.prog [60]) 60000 loose (w.withFollow "special-get-raises" true):=by
 intro os
 kernel_rfl
theorem zP1(w:World):RunH R 60000 (w.withFollow "special-get-raises" true) (hFaR fa0) true:=by
 intro os
 kernel_rfl
theorem zOt(w:World):RunH R 60000 (w.withFollow "special-get-raises" true) (hFnR fn0) (He.valD fn0):=by
 intro os
 kernel_rfl
theorem zOx(w:World):RunH R 60000 (w.withFollow "special-get-raises" true) (hFnR fn1) (He.valD fn1):=by
 intro os
 kernel_rfl
theorem zSX(w:World):RunH R 60000 (w.withFollow "special-get-raises" true) (zJF ts tf ex es) (zOI ts es (w.withFollow "special-get-raises" true)):=by
 intro os
 kernel_rfl
theorem runTb(w:World):RunB R hk ob 60000 (w.withFollow "special-get-raises" true):=zHT (zP1 w) (run_fnR (zOt w) (zOx w)) (zSX w)
theorem run(w:World):HandSHeadRun.RunEq R (PySem.W.view R.prog [60]) hk ob 60000 loose w :=
 PySem.W.byRow2 "special-get-raises" (P:=fun w=>HandSHeadRun.RunEq R (PySem.W.view R.prog [60]) hk ob 60000 loose w) (fun w=>zOJ (runFa w) (runFb w)) (fun w=>zOJ (runTa w) (runTb w)) w
section
open PySem.W PySem.Calls HandSHeadRun
/-- the looks at the law,early (less memory stands) -/
theorem early(hc:PySem.W.WalkO (view R.prog [60]) loose (XL (view R.prog [60]) []) hk.says R.toRowW (topDef R.prog 60) [] fun f vs=>PySem.call f vs):PySem.Challenge.rw_sharesay_k18_relations_judged.Holds:=by
 w_on;o_law
 refine HandSHeadRun.head_any (r:=R) (q:=view R.prog [60]) (H:=hk) (ob:=ob) (M:=60000) (loose:=loose) (d:=topDef R.prog 60) (kwd:=[]) ob_eq
  hj1 hj2 run hj3 hj4 hj5 hj6 (by first|assumption|decide +kernel) hj8 hj9 hjw hc
end
end K18
namespace Y
section
variable {K:PySem.W.Frag}{cl:Cls}{G G':Hp}
theorem RPs.getV:∀ {l:List P}{vs:List V}{i:Nat}{v:V},RPs K cl G l vs→vs[i]?=some v→∃x,l[i]?=some x∧RP K cl G x v
 |_,_,_,_,.nil,e=>by simp at e
 |_,_,0,_,.cons h _,e=>by simp at e;subst e;exact⟨_,rfl,h⟩
 |_,_,i+1,v,.cons _ r,e=>by
  obtain⟨u,h1,h2⟩:=RPs.getV (i:=i) (v:=v) r (by simpa using e)
  exact⟨u,by simpa using h1,h2⟩
theorem RPs.append:∀ {l m:List P}{vs us:List V},RPs K cl G l vs→RPs K cl G m us→RPs K cl G (l++m) (vs++us)
 |_,_,_,_,.nil,s=>s
 |_,_,_,_,.cons h r,s=>.cons h (RPs.append r s)
theorem RPs.reverse{l:List P}{vs:List V} (r:RPs K cl G l vs):RPs K cl G l.reverse vs.reverse:=by
 induction l generalizing vs with
 |nil=>cases r;exact .nil
 |cons x l ih =>
  cases r with
  |cons h r =>
   rw[List.reverse_cons,List.reverse_cons];exact(ih r).append (.cons h .nil)
theorem RPs.ints:∀(l:List Int),RPs K cl G (l.map P.int) (l.map V.int)
 |[]=>.nil
 |i::l=>.cons (.int i) (RPs.ints l)
theorem RPs.of_ints:∀ {l:List Int}{vs:List V},RPs K cl G (l.map P.int) vs→vs=l.map V.int
 |[],_,.nil=>rfl
 |i::l,_,.cons h r=>by
  cases h;rw[RPs.of_ints r];rfl
end
section
variable {K:PySem.W.Frag}{cl:Cls}{ρ ρ':List Addr}{G G':Hp}
theorem RWs.append:∀ {l m:List W}{vs us:List V},RWs K cl ρ G l vs→RWs K cl ρ G m us→RWs K cl ρ G (l++m) (vs++us)
 |_,_,_,_,.nil,s=>s
 |_,_,_,_,.cons h r,s=>.cons h (RWs.append r s)
theorem zBa(l:List P):pures (l.map W.p)=some l:=by
 induction l with
 |nil=>rfl
 |cons x l ih =>
  show(pures (l.map W.p)).map (x :: ·)=_
  rw[ih];rfl
end
theorem zCf{H:Hp}{a:Addr}{u:HO} (h:strip H a=some u):H a=some u∧NT u:=by
 unfold strip at h;split at h
 ·cases h
 ·rename_i n
  exact⟨h,fun ps e=>n ps (by rw[h,e])⟩
theorem zSz{G H:Hp}{P p:Addr}{q:Str}{o:HO} (t:TabG G H P q) (h:H p=some o) (nt:NT o):P≠p:=fun e=>by
 obtain⟨ps,z,_⟩:=t;rw[e,h]at z;exact nt ps (Jk z)
theorem zHx{G H:Hp}{P p:Addr}{q:Str}{o u:HO} (t:TabG G H P q) (h:H p=some u) (hu:PlO u):TabG G (upd H p o) P q:=by
 have ne:=zSz t h hu.1;obtain⟨ps,e1,e2,e3⟩:=t;exact⟨ps,by rw[JO ne];exact e1,e2,e3⟩
section
variable {K:PySem.W.Frag}{cl:Cls}{E0:En}{ρ ρ':List Addr}{G G':Hp}{st:List Cell}{H H':Hp}
theorem Rel.cellN(R:Rel K cl E0 ρ G st H){p:Addr}{o:HO}{c:Cell} (h:H p=none) (hc:c≠.dead) (h0:E0.H0 p=none) (x:CA K cl (ρ++[p]) G (upd H p o) p c):Rel K cl E0 (ρ++[p]) G (st++[c]) (upd H p o):=by
 have gp:=R.gnone h
 have ne:∀(i:Nat) a,ρ[i]?=some a→a≠p:=fun i a e z=>by
  obtain⟨u,q⟩:=R.there e;rw[z,h]at q;cases q
 have pn:p∉ρ:=fun m=>by
  obtain⟨i,hi⟩:=JF m;exact ne i p hi rfl
 have cut:∀(i:Nat) (d:Cell) a,(st++[c])[i]?=some d→(ρ++[p])[i]?=some a→(st[i]?=some d∧ρ[i]?=some a)∨(d=c∧a=p):=fun i d a e1 e2=>by
  by_cases hi:i<st.length
  ·rw[Je hi]at e1;rw[Je (by rw[R.len];exact hi)]at e2
   exact .inl ⟨e1,e2⟩
  ·have z:i=st.length:=by
    have:=(Jb.mp e1).1
    rw[Ju]at this;simp at this;omega
   subst z;rw[Jq (JH _)]at e1;rw[←R.len,Jq (JH _)]at e2;simp at e1 e2;exact .inr ⟨e1.symm,e2.symm⟩
 refine⟨by simp[R.len],?_,fun i d a e1 e2=>?_,fun i d a e1 e2=>?_,fun a u e=>?_,fun a u e q=>?_,fun i a hi e=>?_,by rw[Ju];exact Vs R.n0 (VN _ _),fun a u e=>?_,R.ent,R.gnt,fun q hq=>zIB (R.tabs q hq) h⟩
 ·exact Vx.mpr ⟨R.nd,by simp,fun a ha b hb=>by simp at hb;subst hb;exact fun z=>pn (z▸ha)⟩
 ·rcases cut i d a e1 e2 with⟨h1,h2⟩|⟨rfl,rfl⟩
  ·exact(R.cell i d a h1 h2).mono (Va _ _) (Sub.refl _) (JO (ne i a h2))
  ·exact x
 ·rcases cut i d a e1 e2 with⟨h1,h2⟩|⟨rfl,rfl⟩
  ·exact R.sep i d a h1 h2
  ·exact .inr gp
 ·rw[JO (fun z=>by rw[z,gp]at e;cases e)];exact R.sub a u e
 ·have q2:=R.old a u e fun i hi z=>q i hi (by
   have hl:i<ρ.length:=Vb hi R.n0
   rw[Je hl];exact z)
  rw[JO (Yy q2 h)];exact q2
 ·by_cases hl:i<ρ.length
  ·rw[Je hl]at e;exact R.new i a hi e
  ·rw[Jq ∅]at e
   have:a=p:=by
    have hz:=(Jb.mp e).1;simp at hz;rw[hz]at e;simp at e;exact e.symm
   subst this;exact h0
 ·rcases R.grow a u e with q|q|⟨i,hi,q⟩
  ·exact .inl q
  ·exact .inr (.inl q)
  ·exact .inr (.inr ⟨i,hi,by rw[Je (Vb hi R.n0)];exact q⟩)
theorem Rel.offF(R:Rel K cl E0 ρ G st H){a:Addr} (h:strip H a=none):(∀i:Nat,ρ[i]?≠some a)∧E0.H0 a=none:=by
 rcases zFX h with h|⟨ps,h⟩
 ·refine⟨fun i z=>?_,R.fresh0 h⟩
  obtain⟨o,q⟩:=R.there z;rw[h]at q;cases q
 ·exact R.tblF h
theorem Rel.write(R:Rel K cl E0 ρ G st H){i:Nat}{c d:Cell}{a:Addr}{o:HO} (h:st[i]?=some c) (hc:c≠.dead) (hd:d≠.dead) (ha:ρ[i]?=some a) (x:CA K cl ρ G (upd H a o) a d) :
  Rel K cl E0 ρ G (st.set i d) (upd H a o):=by
 have hi:i<st.length:=(Jb.mp h).1;have ga:G a=none:=(R.sep i c a h ha).resolve_left hc
 have same:∀(j:Nat) b,ρ[j]?=some b→b=a→j=i:=fun j b e z=>by
  subst z;have h1:=Jb.mp e;have h2:=Jb.mp ha;exact(Yb (h₀:=h1.1) (h₁:=h2.1) R.nd).mp (h1.2.trans h2.2.symm)
 obtain⟨u0,hu0,pu0⟩:=(R.cell i c a h ha).po hc;refine⟨by rw[J5];exact R.len,R.nd,fun j e b e1 e2=>?_,fun j e b e1 e2=>?_,fun b u e=>?_,fun b u e q=>?_,R.new,R.n0,R.grow,R.ent,R.gnt,fun q hq=>zHx (R.tabs q hq) hu0 pu0⟩
 ·by_cases hj:j=i
  ·subst hj;rw[Jw hi]at e1;rw[ha]at e2;cases e1;cases e2;exact x
  ·rw[Jv (bo hj)]at e1;exact(R.cell j e b e1 e2).mono (Jh _) (Sub.refl _) (JO fun z=>hj (same j b e2 z))
 ·by_cases hj:j=i
  ·subst hj;rw[ha]at e2;cases e2;exact .inr ga
  ·rw[Jv (bo hj)]at e1;exact R.sep j e b e1 e2
 ·rw[JO (fun z=>by rw[z,ga]at e;cases e)];exact R.sub b u e
 ·have ne:b≠a:=fun z=>by
   subst z
   by_cases hn:i<E0.n0
   ·exact q i hn ha
   ·rw[R.new i b ∅ ha]at e;cases e
  rw[JO ne];exact R.old b u e q
end
abbrev Bs.RWs(B:Bs) (ρ:List Addr) (G:Hp):List W→List V→Prop:=Y.RWs B.K B.cl ρ G
abbrev Bs.RS(B:Bs) (ρ:List Addr) (G:Hp):Sg→L2.St→Prop:=Y.RS B.K B.cl ρ G
section
variable {K:PySem.W.Frag}{cl:Cls}{E0:En}{ρ ρ':List Addr}{G G':Hp}{st:List Cell}{H H':Hp}
def En.hold(E0:En) (G:Hp) (p:Addr) (o:HO):En:=⟨upd E0.H0 p o,E0.n0,G⟩
theorem Rel.apart(R:Rel K cl E0 ρ G st H){p:Addr} (h:H p=none):∀(i:Nat),ρ[i]?≠some p:=fun i e=>by
 obtain⟨u,q⟩:=R.there e;rw[h]at q;cases q
theorem Rel.hold(R:Rel K cl E0 ρ G st H){p:Addr}{o:HO} (h:H p=none) (nt:NT o:=by intro _ z;cases z):Rel K cl (E0.hold G p o) ρ G st (upd H p o):=by
 have gp:=R.gnone h;have ne:∀(i:Nat) a,ρ[i]?=some a→a≠p:=fun i a e z=>R.apart h i (by rw[e,z])
 refine⟨R.len,R.nd,fun i c a e1 e2=>(R.cell i c a e1 e2).mono (Jh _) (Sub.refl _) (JO (ne i a e2)),R.sep,fun a u e=>?_,fun a u e q=>?_,fun i a hi e=>?_,R.n0,fun a u e=>.inl e,fun a u e=>?_,R.gnt,fun q hq=>zIB (R.tabs q hq) h⟩
 ·rw[JO (fun z=>by rw[z,gp]at e;cases e)];exact R.sub a u e
 ·have e:upd E0.H0 p o a=some u:=e
  by_cases z:a=p
  ·subst z;rw[JC]at e ⊢;exact e
  ·rw[JO z]at e ⊢;exact R.old a u e q
 ·show upd E0.H0 p o a=none;rw[JO (ne i a e)];exact R.new i a hi e
 ·have e:upd E0.H0 p o a=some u:=e
  by_cases z:a=p
  ·subst z;rw[JC]at e;cases e;exact nt
  ·rw[JO z]at e;exact R.ent a u e
theorem Rel.held{p:Addr}{o:HO}{G1:Hp} (R:Rel K cl (E0.hold G1 p o) ρ G st H) (hn:∀i:Nat,i<E0.n0→ρ[i]?≠some p) (g1:G1 p=none):H p=some o∧G p=none∧∀i:Nat,ρ[i]?≠some p:=by
 have a1:∀i:Nat,ρ[i]?≠some p:=fun i e=>by
  by_cases hi:i<E0.n0
  ·exact hn i hi e
  ·have q:upd E0.H0 p o p=none:=R.new i p (by show E0.n0≤i;omega) e
   rw[JC]at q;cases q
 refine⟨R.old p o (show upd E0.H0 p o p=some o from JC) hn,?_,a1⟩
 cases e:G p with
 |none=>rfl
 |some u =>
  rcases R.grow p u e with q|q|⟨i,_,q⟩
  ·have q:G1 p=some u:=q;rw[g1]at q;cases q
  ·have q:upd E0.H0 p o p=none:=q;rw[JC]at q;cases q
  ·exact absurd q (a1 i)
theorem Rel.rehold{p:Addr}{o o':HO}{G1:Hp} (R:Rel K cl (E0.hold G1 p o) ρ G st H) (po:PlO o) (hn:∀i:Nat,i<E0.n0→ρ[i]?≠some p) (g1:G1 p=none) (nt:NT o':=by intro _ z;cases z):Rel K cl (E0.hold G p o') ρ G st (upd H p o'):=by
 obtain⟨h1,h2,h3⟩:=R.held hn g1;have ne:∀(i:Nat) a,ρ[i]?=some a→a≠p:=fun i a e z=>h3 i (by rw[e,z])
 refine⟨R.len,R.nd,fun i c a e1 e2=>(R.cell i c a e1 e2).mono (Jh _) (Sub.refl _) (JO (ne i a e2)),R.sep,fun a u e=>?_,fun a u e q=>?_,fun i a hi e=>?_,R.n0,fun a u e=>.inl e,fun a u e=>?_,R.gnt,fun q hq=>zHx (R.tabs q hq) h1 po⟩
 ·rw[JO (fun z=>by rw[z,h2]at e;cases e)];exact R.sub a u e
 ·have e:upd E0.H0 p o' a=some u:=e
  by_cases z:a=p
  ·subst z;rw[JC]at e ⊢;exact e
  ·rw[JO z]at e ⊢;exact R.old a u (show upd E0.H0 p o a=some u by rw[JO z];exact e) q
 ·show upd E0.H0 p o' a=none;rw[JO (ne i a e)];have q:upd E0.H0 p o a=none:=R.new i a hi e;rw[JO (ne i a e)]at q;exact q
 ·have e:upd E0.H0 p o' a=some u:=e
  by_cases z:a=p
  ·subst z;rw[JC]at e;cases e;exact nt
  ·rw[JO z]at e;exact R.ent a u (show upd E0.H0 p o a=some u by rw[JO z];exact e)
theorem Rel.unhold{p:Addr}{o:HO}{G1:Hp}{ρ0:List Addr} (R:Rel K cl (E0.hold G1 p o) ρ G st H) (h0:E0.H0 p=none) (gr:∀a u,G1 a=some u→E0.G0 a=some u∨E0.H0 a=none∨∃i:Nat,i<E0.n0∧ρ0[i]?=some a) (pr:ρ0 <+: ρ) (l0:E0.n0≤ρ0.length):Rel K cl E0 ρ G st H:=by
 refine⟨R.len,R.nd,R.cell,R.sep,R.sub,fun a u e q=>R.old a u (show upd E0.H0 p o a=some u by rw[JO (Yy e h0)];exact e) q,fun i a hi e=>?_,R.n0,fun a u e=>?_,fun a u e=>R.ent a u (show upd E0.H0 p o a=some u by rw[JO (Yy e h0)];exact e),R.gnt,R.tabs⟩
 ·have q:upd E0.H0 p o a=none:=R.new i a hi e
  by_cases z:a=p
  ·subst z;exact h0
  ·rw[JO z]at q;exact q
 ·rcases R.grow a u e with q|q|⟨i,hi,q⟩
  ·rcases gr a u q with q|q|⟨i,hi,q⟩
   ·exact .inl q
   ·exact .inr (.inl q)
   ·obtain⟨t,rfl⟩:=pr;exact .inr (.inr ⟨i,hi,by rw[Je (Vb hi l0)];exact q⟩)
  ·have q:upd E0.H0 p o a=none:=q
   by_cases z:a=p
   ·subst z;exact .inr (.inl h0)
   ·rw[JO z]at q;exact .inr (.inl q)
  ·exact .inr (.inr ⟨i,hi,q⟩)
theorem Rel.adopt(R:Rel K cl E0 ρ G st H){p:Addr}{o:HO} (h:H p=some o) (gp:G p=none) (hp:∀i:Nat,ρ[i]?≠some p) (h0:E0.H0 p=none) (nt:NT o:=by intro _ z;cases z):Rel K cl E0 ρ (upd G p o) st H:=by
 refine⟨R.len,R.nd,fun i c a e1 e2=>(R.cell i c a e1 e2).mono (Jh _) (Sub.new gp) rfl,fun i c a e1 e2=>?_,fun a u e=>?_,R.old,R.new,R.n0,fun a u e=>?_,R.ent,fun a u e=>?_,fun q hq=>(R.tabs q hq).sub (Sub.new gp)⟩
 ·rw[JO (fun z=>hp i (by rw[e2,z]))];exact R.sep i c a e1 e2
 ·by_cases z:a=p
  ·subst z;rw[JC]at e;cases e;exact h
  ·rw[JO z]at e;exact R.sub a u e
 ·by_cases z:a=p
  ·subst z;exact .inr (.inl h0)
  ·rw[JO z]at e;exact R.grow a u e
 ·by_cases z:a=p
  ·subst z;rw[JC]at e;cases e;exact nt
  ·rw[JO z]at e;exact R.gnt a u e
theorem Rel.adoptC(R:Rel K cl E0 ρ G st H){p:Addr}{c:Cell} (hc:c≠.dead) (gp:G p=none) (hp:∀i:Nat,ρ[i]?≠some p) (h0:E0.H0 p=none) (x:CA K cl (ρ++[p]) G H p c):Rel K cl E0 (ρ++[p]) G (st++[c]) H:=by
 have pn:p∉ρ:=fun m=>by
  obtain⟨i,hi⟩:=JF m;exact hp i hi
 have cut:∀(i:Nat) (d:Cell) a,(st++[c])[i]?=some d→(ρ++[p])[i]?=some a→(st[i]?=some d∧ρ[i]?=some a)∨(d=c∧a=p):=fun i d a e1 e2=>by
  by_cases hi:i<st.length
  ·rw[Je hi]at e1;rw[Je (by rw[R.len];exact hi)]at e2
   exact .inl ⟨e1,e2⟩
  ·have z:i=st.length:=by
    have:=(Jb.mp e1).1
    rw[Ju]at this;simp at this;omega
   subst z;rw[Jq (JH _)]at e1;rw[←R.len,Jq (JH _)]at e2;simp at e1 e2;exact .inr ⟨e1.symm,e2.symm⟩
 refine⟨by simp[R.len],?_,fun i d a e1 e2=>?_,fun i d a e1 e2=>?_,R.sub,fun a u e q=>?_,fun i a hi e=>?_,by rw[Ju];exact Vs R.n0 (VN _ _),fun a u e=>?_,R.ent,R.gnt,R.tabs⟩
 ·exact Vx.mpr ⟨R.nd,by simp,fun a ha b hb=>by simp at hb;subst hb;exact fun z=>pn (z▸ha)⟩
 ·rcases cut i d a e1 e2 with⟨h1,h2⟩|⟨rfl,rfl⟩
  ·exact(R.cell i d a h1 h2).mono (Va _ _) (Sub.refl _) rfl
  ·exact x
 ·rcases cut i d a e1 e2 with⟨h1,h2⟩|⟨rfl,rfl⟩
  ·exact R.sep i d a h1 h2
  ·exact .inr gp
 ·exact R.old a u e fun i hi z=>q i hi (by
   have hl:i<ρ.length:=Vb hi R.n0
   rw[Je hl];exact z)
 ·by_cases hl:i<ρ.length
  ·rw[Je hl]at e;exact R.new i a hi e
  ·rw[Jq ∅]at e
   have:a=p:=by
    have hz:=(Jb.mp e).1;simp at hz;rw[hz]at e;simp at e;exact e.symm
   subst this;exact h0
 ·rcases R.grow a u e with q|q|⟨i,hi,q⟩
  ·exact .inl q
  ·exact .inr (.inl q)
  ·exact .inr (.inr ⟨i,hi,by rw[Je (Vb hi R.n0)];exact q⟩)
end
section
variable {X:Cx}
def TT'(X:Cx) (e:Expr):TT:=fun σ H Q=>∀(pins:List (Addr×Obj)) (s:Shared),Inv X pins σ H s→wpAny (model X.prog X.w) X.A (isTrue e X.env (eval e X.env)) (TP X pins σ Q) X.xe s
def TW'(X:Cx) (e:Expr):TT:=fun σ H Q=>∀(whole:Sem Value) (pins:List (Addr×Obj)) (s:Shared),Inv X pins σ H s→wpAny (model X.prog X.w) X.A (isTrue e X.env whole) (TP X pins σ Q) X.xe s
def TA'(X:Cx) (es:List Expr):TA:=fun σ H Q=>∀(pos:Pos) (pins:List (Addr×Obj)) (s:Shared),Inv X pins σ H s→wpAny (model X.prog X.w) X.A (spliced (backTo pos (starEach es X.env))) (AP X pins σ Q) X.xe s
theorem T.pe{e:Expr}:PE X e (T X e):=⟨fun pins s σ H Q I h=>h pins s I⟩
theorem TT'.pt{e:Expr}:PT X e (TT' X e):=⟨fun pins s σ H Q I h=>h pins s I⟩
theorem TW'.pw{e:Expr}:PW X e (TW' X e):=⟨fun wh pins s σ H Q I h=>h wh pins s I⟩
theorem TA'.pa{es:List Expr}:PA X es (TA' X es):=⟨fun pos pins s σ H Q I h=>h pos pins s I⟩
theorem TT'.of{e:Expr}{t:TT}{σ:L2.St}{H:Hp}{Q:Bool→Hp→Prop} (h:PT X e t) (q:t σ H Q):TT' X e σ H Q:=fun pins s I=>h.run pins s σ H Q I q
theorem TW'.of{e:Expr}{t:TT}{σ:L2.St}{H:Hp}{Q:Bool→Hp→Prop} (h:PW X e t) (q:t σ H Q):TW' X e σ H Q:=fun wh pins s I=>h.run wh pins s σ H Q I q
theorem TA'.of{es:List Expr}{t:TA}{σ:L2.St}{H:Hp}{Q:List V→Hp→Prop} (h:PA X es t) (q:t σ H Q):TA' X es σ H Q:=fun pos pins s I=>h.run pos pins s σ H Q I q
end
abbrev eqB:List Addr→Hp→Bool→Bool→Prop:=fun _ _ a b=>a=b
structure ST (K:PySem.W.Frag) (cl:Cls) (X:Cx) (Wx:WX) (m:TM) (e:Expr):Prop where
 run:∀E0 ρ G σ st τ H Q,(bs K cl E0).Rel ρ G st H→RS K cl ρ G σ τ→Aft (bs K cl E0) eqB ρ G (m σ st) Q (fun c d H'=>Wx c d τ H')→TT' X e τ H Q
structure SW (K:PySem.W.Frag) (cl:Cls) (X:Cx) (Wx:WX) (m:TM) (e:Expr):Prop where
 run:∀E0 ρ G σ st τ H Q,(bs K cl E0).Rel ρ G st H→RS K cl ρ G σ τ→Aft (bs K cl E0) eqB ρ G (m σ st) Q (fun c d H'=>Wx c d τ H')→TW' X e τ H Q
structure SA (K:PySem.W.Frag) (cl:Cls) (X:Cx) (Wx:WX) (m:AM) (es:List Expr):Prop where
 run:∀E0 ρ G σ st τ H Q,(bs K cl E0).Rel ρ G st H→RS K cl ρ G σ τ→Aft (bs K cl E0) (bs K cl E0).RWs ρ G (m σ st) Q (fun c d H'=>Wx c d τ H')→TA' X es τ H Q
section
variable {K:PySem.W.Frag}{cl:Cls}{X:Cx}{Wx:WX}{E0:En}{ρ ρ':List Addr}{G G':Hp}{σ:Sg}{τ:L2.St}{st:List Cell}{H:Hp}
theorem Aft.newP{B:Bs}{x:P}{p:Addr}{o:HO}{Q:VK}{Z:ZX} (h:Aft B B.RW ρ G (.ok (.p x) st) Q Z) (R:B.Rel ρ G st H) (hp:H p=none) (u:RP B.K B.cl (upd G p o) x (.ref p)) (nt:NT o:=by intro _ z;cases z):Q (.ref p) (upd H p o) :=
 h ρ (upd G p o) (upd H p o) (.ref p) (Jh _) (Sub.new (R.gnone hp)) (R.froze hp nt) u
theorem Aft.newC{B:Bs}{c:Cell}{p:Addr}{o:HO}{Q:VK}{Z:ZX} (h:Aft B B.RW ρ G (.ok (.r st.length) (st++[c])) Q Z) (R:B.Rel ρ G st H) (hp:H p=none) (hc:c≠.dead) (u:CA B.K B.cl (ρ++[p]) G (upd H p o) p c):Q (.ref p) (upd H p o) :=
 h (ρ++[p]) G (upd H p o) (.ref p) (Va _ _) (Sub.refl _) (R.cellN hp hc (R.fresh0 hp) u) ⟨p,by rw[←R.len];simp,rfl⟩
def mC(x:P):EM:=fun _ st=>.ok (.p x) st
theorem se_C{x:P}{v:V}{e:Expr} (h:PE X e (tC v)) (r:∀G,RP K cl G x v):SE K cl X Wx (mC x) e :=
 ⟨fun E0 ρ G σ st τ H Q R S q=>T.of h (Aft.here (b:=v) q R (r G))⟩
theorem zAD{i:Int}{j:Nat}{pos:Pos}:SE K cl X Wx (mC (.int i)) (.Constant (.int i) j pos):=se_C pe_int fun _=>.int i
theorem zCt{i:Bool}{j:Nat}{pos:Pos}:SE K cl X Wx (mC (.bl i)) (.Constant (.bool i) j pos):=se_C pe_bl fun _=>.bl i
theorem zI9{j:Nat}{pos:Pos}:SE K cl X Wx (mC .non) (.Constant .none j pos):=se_C pe_non fun _=>.non
theorem zAl{i:Str}{j:Nat}{pos:Pos}:SE K cl X Wx (mC (.str i)) (.Constant (.str i) j pos):=se_C pe_str fun _=>.str i
theorem zKZ{x:Str}{z:P}{v:V}{u:Value}{pos:Pos} (hg:Gl X x) (hm:X.mg x=some u) (r:RelV v u) (rp:∀G,RP K cl G z v) (hd:(x==("__debug__" : Str))=false:=by decide +kernel):SE K cl X Wx (mC z) (.Name x pos):=se_C (pe_glob hg hm r hd) rp
def mBin(f:W→W→List Cell→Res W) (a b:EM):EM:=fun σ st=>(a σ st).bind fun x st1=>(b σ st1).bind fun y st2=>f x y st2
def VOp(K:PySem.W.Frag) (cl:Cls) (f:W→W→List Cell→Res W) (r:R2):Prop :=
 ∀E0 ρ G st H x y v u Q Z,(bs K cl E0).Rel ρ G st H→RW K cl ρ G x v→RW K cl ρ G y u→Aft (bs K cl E0) (bs K cl E0).RW ρ G (f x y st) Q Z→r v u H Q
theorem zRH{t:R2→TE→TE→TE}{r:R2}{f:W→W→List Cell→Res W}{a b:EM}{pa pb e:Expr} (ht:∀σ H Q,(T X pa σ H fun x H1=>T X pb σ H1 fun y H2=>r x y H2 Q)→T X e σ H Q) (hf:VOp K cl f r)
  (ha:SE K cl X Wx a pa) (hb:SE K cl X Wx b pb):SE K cl X Wx (mBin f a b) e:=by
 refine⟨fun E0 ρ G σ st τ H Q R S h=>ht τ H Q ?_⟩
 refine ha.run E0 ρ G σ st τ H _ R S (Aft.seq h fun x st1 ρ1 G1 H1 v e1 p1 s1 R1 u1 h1=>?_)
 refine hb.run E0 ρ1 G1 σ st1 τ H1 _ R1 (S.mono p1 s1) (Aft.seq h1 fun y st2 ρ2 G2 H2 u e2 p2 s2 R2 u2 h2=>?_)
 exact hf E0 ρ2 G2 st2 H2 x y v u Q _ R2 (RW.mono p2 s2 u1) u2 h2
theorem zGV{op:Operator}{r:R2}{f:W→W→List Cell→Res W}{a b:EM}{pa pb:Expr}{pos:Pos} (ho:OpR X (binaryOp op) r) (hf:VOp K cl f r) (ha:SE K cl X Wx a pa) (hb:SE K cl X Wx b pb) :
  SE K cl X Wx (mBin f a b) (.BinOp pa op pb pos):=zRH (t:=tOp) (fun σ H Q q=>T.of (pe_op ho T.pe T.pe) q) hf ha hb
theorem zK6{op:CmpOp}{r:R2}{f:W→W→List Cell→Res W}{a b:EM}{pa pb:Expr}{pos:Pos} (ho:OpR X (compareOp op) r) (hm:behindInMarks op pb=false) (hf:VOp K cl f r) (ha:SE K cl X Wx a pa) (hb:SE K cl X Wx b pb) :
  SE K cl X Wx (mBin f a b) (.Compare pa [op] [pb] pos):=zRH (t:=tOp) (fun σ H Q q=>T.of (pe_cmpR ho T.pe T.pe hm) q) hf ha hb
theorem VOp.or{f:W→W→List Cell→Res W}{r r':R2} (h:∀E0 ρ G st H x y v u Q Z,(bs K cl E0).Rel ρ G st H→RW K cl ρ G x v→RW K cl ρ G y u→Aft (bs K cl E0) (bs K cl E0).RW ρ G (f x y st) Q Z→r v u H Q∨r' v u H Q):VOp K cl f (fun x y H Q=>r x y H Q∨r' x y H Q):=h
def zIv(st:List Cell):W→Option (List W)
 | .p (.lst l)=>some (l.map .p)
 | .r i=>match st[i]? with
  |some (.lst l)=>some l
  |_=>none
 |_=>none
theorem zLX(R:(bs K cl E0).Rel ρ G st H){w:W}{v:V} (r:RW K cl ρ G w v){l:List W} (e:zIv st w=some l):∃a vs,v=.ref a∧H a=some (.lst vs)∧RWs K cl ρ G l vs:=by
 cases w with
 |p x =>
  cases x with
  |lst m =>
   obtain rfl:m.map W.p=l:=Jk e;cases r with
   |lst h q=>exact⟨_,_,rfl,R.sub _ _ h,.of_pures q⟩
  |_=>cases e
 |r i =>
  obtain⟨a,ha,rfl⟩:=r;have e:(match st[i]? with|some (.lst l)=>some l|_=>none)=some l:=e
  split at e
  ·rename_i m em
   cases e;obtain⟨b,hb,⟨vs,h1,h2⟩,_⟩:=R.at em;have hb:ρ[i]?=some b:=hb;rw[ha]at hb;cases hb;exact⟨a,vs,rfl,h1,h2⟩
  ·cases e
def LIM:Nat:=1000000
theorem zEK{n:Nat} (h:n≤LIM):n≤sizeLine:=by rw[Vq];unfold LIM at h;omega
theorem zQY{n:Nat} (h:n<LIM):n<sizeLine:=by rw[Vq];unfold LIM at h;omega
def vI2(C:Int→Int→Bool) (g:Int→Int→P):W→W→List Cell→Res W
 | .p (.int i),.p (.int j),st=>if C i j then .ok (.p (g i j)) st else .no
 |_,_,_=>.no
theorem zLQ{C:Int→Int→Bool}{g:Int→Int→P}{g':Int→Int→V} (hg:∀i j G,RP K cl G (g i j) (g' i j)){D:Int→Int→Prop} (hC:∀i j,C i j=true→D i j):VOp K cl (vI2 C g) (rI D g'):=by
 intro E0 ρ G st H x y v u Q Z R rx ry h;unfold vI2 at h;split at h
 ·rename_i i j
  cases rx;cases ry;split at h
  ·rename_i hc
   exact⟨i,j,rfl,rfl,hC i j hc,h.here R (hg i j G)⟩
  ·exact h.elim
 ·exact h.elim
theorem zGp{g:Int→Int→P}{g':Int→Int→V} (hg:∀i j G,RP K cl G (g i j) (g' i j)):VOp K cl (vI2 (fun _ _=>true) g) (rI0 g'):=by
 intro E0 ρ G st H x y v u Q Z R rx ry h;unfold vI2 at h;split at h
 ·rename_i i j
  cases rx;cases ry;exact⟨i,j,rfl,rfl,h.here R (hg i j G)⟩
 ·exact h.elim
end
section
variable {K:PySem.W.Frag}{cl:Cls}{X:Cx}{Wx:WX}{E0:En}{ρ ρ':List Addr}{G G':Hp}{σ:Sg}{τ:L2.St}{st:List Cell}{H:Hp}
def vTru(st:List Cell):W→Option Bool
 | .p .non=>some false
 | .p (.bl b)=>some b
 | .p (.int i)=>some (i != 0)
 | .p (.str s)=>if s.length≤LIM then some ((s.length:Int) != 0)else none
 | .p (.tup l)=>some (!l.isEmpty)
 | .p (.lst l)=>some (!l.isEmpty)
 | .p (.dk ks _)=>some (!ks.isEmpty)
 | .r i=>match st[i]? with
  |some (.lst l)=>some (!l.isEmpty)
  |some (.dk ks _)=>some (!ks.isEmpty)
  |_=>none
 |_=>none
theorem zJC{α β:Type}{l:List α}{m:List β} (h:l.length=m.length):(l.zip m).isEmpty=l.isEmpty:=by
 cases l with
 |nil=>rfl
 |cons a l =>
  cases m with
  |nil=>cases h
  |cons b m=>rfl
theorem zSP(R:(bs K cl E0).Rel ρ G st H){w:W}{v:V} (r:RW K cl ρ G w v){k:Bool} (e:vTru st w=some k):TruV K v H k:=by
 cases w with
 |p x =>
  cases r with
  |non=>exact(Jk e).symm
  |bl b=>exact(Jk e).symm
  |int i=>exact(Jk e).symm
  |str s =>
   have e:(if s.length≤LIM then some ((s.length:Int) != 0)else none)=some k:=e
   split at e
   ·rename_i h
    exact⟨zEK h,(Jk e).symm⟩
   ·cases e
  |tup h q=>exact .inr (.inl ⟨_,R.sub.sqT h,by rw[←q.empty];exact(Jk e).symm⟩)
  |lst h q=>exact .inl ⟨_,.inl (.inl (R.sub _ _ h)),by rw[←q.empty];exact(Jk e).symm⟩
  |dk h z q=>exact .inr (.inr ⟨_,R.sub _ _ h,by rw[zJC z];exact(Jk e).symm⟩)
  |scr h=>cases e
  |obj c h z q=>cases e
  |exn c x h d z q=>cases e
  |lam _ _ _ _ _=>cases e
  |cls _=>cases e
  |fd _ _ _=>cases e
  |fn _ _ _ _ _ _ _=>cases e
 |r i =>
  obtain⟨a,ha,rfl⟩:=r;have e:(match st[i]? with|some (.lst l)=>some (!l.isEmpty)|some (.dk ks _)=>some (!ks.isEmpty)|_=>none)=some k:=e
  split at e
  ·rename_i m em
   obtain⟨b,hb,⟨vs,h1,h2⟩,_⟩:=R.at em;have hb:ρ[i]?=some b:=hb;rw[ha]at hb;cases hb;exact .inl ⟨vs,.inl (.inl h1),by rw[←h2.empty];exact(Jk e).symm⟩
  ·rename_i ks l em
   obtain⟨b,hb,⟨vs,h1,z,h2⟩,_⟩:=R.at em;have hb:ρ[i]?=some b:=hb;rw[ha]at hb;cases hb;exact .inr (.inr ⟨_,h1,by rw[zJC z];exact(Jk e).symm⟩)
  ·cases e
def mTru(m:EM):TM:=fun σ st=>(m σ st).bind fun w st1=>match vTru st1 w with
 |some k=>.ok k st1
 |none=>.no
theorem zBF{a:EM}{pa:Expr} (g:GX K X) (ha:SE K cl X Wx a pa) (he:∀whole,isTrue pa X.env whole=(do let v ←whole;standAt pa.pos;holding [v] (truthy v))):ST K cl X Wx (mTru a) pa:=by
 obtain⟨hK,_⟩:=g;subst hK;refine⟨fun E0 ρ G σ st τ H Q R S h=>TT'.of (pt_truth T.pe he) ?_⟩
 refine ha.run E0 ρ G σ st τ H _ R S (Aft.seq h fun x st1 ρ1 G1 H1 v e1 p1 s1 R1 u1 h1=>?_)
 cases e:vTru st1 x with
 |some k =>
  rw[e]at h1;exact⟨k,zSP R1 u1 e,h1.here R1 rfl⟩
 |none=>rw[e]at h1;exact h1.elim
def mTst(m:EM):TM:=fun σ st=>(m σ st).bind fun w st1=>match w with
 | .p (.bl k)=>.ok k st1
 |_=>.no
theorem zEB{op:CmpOp}{r:R2}{f:W→W→List Cell→Res W}{a b:EM}{pa pb:Expr}{pos:Pos} (ho:OpR X (compareOp op) r) (hm:behindInMarks op pb=false) (hf:VOp K cl f r) (ha:SE K cl X Wx a pa) (hb:SE K cl X Wx b pb) :
  ST K cl X Wx (mTst (mBin f a b)) (.Compare pa [op] [pb] pos):=by
 refine⟨fun E0 ρ G σ st τ H Q R S h=>TT'.of (pt_cmpR ho T.pe T.pe hm) ?_⟩
 have h:Aft (bs K cl E0) eqB ρ G ((a σ st).bind fun x st1=>(b σ st1).bind fun y st2=>(f x y st2).bind fun w st3=>match w with | .p (.bl k)=>.ok k st3|_=>.no) Q (fun c d H'=>Wx c d τ H'):=by
  have e:mTst (mBin f a b) σ st=((a σ st).bind fun x st1=>(b σ st1).bind fun y st2=>(f x y st2).bind fun w st3=>match w with | .p (.bl k)=>.ok k st3|_=>.no):=by
   unfold mTst mBin Res.bind;cases a σ st with
   |ok x st1 =>
    dsimp only;cases b σ st1 with
    |ok y st2=>rfl
    |exc _ _=>rfl
    |no=>rfl
   |exc _ _=>rfl
   |no=>rfl
  rw[←e];exact h
 refine ha.run E0 ρ G σ st τ H _ R S (Aft.seq h fun x st1 ρ1 G1 H1 v e1 p1 s1 R1 u1 h1=>?_)
 refine hb.run E0 ρ1 G1 σ st1 τ H1 _ R1 (S.mono p1 s1) (Aft.seq h1 fun y st2 ρ2 G2 H2 u e2 p2 s2 R2 u2 h2=>?_)
 refine hf E0 ρ2 G2 st2 H2 x y v u _ _ R2 (RW.mono p2 s2 u1) u2 (Aft.seq h2 fun w st3 ρ3 G3 H3 z e3 p3 s3 R3 u3 h3=>?_)
 cases w with
 |p w =>
  cases u3 with
  |bl k=>exact⟨k,rfl,h3.here R3 rfl⟩
  |_=>exact h3.elim
 |r i=>exact h3.elim
def zEX(a b:TM):TM:=fun σ st=>(a σ st).bind fun c st1=>if c=true then b σ st1 else .ok false st1
def mOrT(a b:TM):TM:=fun σ st=>(a σ st).bind fun c st1=>if c=true then .ok true st1 else b σ st1
def zBq(a:TM):TM:=fun σ st=>(a σ st).bind fun c st1=>.ok (!c) st1
theorem zDS{a:TM}{pa:Expr} (h:SW K cl X Wx a pa):ST K cl X Wx a pa:=⟨fun E0 ρ G σ st τ H Q R S q=>TT'.of (TW'.pw.pt) (h.run E0 ρ G σ st τ H Q R S q)⟩
theorem zEt{a:TM}{pa:Expr}{pos:Pos} (h:ST K cl X Wx a pa):SW K cl X Wx a (.BoolOp .And [pa] pos):=⟨fun E0 ρ G σ st τ H Q R S q=>TW'.of (pw_and1 TT'.pt) (h.run E0 ρ G σ st τ H Q R S q)⟩
theorem zDN{a:TM}{pa:Expr}{pos:Pos} (h:ST K cl X Wx a pa):SW K cl X Wx a (.BoolOp .Or [pa] pos):=⟨fun E0 ρ G σ st τ H Q R S q=>TW'.of (pw_or1 TT'.pt) (h.run E0 ρ G σ st τ H Q R S q)⟩
theorem zFd{a b:TM}{pa pb:Expr}{rest:List Expr}{pos:Pos} (ha:ST K cl X Wx a pa) (hb:SW K cl X Wx b (.BoolOp .And (pb::rest) pos)):SW K cl X Wx (zEX a b) (.BoolOp .And (pa::pb::rest) pos):=by
 refine⟨fun E0 ρ G σ st τ H Q R S h=>TW'.of (pw_and TT'.pt TW'.pw) ?_⟩
 refine ha.run E0 ρ G σ st τ H _ R S (Aft.seq h fun c st1 ρ1 G1 H1 d e1 p1 s1 R1 u1 h1=>?_)
 obtain rfl:c=d:=u1;cases c with
 |true=>exact hb.run E0 ρ1 G1 σ st1 τ H1 Q R1 (S.mono p1 s1) h1
 |false=>exact h1.here R1 rfl
theorem zE1{a b:TM}{pa pb:Expr}{rest:List Expr}{pos:Pos} (ha:ST K cl X Wx a pa) (hb:SW K cl X Wx b (.BoolOp .Or (pb::rest) pos)):SW K cl X Wx (mOrT a b) (.BoolOp .Or (pa::pb::rest) pos):=by
 refine⟨fun E0 ρ G σ st τ H Q R S h=>TW'.of (pw_or TT'.pt TW'.pw) ?_⟩
 refine ha.run E0 ρ G σ st τ H _ R S (Aft.seq h fun c st1 ρ1 G1 H1 d e1 p1 s1 R1 u1 h1=>?_)
 obtain rfl:c=d:=u1;cases c with
 |true=>exact h1.here R1 rfl
 |false=>exact hb.run E0 ρ1 G1 σ st1 τ H1 Q R1 (S.mono p1 s1) h1
theorem zCj{a:TM}{pa:Expr}{pos:Pos} (ha:ST K cl X Wx a pa):ST K cl X Wx (zBq a) (.UnaryOp .Not pa pos):=by
 refine⟨fun E0 ρ G σ st τ H Q R S h=>TT'.of (pt_not TT'.pt) ?_⟩
 refine ha.run E0 ρ G σ st τ H _ R S (Aft.seq h fun c st1 ρ1 G1 H1 d e1 p1 s1 R1 u1 h1=>?_)
 obtain rfl:c=d:=u1;exact h1.here R1 rfl
def zCu(a b:EM):EM:=fun σ st=>(a σ st).bind fun w st1=>match w with
 | .p (.bl c)=>if c=true then b σ st1 else .ok (.p (.bl false)) st1
 |_=>.no
def mOrV(a b:EM):EM:=fun σ st=>(a σ st).bind fun w st1=>match w with
 | .p (.bl c)=>if c=true then .ok (.p (.bl true)) st1 else b σ st1
 |_=>.no
def zJu(a:EM):EM:=fun σ st=>(a σ st).bind fun w st1=>match w with
 | .p (.bl c)=>.ok (.p (.bl (!c))) st1
 |_=>.no
theorem zDP{op:BoolOp}{a:EM}{pa:Expr}{pos:Pos} (h:SE K cl X Wx a pa):SE K cl X Wx a (.BoolOp op [pa] pos):=⟨fun E0 ρ G σ st τ H Q R S q=>T.of (pe_one T.pe) (h.run E0 ρ G σ st τ H Q R S q)⟩
theorem zCq{a b:EM}{pa pb:Expr}{rest:List Expr}{pos:Pos} (ha:SE K cl X Wx a pa) (hb:SE K cl X Wx b (.BoolOp .And (pb::rest) pos)):SE K cl X Wx (zCu a b) (.BoolOp .And (pa::pb::rest) pos):=by
 refine⟨fun E0 ρ G σ st τ H Q R S h=>T.of (pe_and T.pe T.pe) ?_⟩
 refine ha.run E0 ρ G σ st τ H _ R S (Aft.seq h fun w st1 ρ1 G1 H1 v e1 p1 s1 R1 u1 h1=>?_)
 cases w with
 |p w =>
  cases u1 with
  |bl c =>
   refine⟨c,rfl,?_⟩;cases c with
   |true=>exact hb.run E0 ρ1 G1 σ st1 τ H1 Q R1 (S.mono p1 s1) h1
   |false=>exact Aft.here (b:=V.bl false) h1 R1 (RP.bl false)
  |_=>exact h1.elim
 |r i=>exact h1.elim
theorem se_or{a b:EM}{pa pb:Expr}{rest:List Expr}{pos:Pos} (ha:SE K cl X Wx a pa) (hb:SE K cl X Wx b (.BoolOp .Or (pb::rest) pos)):SE K cl X Wx (mOrV a b) (.BoolOp .Or (pa::pb::rest) pos):=by
 refine⟨fun E0 ρ G σ st τ H Q R S h=>T.of (pe_or T.pe T.pe) ?_⟩
 refine ha.run E0 ρ G σ st τ H _ R S (Aft.seq h fun w st1 ρ1 G1 H1 v e1 p1 s1 R1 u1 h1=>?_)
 cases w with
 |p w =>
  cases u1 with
  |bl c =>
   refine⟨c,rfl,?_⟩;cases c with
   |true=>exact Aft.here (b:=V.bl true) h1 R1 (RP.bl true)
   |false=>exact hb.run E0 ρ1 G1 σ st1 τ H1 Q R1 (S.mono p1 s1) h1
  |_=>exact h1.elim
 |r i=>exact h1.elim
theorem zOb{a:EM}{pa:Expr}{pos:Pos} (ha:SE K cl X Wx a pa):SE K cl X Wx (zJu a) (.UnaryOp .Not pa pos):=by
 refine⟨fun E0 ρ G σ st τ H Q R S h=>T.of (pe_not T.pe) ?_⟩
 refine ha.run E0 ρ G σ st τ H _ R S (Aft.seq h fun w st1 ρ1 G1 H1 v e1 p1 s1 R1 u1 h1=>?_)
 cases w with
 |p w =>
  cases u1 with
  |bl c=>exact⟨c,rfl,Aft.here (b:=V.bl (!c)) h1 R1 (RP.bl (!c))⟩
  |_=>exact h1.elim
 |r i=>exact h1.elim
def mIfE(c:TM) (a b:EM):EM:=fun σ st=>(c σ st).bind fun k st1=>if k=true then a σ st1 else b σ st1
theorem zL1{c:TM}{a b:EM}{pc pa pb:Expr}{pos:Pos} (hc:ST K cl X Wx c pc) (ha:SE K cl X Wx a pa) (hb:SE K cl X Wx b pb):SE K cl X Wx (mIfE c a b) (.IfExp pc pa pb pos):=by
 refine⟨fun E0 ρ G σ st τ H Q R S h=>T.of (pe_ifExp TT'.pt T.pe T.pe) ?_⟩
 refine hc.run E0 ρ G σ st τ H _ R S (Aft.seq h fun k st1 ρ1 G1 H1 d e1 p1 s1 R1 u1 h1=>?_)
 obtain rfl:k=d:=u1;cases k with
 |true=>exact ha.run E0 ρ1 G1 σ st1 τ H1 Q R1 (S.mono p1 s1) h1
 |false=>exact hb.run E0 ρ1 G1 σ st1 τ H1 Q R1 (S.mono p1 s1) h1
def mNil:AM:=fun _ st=>.ok [] st
def zAB(a:EM) (r:AM):AM:=fun σ st=>(a σ st).bind fun w st1=>(r σ st1).bind fun ws st2=>.ok (w::ws) st2
theorem zAC:SA K cl X Wx mNil []:=⟨fun E0 ρ G σ st τ H Q R S h=>TA'.of pa_nil (Aft.here (b:=([]:List V)) h R .nil)⟩
theorem zAA{a:EM}{r:AM}{e:Expr}{es:List Expr} (ha:SE K cl X Wx a e) (hr:SA K cl X Wx r es) (hs:starEach (e::es) X.env=(false,eval e X.env)::starEach es X.env):SA K cl X Wx (zAB a r) (e::es):=by
 refine⟨fun E0 ρ G σ st τ H Q R S h=>TA'.of (jp T.pe TA'.pa hs) ?_⟩
 refine ha.run E0 ρ G σ st τ H _ R S (Aft.seq h fun w st1 ρ1 G1 H1 v e1 p1 s1 R1 u1 h1=>?_)
 refine hr.run E0 ρ1 G1 σ st1 τ H1 _ R1 (S.mono p1 s1) (Aft.seq h1 fun ws st2 ρ2 G2 H2 vs e2 p2 s2 R2 u2 h2=>?_)
 exact Aft.here (b:=v::vs) h2 R2 (.cons (RW.mono p2 s2 u1) u2)
def mTup(a:AM):EM:=fun σ st=>(a σ st).bind fun ws st1=>match pures ws with
 |some l=>if l.length≤LIM then .ok (.p (.tup l)) st1 else .no
 |none=>.no
def mLst(a:AM):EM:=fun σ st=>(a σ st).bind fun ws st1=>match pures ws with
 |some l=>if l.length≤LIM then .ok (.p (.lst l)) st1 else .no
 |none=>.no
def zDB(a:AM):EM:=fun σ st=>(a σ st).bind fun ws st1=>if ws.length≤LIM then .ok (.r st1.length) (st1++[.lst ws])else .no
theorem zAb{a:AM}{es:List Expr}{k:Nat}{pos:Pos} (ha:SA K cl X Wx a es):SE K cl X Wx (mTup a) (.Tuple es k pos):=by
 refine⟨fun E0 ρ G σ st τ H Q R S h=>T.of (pe_tup TA'.pa) ?_⟩
 refine ha.run E0 ρ G σ st τ H _ R S (Aft.seq h fun ws st1 ρ1 G1 H1 vs e1 p1 s1 R1 u1 h1=>?_)
 cases e:pures ws with
 |none=>rw[e]at h1;exact h1.elim
 |some l =>
  rw[e]at h1;have q:=u1.pures e;dsimp only at h1;split at h1
  ·rename_i hl
   refine⟨by rw[←q.length];exact zEK hl,fun p hp=>?_⟩
   exact h1.newP R1 hp (.tup (.inl (.inl JC)) (q.mono (Sub.new (R1.gnone hp))))
  ·exact h1.elim
theorem zDH{a:AM}{es:List Expr}{pos:Pos} (ha:SA K cl X Wx a es):SE K cl X Wx (mLst a) (.List es pos):=by
 refine⟨fun E0 ρ G σ st τ H Q R S h=>T.of (pe_lst TA'.pa) ?_⟩
 refine ha.run E0 ρ G σ st τ H _ R S (Aft.seq h fun ws st1 ρ1 G1 H1 vs e1 p1 s1 R1 u1 h1=>?_)
 cases e:pures ws with
 |none=>rw[e]at h1;exact h1.elim
 |some l =>
  rw[e]at h1;have q:=u1.pures e;dsimp only at h1;split at h1
  ·rename_i hl
   refine⟨by rw[←q.length];exact zEK hl,fun p hp=>?_⟩
   exact h1.newP R1 hp (.lst JC (q.mono (Sub.new (R1.gnone hp))))
  ·exact h1.elim
theorem zCM{a:AM}{es:List Expr}{pos:Pos} (ha:SA K cl X Wx a es):SE K cl X Wx (zDB a) (.List es pos):=by
 refine⟨fun E0 ρ G σ st τ H Q R S h=>T.of (pe_lst TA'.pa) ?_⟩
 refine ha.run E0 ρ G σ st τ H _ R S (Aft.seq h fun ws st1 ρ1 G1 H1 vs e1 p1 s1 R1 u1 h1=>?_)
 split at h1
 ·rename_i hl
  refine⟨by rw[←u1.length];exact zEK hl,fun p hp=>?_⟩
  exact h1.newC R1 hp (fun z=>by cases z) ⟨vs,JC,RWs.mono (Va _ _) (Sub.refl _) u1⟩
 ·exact h1.elim
def zGK(K:PySem.W.Frag) (cl:Cls) (f:List W→List Cell→Res W) (r:List V→Hp→VK→Prop):Prop :=
 ∀E0 ρ G st H ws vs Q Z,(bs K cl E0).Rel ρ G st H→RWs K cl ρ G ws vs→Aft (bs K cl E0) (bs K cl E0).RW ρ G (f ws st) Q Z→r vs H Q
def zAH(f:List W→List Cell→Res W) (a:AM):EM:=fun σ st=>(a σ st).bind f
theorem zAJ{id:String}{r:List V→Hp→VK→Prop}{f:List W→List Cell→Res W}{a:AM}{x:Str}{p pos:Pos}{e:Expr}{es:List Expr} (hc:CallR X (.builtin id) r) (hf:zGK K cl f r) (hg:Gl X x) (hm:X.mg x=none) (hv:bootBuiltins x=some (.builtin id))
  (ha:SA K cl X Wx a (e::es)) (hn:x ≠ "__name__") (hdb:(x==("__debug__" : Str))=false)
  (he:starEach (e::es) X.env=(false,eval e X.env)::starEach es X.env) (hpl:(backTo pos (starEach es X.env)).any (·.1)=false):SE K cl X Wx (zAH f a) (.Call (.Name x p) (e::es) [] pos):=by
 refine⟨fun E0 ρ G σ st τ H Q R S h=>T.of (pe_callB hc hg hm hv TA'.pa hn hdb he hpl) ?_⟩
 exact ha.run E0 ρ G σ st τ H _ R S (Aft.seq h fun ws st1 ρ1 G1 H1 vs e1 p1 s1 R1 u1 h1=>hf E0 ρ1 G1 st1 H1 ws vs Q _ R1 u1 h1)
theorem zA7{id:String}{r:List V→Hp→VK→Prop}{f:List W→List Cell→Res W}{a:AM}{x:Str}{p pos:Pos}{e:Expr}{es:List Expr} (hc:CallR X (.type id) r) (hf:zGK K cl f r) (hg:Gl X x) (hm:X.mg x=none) (hv:bootBuiltins x=some (.type id))
  (ha:SA K cl X Wx a (e::es)) (hn:x ≠ "__name__") (hdb:(x==("__debug__" : Str))=false)
  (he:starEach (e::es) X.env=(false,eval e X.env)::starEach es X.env) (hpl:(backTo pos (starEach es X.env)).any (·.1)=false):SE K cl X Wx (zAH f a) (.Call (.Name x p) (e::es) [] pos):=by
 refine⟨fun E0 ρ G σ st τ H Q R S h=>T.of (pe_callTy hc hg hm hv TA'.pa hn hdb he hpl) ?_⟩
 exact ha.run E0 ρ G σ st τ H _ R S (Aft.seq h fun ws st1 ρ1 G1 H1 vs e1 p1 s1 R1 u1 h1=>hf E0 ρ1 G1 st1 H1 ws vs Q _ R1 u1 h1)
theorem se_ix{r:R2}{f:W→W→List Cell→Res W}{a b:EM}{pa pb:Expr}{pos:Pos} (hr:IxR X r) (hf:VOp K cl f r) (hs:PlainIx pb) (ha:SE K cl X Wx a pa) (hb:SE K cl X Wx b pb) :
  SE K cl X Wx (mBin f a b) (.Subscript pa pb pos):=zRH (t:=tOp) (fun σ H Q q=>T.of (pe_ix hr T.pe T.pe hs) q) hf ha hb
theorem RWs.atI{l:List W}{vs:List V} (r:RWs K cl ρ G l vs){i:Int}{w:W} (h:L2.atI l i=some w):∃v,L2.atI vs i=some v∧RW K cl ρ G w v:=by
 unfold L2.atI at h ⊢;rw[←r.length];cases e:ixN l.length i with
 |none=>rw[e]at h;cases h
 |some j =>
  rw[e]at h;exact r.get h
theorem RPs.atI{l:List P}{vs:List V} (r:RPs K cl G l vs){i:Int}{w:P} (h:L2.atI l i=some w):∃v,L2.atI vs i=some v∧RP K cl G w v:=by
 unfold L2.atI at h ⊢;rw[←r.length];cases e:ixN l.length i with
 |none=>rw[e]at h;cases h
 |some j =>
  rw[e]at h;exact r.get h
def vIx(x y:W) (st:List Cell):Res W:=match y with
 | .p (.int i)=>match x with
  | .p (.tup l)=>match L2.atI l i with
   |some z=>.ok (.p z) st
   |none=>.no
  | .p (.str s)=>if s.length≤LIM then match L2.atI s.cps.toList i with
   |some c=>.ok (.p (.str ⟨#[c]⟩)) st
   |none=>.no else .no
  |_=>match zIv st x with
   |some l=>match L2.atI l i with
    |some z=>.ok z st
    |none=>.no
   |none=>.no
 |_=>.no
theorem vIx_ok:VOp K cl vIx (rIx K):=by
 intro E0 ρ G st H x y v u Q Z R rx ry h;unfold vIx at h;split at h
 ·rename_i i
  cases ry;split at h
  ·rename_i l
   cases rx with
   |tup hs q =>
    split at h
    ·rename_i z e
     obtain⟨v,e2,r2⟩:=q.atI e;exact .inr (.inl ⟨_,_,i,v,rfl,rfl,R.sub.sqT hs,e2,h.here R r2⟩)
    ·exact h.elim
  ·rename_i s
   cases rx;split at h
   ·rename_i hl
    split at h
    ·rename_i c e
     exact .inr (.inr ⟨s,i,c,rfl,rfl,zEK hl,e,h.here R (RP.str _)⟩)
    ·exact h.elim
   ·exact h.elim
  ·split at h
   ·rename_i l e
    obtain⟨a,vs,rfl,h1,h2⟩:=zLX R rx e;split at h
    ·rename_i z e2
     obtain⟨v,e3,r3⟩:=h2.atI e2;exact .inl ⟨a,vs,i,v,rfl,rfl,.inl (.inl h1),e3,h.here R r3⟩
    ·exact h.elim
   ·exact h.elim
 ·exact h.elim
def vLen(ws:List W) (st:List Cell):Res W:=match ws with
 |[.p (.tup l)]=>.ok (.p (.int l.length)) st
 |[.p (.str s)]=>if s.length≤LIM then .ok (.p (.int s.length)) st else .no
 |[.p (.dk ks _)]=>.ok (.p (.int ks.length)) st
 |[w]=>match zIv st w with
  |some l=>.ok (.p (.int l.length)) st
  |none=>match w with
   | .r i=>match st[i]? with
    |some (.dk ks _)=>.ok (.p (.int ks.length)) st
    |_=>.no
   |_=>.no
 |_=>.no
def rLen(K:PySem.W.Frag):List V→Hp→VK→Prop:=fun xs H Q=>(∃x n,xs=[x]∧LenV K x H n∧Q (.int n) H)∨∃a kvs,xs=[V.ref a]∧H a=some (.dK kvs)∧Q (.int kvs.length) H
theorem zAK:CallR X (.builtin "len") (rLen X.K):=call_len.or call_lenD
theorem zHz{α β:Type}{l:List α}{m:List β} (h:l.length=m.length):(l.zip m).length=l.length:=by
 rw[Yg,h,Nat.min_self]
theorem zAO:zGK K cl vLen (rLen K):=by
 intro E0 ρ G st H ws vs Q Z R rw' h;unfold vLen at h;split at h
 ·rename_i l
  cases rw' with
  |cons r rn =>
   cases rn;cases r with
   |tup hs q=>exact .inl ⟨_,_,rfl,.inr ⟨_,R.sub.sqT hs,rfl⟩,by rw[←q.length];exact h.here R (RP.int _)⟩
 ·rename_i s
  cases rw' with
  |cons r rn =>
   cases rn;cases r;split at h
   ·rename_i hl
    exact .inl ⟨_,_,rfl,⟨zEK hl,rfl⟩,h.here R (RP.int _)⟩
   ·exact h.elim
 ·rename_i ks l
  cases rw' with
  |cons r rn =>
   cases rn;cases r with
   |dk hs z q=>exact .inr ⟨_,_,rfl,R.sub _ _ hs,by rw[zHz z];exact h.here R (RP.int _)⟩
 ·rename_i w _ _ _
  cases rw' with
  |cons r rn =>
   cases rn;split at h
   ·rename_i l e
    obtain⟨a,vs,rfl,h1,h2⟩:=zLX R r e;exact .inl ⟨_,_,rfl,.inl ⟨vs,.inl (.inl h1),rfl⟩,by rw[←h2.length];exact h.here R (RP.int _)⟩
   ·split at h
    ·rename_i i _
     obtain⟨a,ha,rfl⟩:=r;split at h
     ·rename_i ks l em
      obtain⟨b,hb,⟨vs,h1,z,h2⟩,_⟩:=R.at em;cases Jk (ha.symm.trans hb);exact .inr ⟨_,_,rfl,h1,by rw[zHz z];exact h.here R (RP.int _)⟩
     ·exact h.elim
    ·exact h.elim
 ·exact h.elim
end
def SR.then(r:SR) (k:Sg→List Cell→SR):SR:=match r with
 | .ok .nx σ st=>k σ st
 |r=>r
def Res.to{α:Type} (r:Res α) (σ:Sg) (k:α→List Cell→SR):SR:=match r with
 | .ok a st=>k a st
 | .exc x st=>.exc x σ st
 | .no=>.no
def AftS(B:Bs) (ρ:List Addr) (G:Hp) (R:SR) (D:Ends) (Wx:WX):Prop:=match R with
 | .ok f σ st=>∀ρ' G' H' τ',ρ <+: ρ'→Sub G G'→B.Rel ρ' G' st H'→B.RS ρ' G' σ τ'→(match f with
  | .nx=>D.nx τ' H'
  | .bk=>D.bk τ' H'
  | .ct=>D.ct τ' H'
  | .rt w=>∀v,B.RW ρ' G' w v→D.rt v H')
 | .exc x σ st=>∀ρ' G' H' τ' cls d,ρ <+: ρ'→Sub G G'→B.Rel ρ' G' st H'→B.RS ρ' G' σ τ'→RX B.K B.cl G' H' x cls d→Wx cls d τ' H'
 | .no=>False
def TS'(X:Cx) (e:Stmt):TS:=fun D σ H=>∀(pins:List (Addr×Obj)) (s:Shared),Inv X pins σ H s→wpAny (model X.prog X.w) X.A (exec e X.env) (SP X pins D) X.xe s
def TSs'(X:Cx) (e:List Stmt):TS:=fun D σ H=>∀(pins:List (Addr×Obj)) (s:Shared),Inv X pins σ H s→wpAny (model X.prog X.w) X.A (execs e X.env) (SP X pins D) X.xe s
theorem TS'.ps{X:Cx}{e:Stmt}:PS X e (TS' X e):=⟨fun pins s σ H Q I h=>h pins s I⟩
theorem TSs'.pss{X:Cx}{e:List Stmt}:PSs X e (TSs' X e):=⟨fun pins s σ H Q I h=>h pins s I⟩
theorem TS'.of{X:Cx}{e:Stmt}{t:TS}{σ:L2.St}{H:Hp}{D:Ends} (h:PS X e t) (q:t D σ H):TS' X e D σ H:=fun pins s I=>h.run pins s σ H D I q
theorem TSs'.of{X:Cx}{e:List Stmt}{t:TS}{σ:L2.St}{H:Hp}{D:Ends} (h:PSs X e t) (q:t D σ H):TSs' X e D σ H:=fun pins s I=>h.run pins s σ H D I q
structure SS (K:PySem.W.Frag) (cl:Cls) (X:Cx) (Wx:WX) (m:SMm) (e:Stmt):Prop where
 run:∀E0 ρ G σ st τ H D,(bs K cl E0).Rel ρ G st H→RS K cl ρ G σ τ→AftS (bs K cl E0) ρ G (m σ st) D Wx→TS' X e D τ H
structure SSs (K:PySem.W.Frag) (cl:Cls) (X:Cx) (Wx:WX) (m:SMm) (e:List Stmt):Prop where
 run:∀E0 ρ G σ st τ H D,(bs K cl E0).Rel ρ G st H→RS K cl ρ G σ τ→AftS (bs K cl E0) ρ G (m σ st) D Wx→TSs' X e D τ H
section
variable {K:PySem.W.Frag}{cl:Cls}{X:Cx}{Wx:WX}{E0:En}{ρ ρ':List Addr}{G G':Hp}{σ:Sg}{τ:L2.St}{st:List Cell}{H:Hp}{D:Ends}
theorem AftS.mono{B:Bs}{R:SR} (p:ρ <+: ρ') (s:Sub G G') (h:AftS B ρ G R D Wx):AftS B ρ' G' R D Wx:=by
 cases R with
 |ok f σ st=>exact fun ρ2 G2 H2 b p2 s2 r u=>h ρ2 G2 H2 b (p.trans p2) (s.trans s2) r u
 |exc x σ st=>exact fun ρ2 G2 H2 τ c d p2 s2 r u=>h ρ2 G2 H2 τ c d (p.trans p2) (s.trans s2) r u
 |no=>exact h
theorem AftS.nx{B:Bs} (h:AftS B ρ G (.ok .nx σ st) D Wx) (R:B.Rel ρ G st H) (S:B.RS ρ G σ τ):D.nx τ H:=h ρ G H τ (Jh _) (Sub.refl _) R S
theorem AftS.rt{B:Bs}{w:W}{v:V} (h:AftS B ρ G (.ok (.rt w) σ st) D Wx) (R:B.Rel ρ G st H) (S:B.RS ρ G σ τ) (u:B.RW ρ G w v):D.rt v H:=h ρ G H τ (Jh _) (Sub.refl _) R S v u
theorem AftS.seq{B:Bs}{α β:Type}{U:List Addr→Hp→α→β→Prop}{R:Res α}{k:α→List Cell→SR}{Q':β→Hp→Prop} (S:B.RS ρ G σ τ) (h:AftS B ρ G (R.to σ k) D Wx)
  (g:∀a st ρ' G' H' b,R=.ok a st→ρ <+: ρ'→Sub G G'→B.Rel ρ' G' st H'→U ρ' G' a b→AftS B ρ' G' (k a st) D Wx→Q' b H'):Aft B U ρ G R Q' (fun c d H'=>Wx c d τ H'):=by
 cases R with
 |ok a st=>exact fun ρ2 G2 H2 b p s r u=>g a st ρ2 G2 H2 b rfl p s r u (AftS.mono p s h)
 |exc x st=>exact fun ρ2 G2 H2 c d p s r u=>h ρ2 G2 H2 τ c d p s r (S.mono p s) u
 |no=>exact h
theorem AftS.thn{B:Bs}{R:SR}{k:Sg→List Cell→SR}{D':Ends} (h:AftS B ρ G (R.then k) D Wx)
  (g:∀σ st ρ' G' H' τ',R=.ok .nx σ st→ρ <+: ρ'→Sub G G'→B.Rel ρ' G' st H'→B.RS ρ' G' σ τ'→AftS B ρ' G' (k σ st) D Wx→D'.nx τ' H') (hr:D'.rt=D.rt) (hb:D'.bk=D.bk) (hc:D'.ct=D.ct):AftS B ρ G R D' Wx:=by
 cases R with
 |ok f σ st =>
  cases f with
  |nx=>exact fun ρ2 G2 H2 τ2 p s r u=>g σ st ρ2 G2 H2 τ2 rfl p s r u (AftS.mono p s h)
  |rt w=>intro ρ2 G2 H2 τ2 p s r u v q;rw[hr];exact h ρ2 G2 H2 τ2 p s r u v q
  |bk=>intro ρ2 G2 H2 τ2 p s r u;show D'.bk τ2 H2;rw[hb];exact h ρ2 G2 H2 τ2 p s r u
  |ct=>intro ρ2 G2 H2 τ2 p s r u;show D'.ct τ2 H2;rw[hc];exact h ρ2 G2 H2 τ2 p s r u
 |exc x σ st=>exact h
 |no=>exact h.elim
def sNx:SMm:=fun σ st=>.ok .nx σ st
def sSeq(a b:SMm):SMm:=fun σ st=>(a σ st).then b
theorem zAa:SSs K cl X Wx sNx []:=⟨fun E0 ρ G σ st τ H D R S h=>TSs'.of pss_nil (AftS.nx h R S)⟩
theorem zAI{a:SMm}{s:Stmt} (h:SS K cl X Wx a s):SSs K cl X Wx a [s]:=⟨fun E0 ρ G σ st τ H D R S q=>TSs'.of (pss_one TS'.ps) (h.run E0 ρ G σ st τ H D R S q)⟩
theorem zAE{a b:SMm}{s:Stmt}{ss:List Stmt} (h1:SS K cl X Wx a s) (h2:SSs K cl X Wx b ss):SSs K cl X Wx (sSeq a b) (s::ss):=by
 refine⟨fun E0 ρ G σ st τ H D R S h=>TSs'.of (pss_cons TS'.ps TSs'.pss) ?_⟩
 refine h1.run E0 ρ G σ st τ H _ R S (AftS.thn (D' := { D with nx:=TSs' X ss D }) h (fun σ1 st1 ρ1 G1 H1 τ1 e p s R1 S1 h1=>?_) rfl rfl rfl)
 exact h2.run E0 ρ1 G1 σ1 st1 τ1 H1 D R1 S1 h1
def sBrk:SMm:=fun σ st=>.ok .bk σ st
def sCnt:SMm:=fun σ st=>.ok .ct σ st
theorem zPg{pos:Pos}:SS K cl X Wx sBrk (.Break pos):=⟨fun E0 ρ G σ st τ H D R S h=>TS'.of ps_break (h ρ G H τ (Jh _) (Sub.refl _) R S)⟩
theorem zSG{pos:Pos}:SS K cl X Wx sCnt (.Continue pos):=⟨fun E0 ρ G σ st τ H D R S h=>TS'.of ps_continue (h ρ G H τ (Jh _) (Sub.refl _) R S)⟩
def sRet(m:EM):SMm:=fun σ st=>(m σ st).to σ fun w st1=>.ok (.rt w) σ st1
theorem zAN{m:EM}{e:Expr}{pos:Pos} (h:SE K cl X Wx m e):SS K cl X Wx (sRet m) (.Return (some e) pos):=by
 refine⟨fun E0 ρ G σ st τ H D R S q=>TS'.of (ps_ret T.pe) ?_⟩
 exact h.run E0 ρ G σ st τ H _ R S (AftS.seq S q fun w st1 ρ1 G1 H1 v e1 p1 s1 R1 u1 h1=>AftS.rt h1 R1 (RS.mono p1 s1 S) u1)
def zBo(m:EM):SMm:=fun σ st=>(m σ st).to σ fun _ st1=>.ok .nx σ st1
theorem zBD{m:EM}{e:Expr}{pos:Pos} (h:SE K cl X Wx m e) (hs:swapsWith e none pos.line X.env=pure false):SS K cl X Wx (zBo m) (.Expr e pos):=by
 refine⟨fun E0 ρ G σ st τ H D R S q=>TS'.of (ps_expr T.pe hs) ?_⟩
 exact h.run E0 ρ G σ st τ H _ R S (AftS.seq S q fun w st1 ρ1 G1 H1 v e1 p1 s1 R1 u1 h1=>AftS.nx h1 R1 (RS.mono p1 s1 S))
def sSet(i:Nat) (m:EM):SMm:=fun σ st=>(m σ st).to σ fun w st1=>.ok .nx (σ.set i (some w)) st1
theorem zAZ{i:Nat}{m:EM}{x:Str}{e:Expr}{pos pos':Pos} (g:GX K X) (hi:X.N[i]?=some x) (hx:Loc X.env.scope x) (h:SE K cl X Wx m e) (hs:swapsWith e (some (.Name x pos')) pos.line X.env=pure false)
  (hf:X.fn x=true∨X.env.scope.names.lookup x=some .local):SS K cl X Wx (sSet i m) (.Assign [.Name x pos'] e pos):=by
 refine⟨fun E0 ρ G σ st τ H D R S q=>TS'.of (ps_set g.hN hi hx T.pe hs hf) ?_⟩
 exact h.run E0 ρ G σ st τ H _ R S (AftS.seq S q fun w st1 ρ1 G1 H1 v e1 p1 s1 R1 u1 h1=>AftS.nx h1 R1 ((RS.mono p1 s1 S).set u1 i))
def sIf(c:TM) (a b:SMm):SMm:=fun σ st=>(c σ st).to σ fun k st1=>if k=true then a σ st1 else b σ st1
theorem zAw{c:TM}{a b:SMm}{e:Expr}{sa sb:List Stmt}{pos:Pos} (hc:ST K cl X Wx c e) (ha:SSs K cl X Wx a sa) (hb:SSs K cl X Wx b sb):SS K cl X Wx (sIf c a b) (.If e sa sb pos):=by
 refine⟨fun E0 ρ G σ st τ H D R S q=>TS'.of (ps_if TT'.pt TSs'.pss TSs'.pss) ?_⟩
 refine hc.run E0 ρ G σ st τ H _ R S (AftS.seq S q fun k st1 ρ1 G1 H1 k' e1 p1 s1 R1 u1 h1=>?_)
 obtain rfl:k=k':=u1;cases k with
 |true=>exact ha.run E0 ρ1 G1 σ st1 τ H1 D R1 (S.mono p1 s1) h1
 |false=>exact hb.run E0 ρ1 G1 σ st1 τ H1 D R1 (S.mono p1 s1) h1
mutual
def Tg.put:Tg→W→Sg→Option Sg
 | .nm i,w,σ=>some (σ.set i (some w))
 | .tp ts,.p (.tup l),σ=>Tg.puts ts l σ
 | .tp _,_,_=>none
def Tg.puts:List Tg→List P→Sg→Option Sg
 |[],[],σ=>some σ
 |t::ts,x::l,σ=>match Tg.put t (.p x) σ with
  |some σ'=>Tg.puts ts l σ'
  |none=>none
 |_,_,_=>none
end
def TGc(X:Cx) (e:Expr):TG:=fun v σ H Q=>∀(pins:List (Addr×Obj)) (s:Shared) (u:Value),Inv X pins σ H s→RelV v u →
 wpAny (model X.prog X.w) X.A (PySem.assign e X.env u) (fun _ s'=>∃σ' H',Inv X pins σ' H' s'∧Q σ' H') X.xe s
def TGsc(X:Cx) (es:List Expr):TGs:=fun vs σ H Q=>∀(pins:List (Addr×Obj)) (s:Shared) (us:List Value),Inv X pins σ H s→Vals vs us →
 wpAny (model X.prog X.w) X.A (assignInOrder ((assignEach es X.env).map (·.2)) us) (fun _ s'=>∃σ' H',Inv X pins σ' H' s'∧Q σ' H') X.xe s
theorem TGc.pg{e:Expr}:PG X e (TGc X e):=⟨fun pins s σ H v u Q I r h=>h pins s u I r⟩
theorem TGsc.pgs{es:List Expr}:PGs X es (TGsc X es):=⟨fun pins s σ H vs us Q I r h=>h pins s us I r⟩
theorem TGc.of{e:Expr}{t:TG}{v:V}{H:Hp}{Q:L2.St→Hp→Prop} (h:PG X e t) (q:t v τ H Q):TGc X e v τ H Q:=fun pins s u I r=>h.run pins s τ H v u Q I r q
theorem TGsc.of{es:List Expr}{t:TGs}{vs:List V}{H:Hp}{Q:L2.St→Hp→Prop} (h:PGs X es t) (q:t vs τ H Q):TGsc X es vs τ H Q:=fun pins s us I r=>h.run pins s τ H vs us Q I r q
theorem zF3{σ:L2.St}{j:Nat}:∀ {vs:List Nat},(wipe σ vs)[j]?=if j∈vs∧j<σ.length then some none else σ[j]?
 |[]=>by simp[wipe]
 |v::vs=>by
  have ih:=zF3 (σ:=σ) (j:=j) (vs:=vs);unfold wipe
  by_cases h:v=j
  ·subst h
   by_cases hl:v<σ.length
   ·rw[Jw (by rw[bD];exact hl),JW ⟨Jg,hl⟩]
   ·rw[Vh (fun z=>hl z.2),Jt (by rw[J5,bD];omega),Jt ∅]
  ·rw[Jv h,ih]
   have:j∈v::vs↔j∈vs:=by
    rw[Jo];exact⟨fun z=>z.resolve_left (fun q=>h q.symm),.inr⟩
   simp only[this]
theorem zMw{σ σ':L2.St}{vs:List Nat} (hl:σ.length=σ'.length) (h:∀j,j∉vs→σ[j]?=σ'[j]?):wipe σ vs=wipe σ' vs:=by
 refine Yk fun j=>?_
 rw[zF3,zF3,hl]
 by_cases hj:j∈vs
 ·by_cases hk:j<σ'.length
  ·rw[JW ⟨hj,hk⟩,JW ⟨hj,hk⟩]
  ·rw[Vh (fun z=>hk z.2),Vh (fun z=>hk z.2),Jt ∅,Jt ∅]
 ·rw[Vh (fun z=>hj z.1),Vh (fun z=>hj z.1)];exact h j hj
theorem zPT{σ:L2.St}{i:Nat}{x:Option V}{vs:List Nat} (h:i∈vs):wipe (σ.set i x) vs=wipe σ vs :=
 zMw (J5 ..) fun j hj=>Jv (fun z=>hj (by rw[←z];exact h))
theorem zGr{σ:L2.St}{vs:List Nat}:wipe (wipe σ vs) vs=wipe σ vs :=
 zMw (bD ..) fun j hj=>by rw[zF3,Vh (fun z=>hj z.1)]
structure SG (K:PySem.W.Frag) (cl:Cls) (X:Cx) (t:Tg) (e:Expr):Prop where
 run:∀ρ G H w v σ σ' τ (Q:L2.St→Hp→Prop),Sub G H→RS K cl ρ G σ τ→RW K cl ρ G w v→t.put w σ=some σ'→(∀τ',RS K cl ρ G σ' τ'→(∀vs,(∀i∈t.slots,i∈vs)→wipe τ' vs=wipe τ vs)→Q τ' H)→TGc X e v τ H Q
structure SGs (K:PySem.W.Frag) (cl:Cls) (X:Cx) (t:List Tg) (es:List Expr):Prop where
 run:∀ρ G H l vs σ σ' τ (Q:L2.St→Hp→Prop),Sub G H→RS K cl ρ G σ τ→RPs K cl G l vs→Tg.puts t l σ=some σ'→(∀τ',RS K cl ρ G σ' τ'→(∀vs,(∀i∈Tg.slotss t,i∈vs)→wipe τ' vs=wipe τ vs)→Q τ' H)→TGsc X es vs τ H Q
theorem zOK{i:Nat}{x:Str}{pos:Pos} (g:GX K X) (hi:X.N[i]?=some x) (hx:Loc X.env.scope x) (hf:X.fn x=true∨X.env.scope.names.lookup x=some .local):SG K cl X (.nm i) (.Name x pos):=by
 refine⟨fun ρ G H w v σ σ' τ Q sub S r e k=>TGc.of (pg_name g.hN hi hx hf) ?_⟩
 have e:some (σ.set i (some w))=some σ':=by simpa[Tg.put]using e
 cases e;exact k _ (S.set r i) fun vs h=>zPT (h i (by simp[Tg.slots]))
theorem zBT:SGs K cl X [] []:=by
 refine⟨fun ρ G H l vs σ σ' τ Q sub S r e k=>TGsc.of pgs_nil ?_⟩
 cases r with
 |nil =>
  have e:some σ=some σ':=by simpa[Tg.puts]using e
  cases e;exact⟨rfl,k _ S fun _ _=>rfl⟩
 |cons _ _=>simp[Tg.puts]at e
theorem zAS{t:Tg}{ts:List Tg}{e:Expr}{es:List Expr} (h1:SG K cl X t e) (h2:SGs K cl X ts es) (hs:(assignEach (e::es) X.env).map (·.2)=PySem.assign e X.env::(assignEach es X.env).map (·.2)):SGs K cl X (t::ts) (e::es):=by
 refine⟨fun ρ G H l vs σ σ' τ Q sub S r e k=>TGsc.of (pgs_cons TGc.pg TGsc.pgs hs) ?_⟩
 cases r with
 |nil=>simp[Tg.puts]at e
 |cons r rs =>
  simp only[Tg.puts]at e;split at e
  ·rename_i σ1 e1
   refine⟨_,_,rfl,?_⟩
   exact h1.run ρ G H (.p _) _ σ σ1 τ _ sub S r e1 fun τ1 S1 w1=>h2.run ρ G H _ _ σ1 σ' τ1 Q sub S1 rs e fun τ2 S2 w2=>k τ2 S2 fun vs h =>
    (w2 vs fun i hi=>h i (by simp[Tg.slotss,hi])).trans (w1 vs fun i hi=>h i (by simp[Tg.slotss,hi]))
  ·cases e
theorem zLZ:∀ {ts:List Tg}{l:List P}{σ σ':Sg},Tg.puts ts l σ=some σ'→l.length=ts.length
 |[],[],_,_,_=>rfl
 |t::ts,x::l,σ,σ',e=>by
  simp only[Tg.puts]at e;split at e
  ·exact congrArg Nat.succ (zLZ e)
  ·cases e
 |[],_::_,_,_,e=>by simp[Tg.puts]at e
 |_::_,[],_,_,e=>by simp[Tg.puts]at e
theorem zCl{ts:List Tg}{es:List Expr}{k:Nat}{pos:Pos} (g:GX K X) (h:SGs K cl X ts es) (hl:es.length=ts.length) (hn:(assignEach es X.env).length=es.length) (hst:(assignEach es X.env).findIdx? (·.1)=none):SG K cl X (.tp ts) (.Tuple es k pos):=by
 refine⟨fun ρ G H w v σ σ' τ Q sub S r e k=>TGc.of (pg_tup (n:=es.length) g.hc TGsc.pgs hn hst) ?_⟩
 cases w with
 |r i=>simp[Tg.put]at e
 |p x =>
  cases r with
  |tup hs q =>
   simp only[Tg.put]at e;refine⟨_,_,rfl,?_,?_,h.run ρ G H _ _ σ σ' τ Q sub S q e k⟩
   ·rw[g.hK];exact sub.sqT hs
   ·rw[←q.length,hl];exact zLZ e
  |_=>simp[Tg.put]at e
def sPut(t:Tg) (m:EM):SMm:=fun σ st=>(m σ st).to σ fun w st1=>match t.put w σ with
 |some σ'=>.ok .nx σ' st1
 |none=>.no
theorem zMq{t:Tg}{m:EM}{tg e:Expr}{pos:Pos} (ht:SG K cl X t tg) (h:SE K cl X Wx m e) (hs:swapsWithSole [tg] e pos.line X.env=pure false) (hw:swappedStores [tg] e X.env=pure none)
  (h1:(assignEach [tg] X.env).map (·.2)=[PySem.assign tg X.env]):SS K cl X Wx (sPut t m) (.Assign [tg] e pos):=by
 refine⟨fun E0 ρ G σ st τ H D R S q=>TS'.of (ps_asg T.pe TGc.pg hs hw h1) ?_⟩
 refine h.run E0 ρ G σ st τ H _ R S (AftS.seq S q fun w st1 ρ1 G1 H1 v e1 p1 s1 R1 u1 h1=>?_)
 split at h1
 ·rename_i σ' e
  exact ht.run ρ1 G1 H1 w v σ σ' τ _ R1.sub (S.mono p1 s1) u1 e fun τ' S' _=>AftS.nx h1 R1 S'
 ·exact h1.elim
def sPar(i j:Nat) (a:AM):SMm:=fun σ st=>(a σ st).to σ fun ws st1=>match ws with
 |[v,w]=>.ok .nx ((σ.set i (some v)).set j (some w)) st1
 |_=>.no
theorem zJX{i j:Nat}{x y:Str}{a b:Expr}{m:AM}{px py pt:Pos}{kt k2:Nat}{pt2 pos:Pos} (g:GX K X) (hi:X.N[i]?=some x) (hj:X.N[j]?=some y) (hij:i≠j)
  (hx:X.env.scope.names.lookup x=some .local) (hy:X.env.scope.names.lookup y=some .local) (ha:SA K cl X Wx m [a,b])
  (hw:swappedStores [.Tuple [.Name x px,.Name y py] kt pt] (.Tuple [a,b] k2 pt2) X.env=pure (some [x,y]))
  (hs:swapsWithSole [.Tuple [.Name x px,.Name y py] kt pt] (.Tuple [a,b] k2 pt2) pos.line X.env=pure false) :
  SS K cl X Wx (sPar i j m) (.Assign [.Tuple [.Name x px,.Name y py] kt pt] (.Tuple [a,b] k2 pt2) pos):=by
 refine⟨fun E0 ρ G σ st τ H D R S q=>TS'.of (ps_par g.hc g.hN hi hj hij hx hy TA'.pa hw hs) ?_⟩
 refine ha.run E0 ρ G σ st τ H _ R S (AftS.seq S q fun ws st1 ρ1 G1 H1 vs e1 p1 s1 R1 u1 h1=>?_)
 split at h1
 ·rename_i v w
  cases u1 with
  |cons r1 u2 =>
   cases u2 with
   |cons r2 u3 =>
    cases u3;exact⟨_,_,rfl,AftS.nx h1 R1 (((RS.mono p1 s1 S).set r1 i).set r2 j)⟩
 ·exact h1.elim
def zJ0(i j l:Nat) (a:AM):SMm:=fun σ st=>(a σ st).to σ fun ws st1=>match ws with
 |[u,v,w]=>.ok .nx (((σ.set i (some u)).set j (some v)).set l (some w)) st1
 |_=>.no
theorem zN8{i j l:Nat}{x y z:Str}{a b c:Expr}{m:AM}{px py pz pt:Pos}{kt k2:Nat}{pt2 pos:Pos} (g:GX K X) (hi:X.N[i]?=some x) (hj:X.N[j]?=some y) (hl:X.N[l]?=some z) (hij:i≠j) (hil:i≠l) (hjl:j≠l)
  (hx:X.env.scope.names.lookup x=some .local) (hy:X.env.scope.names.lookup y=some .local) (hz:X.env.scope.names.lookup z=some .local) (ha:SA K cl X Wx m [a,b,c])
  (hw:swappedStores [.Tuple [.Name x px,.Name y py,.Name z pz] kt pt] (.Tuple [a,b,c] k2 pt2) X.env=pure (some [x,y,z]))
  (hs:swapsWithSole [.Tuple [.Name x px,.Name y py,.Name z pz] kt pt] (.Tuple [a,b,c] k2 pt2) pos.line X.env=pure false) :
  SS K cl X Wx (zJ0 i j l m) (.Assign [.Tuple [.Name x px,.Name y py,.Name z pz] kt pt] (.Tuple [a,b,c] k2 pt2) pos):=by
 refine⟨fun E0 ρ G σ st τ H D R S q=>TS'.of (ps_par3 g.hc g.hN hi hj hl hij hil hjl hx hy hz TA'.pa hw hs) ?_⟩
 refine ha.run E0 ρ G σ st τ H _ R S (AftS.seq S q fun ws st1 ρ1 G1 H1 vs e1 p1 s1 R1 u1 h1=>?_)
 split at h1
 ·rename_i u v w
  cases u1 with
  |cons r1 u2 =>
   cases u2 with
   |cons r2 u3 =>
    cases u3 with
    |cons r3 u4 =>
     cases u4;exact⟨_,_,_,rfl,AftS.nx h1 R1 ((((RS.mono p1 s1 S).set r1 i).set r2 j).set r3 l)⟩
 ·exact h1.elim
def zDx(c:TM) (b:SMm):Nat→Sg→List Cell→SR
 |0,_,_=>.no
 |n+1,σ,st=>(c σ st).to σ fun k st1=>if k=true then(match b σ st1 with
  | .ok .nx σ2 st2=>zDx c b n σ2 st2
  | .ok .ct σ2 st2=>zDx c b n σ2 st2
  | .ok .bk σ2 st2=>.ok .nx σ2 st2
  |r=>r)else .ok .nx σ st1
def zD8(n:Nat) (c:TM) (b:SMm):SMm:=fun σ st=>zDx c b n σ st
theorem zE3{n:Nat}{c:TM}{b:SMm}{e:Expr}{sb:List Stmt}{pos:Pos} (hp:PassesOwn (model X.prog X.w) X.A X.env X.xe) (hc:ST K cl X Wx c e) (hb:SSs K cl X Wx b sb):SS K cl X Wx (zD8 n c b) (.While e sb [] pos):=by
 refine⟨fun E0 ρ G σ st τ H D R S q=>TS'.of (ps_while hp TT'.pt TSs'.pss) ?_⟩
 refine⟨fun m τ' H'=>∃ρ' G' σ' st',(bs K cl E0).Rel ρ' G' st' H'∧RS K cl ρ' G' σ' τ'∧AftS (bs K cl E0) ρ' G' (zDx c b m σ' st') D Wx,⟨n,ρ,G,σ,st,R,S,q⟩,?_⟩
 rintro m τ1 H1 ⟨ρ1,G1,σ1,st1,R1,S1,q1⟩;cases m with
 |zero=>exact q1.elim
 |succ m =>
  refine hc.run E0 ρ1 G1 σ1 st1 τ1 H1 _ R1 S1 (AftS.seq S1 q1 fun k st2 ρ2 G2 H2 k' e2 p2 s2 R2 u2 h2=>?_)
  obtain rfl:k=k':=u2;cases k with
  |false=>exact AftS.nx h2 R2 (RS.mono p2 s2 S1)
  |true =>
   refine⟨fun τ' H'=>∃m',m'<m+1∧∃ρ' G' σ' st',(bs K cl E0).Rel ρ' G' st' H'∧RS K cl ρ' G' σ' τ'∧AftS (bs K cl E0) ρ' G' (zDx c b m' σ' st') D Wx,fun _ _ z=>z,?_⟩
   refine hb.run E0 ρ2 G2 σ1 st2 τ1 H2 _ R2 (RS.mono p2 s2 S1) ?_
   have h2:AftS (bs K cl E0) ρ2 G2 (match b σ1 st2 with
    | .ok .nx σ2 st2=>zDx c b m σ2 st2
    | .ok .ct σ2 st2=>zDx c b m σ2 st2
    | .ok .bk σ2 st2=>.ok .nx σ2 st2
    |r=>r) D Wx:=h2
   cases er:b σ1 st2 with
   |no=>rw[er]at h2;exact h2.elim
   |exc x σ3 st3=>rw[er]at h2;exact h2
   |ok f σ3 st3 =>
    rw[er]at h2;cases f with
    |nx=>exact fun ρ3 G3 H3 τ3 p3 s3 R3 S3=>⟨m,Vz m,ρ3,G3,σ3,st3,R3,S3,AftS.mono p3 s3 h2⟩
    |ct=>exact fun ρ3 G3 H3 τ3 p3 s3 R3 S3=>⟨m,Vz m,ρ3,G3,σ3,st3,R3,S3,AftS.mono p3 s3 h2⟩
    |bk=>exact fun ρ3 G3 H3 τ3 p3 s3 R3 S3=>h2 ρ3 G3 H3 τ3 p3 s3 R3 S3
    |rt w=>exact h2
end
def WOk(K:PySem.W.Frag) (cl:Cls) (ρ:List Addr) (G:Hp) (J:It) (src:Src):Prop :=
 ∀E0 ρ' G' st H i,ρ <+: ρ'→Sub G G'→(bs K cl E0).Rel ρ' G' st H→match src.get st i with
  |none=>True
  |some none=>J.stop i H
  |some (some w)=>J.go i H∧∀x H',J.yld i H x H'→∃G'',Sub G' G''∧(bs K cl E0).Rel ρ' G'' st H'∧RW K cl ρ' G'' w x
def TIc(X:Cx) (tg e:Expr):TI:=fun σ H R=>∀(pins:List (Addr×Obj)) (s:Shared),Inv X pins σ H s →
 wpAny (model X.prog X.w) X.A (eval e X.env) (fun v s1=>wpAny (model X.prog X.w) X.A (pyIter v) (PIE X pins σ tg R) X.xe s1) X.xe s
theorem TIc.pi{X:Cx}{tg e:Expr}:PI X tg e (TIc X tg e):=⟨fun pins s σ H R I h=>h pins s I⟩
theorem TIc.of{X:Cx}{tg e:Expr}{wi:TI}{σ:L2.St}{H:Hp}{R:It→Hp→Prop} (h:PI X tg e wi) (q:wi σ H R):TIc X tg e σ H R:=fun pins s I=>h.run pins s σ H R I q
structure SI (K:PySem.W.Frag) (cl:Cls) (X:Cx) (Wx:WX) (tg:Expr) (m:IM) (e:Expr):Prop where
 run:∀E0 ρ G σ st τ H R,(bs K cl E0).Rel ρ G st H→RS K cl ρ G σ τ→Aft (bs K cl E0) (fun ρ G (a:Src) (J:It)=>WOk K cl ρ G J a) ρ G (m σ st) R (fun c d H'=>Wx c d τ H')→TIc X tg e τ H R
section
variable {K:PySem.W.Frag}{cl:Cls}{X:Cx}{Wx:WX}{E0:En}{ρ ρ':List Addr}{G G':Hp}{σ:Sg}{τ:L2.St}{st:List Cell}{H:Hp}{D:Ends}
def forF(src:Src) (t:Tg) (b:SMm):Nat→Nat→Sg→List Cell→SR
 |0,_,_,_=>.no
 |n+1,i,σ,st=>match src.get st i with
  |none=>.no
  |some none=>.ok .nx σ st
  |some (some w)=>match t.put w σ with
   |none=>.no
   |some σ1=>match b σ1 st with
    | .ok .nx σ2 st2=>forF src t b n (i+1) σ2 st2
    | .ok .ct σ2 st2=>forF src t b n (i+1) σ2 st2
    | .ok .bk σ2 st2=>.ok .nx σ2 st2
    |r=>r
def sFor(m:IM) (t:Tg) (b:SMm):SMm:=fun σ st=>(m σ st).to σ fun src st1=>forF src t b (src.n+1) 0 σ st1
theorem zCA{m:IM}{t:Tg}{b:SMm}{tg iter:Expr}{body:List Stmt}{pos:Pos} (hp:PassesOwn (model X.prog X.w) X.A X.env X.xe) (g:GX K X) (hi:SI K cl X Wx tg m iter) (ht:SG K cl X t tg) (hb:SSs K cl X Wx b body)
  (hs:∀x,foldedSetIterable iter X.env x=pure x:=by intro _;rfl):SS K cl X Wx (sFor m t b) (.For tg iter body [] pos):=by
 refine⟨fun E0 ρ G σ st τ H D R S q=>TS'.of (ps_for hp g.hc TIc.pi TGc.pg TSs'.pss hs) ?_⟩
 refine hi.run E0 ρ G σ st τ H _ R S (AftS.seq S q fun src st1 ρ1 G1 H1 J e1 p1 s1 R1 wok h1=>?_)
 refine⟨fun i k τ' H'=>∃ρ' G' σ' st',ρ1 <+: ρ'∧Sub G1 G'∧(bs K cl E0).Rel ρ' G' st' H'∧RS K cl ρ' G' σ' τ'∧AftS (bs K cl E0) ρ' G' (forF src t b k i σ' st') D Wx,⟨src.n+1,ρ1,G1,σ,st1,Jh _,Sub.refl _,R1,S.mono p1 s1,h1⟩,?_⟩
 rintro i k τ2 H2 ⟨ρ2,G2,σ2,st2,p2,s2,R2,S2,q2⟩;cases k with
 |zero=>exact q2.elim
 |succ k =>
  have w2:=wok E0 ρ2 G2 st2 H2 i p2 s2 R2;unfold forF at q2;cases eg:src.get st2 i with
  |none=>rw[eg]at q2;exact q2.elim
  |some ow =>
   rw[eg]at q2 w2;cases ow with
   |none=>exact .inl ⟨w2,AftS.nx q2 R2 S2⟩
   |some w =>
    dsimp only at q2 w2;refine .inr ⟨w2.1,fun τ' H'=>∃ρ' G' σ' st',ρ1 <+: ρ'∧Sub G1 G'∧(bs K cl E0).Rel ρ' G' st' H'∧RS K cl ρ' G' σ' τ'∧AftS (bs K cl E0) ρ' G' (forF src t b k (i+1) σ' st') D Wx,fun τ' H' z=>⟨k,Vz k,z⟩,fun x H3 y=>?_⟩
    obtain⟨G3,s3,R3,r3⟩:=w2.2 x H3 y;cases ep:t.put w σ2 with
    |none=>rw[ep]at q2;exact q2.elim
    |some σ3 =>
     rw[ep]at q2;dsimp only at q2;refine ht.run ρ2 G3 H3 w x σ2 σ3 τ2 _ R3.sub (S2.mono (Jh _) s3) r3 ep fun τ3 S3 _=>?_
     refine hb.run E0 ρ2 G3 σ3 st2 τ3 H3 _ R3 S3 ?_
     cases er:b σ3 st2 with
     |no=>rw[er]at q2;exact q2.elim
     |exc x σ4 st4=>rw[er]at q2;exact AftS.mono (Jh _) s3 q2
     |ok f σ4 st4 =>
      rw[er]at q2;cases f with
      |nx=>exact fun ρ4 G4 H4 τ4 p4 s4 R4 S4=>⟨ρ4,G4,σ4,st4,p2.trans p4,s2.trans (s3.trans s4),R4,S4,AftS.mono p4 (s3.trans s4) q2⟩
      |ct=>exact fun ρ4 G4 H4 τ4 p4 s4 R4 S4=>⟨ρ4,G4,σ4,st4,p2.trans p4,s2.trans (s3.trans s4),R4,S4,AftS.mono p4 (s3.trans s4) q2⟩
      |bk=>exact fun ρ4 G4 H4 τ4 p4 s4 R4 S4=>q2 ρ4 G4 H4 τ4 p4 (s3.trans s4) R4 S4
      |rt w=>exact AftS.mono (Jh _) s3 q2
structure Hd (K:PySem.W.Frag) (cl:Cls) (E0:En) (D:Addr) (ρ:List Addr) (G:Hp) (st:List Cell) (H:Hp) (acc:List W) (Gh:Hp) (vs:List V):Prop where
 gD:Gh D=none
 gr:∀a u,Gh a=some u→E0.G0 a=some u∨E0.H0 a=none∨∃i:Nat,i<E0.n0∧ρ[i]?=some a
 hn:∀i:Nat,i<E0.n0→ρ[i]?≠some D
 l0:E0.n0≤ρ.length
 h0:E0.H0 D=none
 rw:RWs K cl ρ G acc vs
 R:(bs K cl (E0.hold Gh D (.lst vs))).Rel ρ G st H
theorem Hd.start{Dd:Addr} (R:(bs K cl E0).Rel ρ G st H) (h:H Dd=none):Hd K cl E0 Dd ρ G st (upd H Dd (.lst [])) [] G [] :=
 ⟨R.gnone h,R.grow,fun i _=>R.apart h i,R.n0,R.fresh0 h,.nil,R.hold h⟩
section
variable {Dd:Addr}{acc:List W}{Gh:Hp}{vs:List V}{st':List Cell}{H':Hp}
theorem Hd.held(h:Hd K cl E0 Dd ρ G st H acc Gh vs):H Dd=some (.lst vs)∧G Dd=none∧∀i:Nat,ρ[i]?≠some Dd:=Rel.held h.R h.hn h.gD
theorem Hd.next(h:Hd K cl E0 Dd ρ G st H acc Gh vs) (p:ρ <+: ρ') (s:Sub G G') (R:(bs K cl (E0.hold Gh Dd (.lst vs))).Rel ρ' G' st' H'):Hd K cl E0 Dd ρ' G' st' H' acc Gh vs:=by
 have keep:∀i:Nat,i<E0.n0→ρ'[i]?=ρ[i]?:=fun i hi=>by
  obtain⟨t,rfl⟩:=p;exact Je (Vb hi h.l0)
 refine⟨h.gD,fun a u e=>?_,fun i hi=>by rw[keep i hi];exact h.hn i hi,Vs h.l0 p.length_le,h.h0,h.rw.mono p s,R⟩
 rcases h.gr a u e with q|q|⟨i,hi,q⟩
 ·exact .inl q
 ·exact .inr (.inl q)
 ·exact .inr (.inr ⟨i,hi,by rw[keep i hi];exact q⟩)
theorem Hd.back(h:Hd K cl E0 Dd ρ G st H acc Gh vs):(bs K cl E0).Rel ρ G st H:=Rel.unhold h.R h.h0 h.gr (Jh _) h.l0
theorem Hd.push(h:Hd K cl E0 Dd ρ G st H acc Gh vs){w:W}{y:V} (r:RW K cl ρ G w y):Hd K cl E0 Dd ρ G st (upd H Dd (.lst (vs++[y]))) (acc++[w]) G (vs++[y]) :=
 ⟨h.held.2.1,h.back.grow,h.hn,h.l0,h.h0,h.rw.append (.cons r .nil),Rel.rehold h.R (zNg trivial) h.hn h.gD⟩
end
def Res.nox{α:Type}:Res α→Res α
 | .exc _ _=>.no
 |r=>r
def zAv(σ:Sg):List Nat→Sg
 |[]=>σ
 |v::vs=>(zAv σ vs).set v none
def lcF(src:Src) (t:Tg) (c:TM) (e:EM) (σ0:Sg):Nat→Nat→List Cell→Res (List W)
 |0,_,_=>.no
 |n+1,i,st=>match src.get st i with
  |none=>.no
  |some none=>.ok [] st
  |some (some w)=>match t.put w σ0 with
   |none=>.no
   |some σ1=>(c σ1 st).nox.bind fun k st1=>if k=true then(e σ1 st1).nox.bind fun w st2=>(lcF src t c e σ0 n (i+1) st2).bind fun ws st3=>.ok (w::ws) st3 else lcF src t c e σ0 n (i+1) st1
def mYes:TM:=fun _ st=>.ok true st
def finP(ws:List W) (st:List Cell):Res W:=match pures ws with
 |some l=>.ok (.p (.lst l)) st
 |none=>.no
def finC(ws:List W) (st:List Cell):Res W:=.ok (.r st.length) (st++[.lst ws])
def mLc(m:IM) (t:Tg) (vs:List Nat) (c:TM) (e:EM) (fin:List W→List Cell→Res W):EM:=fun σ st=>(m σ st).bind fun src st1 =>
 if src.n≤LIM then(lcF src t c e (zAv σ vs) (src.n+1) 0 st1).bind fin else .no
theorem RS.wipe(S:RS K cl ρ G σ τ):∀vs:List Nat,RS K cl ρ G (zAv σ vs) (L2.wipe τ vs)
 |[]=>S
 |v::vs=>by
  have ih:=RS.wipe S vs;unfold zAv L2.wipe;refine⟨by rw[J5,J5];exact ih.1,fun j w e=>?_⟩
  by_cases hj:v=j
  ·subst hj
   by_cases hl:v<(zAv σ vs).length
   ·rw[Jw hl]at e;cases e
   ·rw[Jt (by rw[J5];omega)]at e;cases e
  ·rw[Jv hj]at e ⊢;exact ih.2 j w e
def TTs'(X:Cx) (ifs:List Expr):TT:=fun σ H Q=>∀(pins:List (Addr×Obj)) (s:Shared),Inv X pins σ H s →
 wpAny (model X.prog X.w) X.A (forIn ifs true fun c r=>if r=true then do let ok ←isTrue c X.env (eval c X.env);pure (ForInStep.yield ok)else pure (ForInStep.yield r)) (TP X pins σ Q) X.xe s
theorem TTs'.of{ifs:List Expr}{t:TT}{Q:Bool→Hp→Prop} (h:PTs X ifs t) (q:t τ H Q):TTs' X ifs τ H Q:=fun pins s I=>h.run pins s τ H Q I q
structure STs (K:PySem.W.Frag) (cl:Cls) (X:Cx) (Wx:WX) (m:TM) (e:List Expr):Prop where
 run:∀E0 ρ G σ st τ H Q,(bs K cl E0).Rel ρ G st H→RS K cl ρ G σ τ→Aft (bs K cl E0) eqB ρ G (m σ st) Q (fun c d H'=>Wx c d τ H')→TTs' X e τ H Q
theorem zAc:STs K cl X Wx mYes []:=⟨fun E0 ρ G σ st τ H Q R S h=>TTs'.of pts_nil (h.here (b:=true) R rfl)⟩
theorem zDt{m:TM}{e:Expr} (h:ST K cl X Wx m e):STs K cl X Wx m [e]:=⟨fun E0 ρ G σ st τ H Q R S q=>TTs'.of (pts_one TT'.pt) (h.run E0 ρ G σ st τ H Q R S q)⟩
abbrev WF:WX:=fun _ _ _ _=>False
theorem Aft.seqH{E1:En}{α β γ δ:Type}{U:List Addr→Hp→α→β→Prop}{U2:List Addr→Hp→γ→δ→Prop}{Z Z':ZX}{R:Res α}{k:α→List Cell→Res γ}{Q:δ→Hp→Prop}{Q':β→Hp→Prop} (h:Aft (bs K cl E0) U2 ρ G (R.nox.bind k) Q Z)
  (g:∀a st ρ' G' H' b,R=.ok a st→ρ <+: ρ'→Sub G G'→(bs K cl E1).Rel ρ' G' st H'→U ρ' G' a b→Aft (bs K cl E0) U2 ρ' G' (k a st) Q Z→Q' b H'):Aft (bs K cl E1) U ρ G R Q' Z':=by
 cases R with
 |ok a st=>exact fun ρ2 G2 H2 b p s r u=>g a st ρ2 G2 H2 b rfl p s r u (Aft.mono p s h)
 |exc x st=>exact h.elim
 |no=>exact h.elim
theorem Res.bind_bind{α β γ:Type} (r:Res α) (f:α→List Cell→Res β) (g:β→List Cell→Res γ):(r.bind f).bind g=r.bind fun a st=>(f a st).bind g:=by cases r<;>rfl
theorem Res.bind_ok{α β:Type} (a:α) (st:List Cell) (f:α→List Cell→Res β):(Res.ok a st).bind f=f a st:=rfl
theorem zSH{Dd:Addr}{acc:List W}{Gh:Hp}{vl:List V}{c:TM}{e:EM}{σ1:Sg}{k:List W→List Cell→Res W}{Q:VK}{Z:ZX}{rest:List Cell→Res (List W)}{ifs:List Expr}{elt:Expr}{Nx:Hp→Prop}{J:Type}{Y1:J→Cx}
  (hd:Hd K cl E0 Dd ρ G st H acc Gh vl) (S:RS K cl ρ G σ1 τ) (hc:∀j,STs K cl (Y1 j) WF c ifs) (he:∀j,SE K cl (Y1 j) WF e elt) (hacc:acc.length<sizeLine)
  (q:Aft (bs K cl E0) (bs K cl E0).RW ρ G (((c σ1 st).nox.bind fun b st1=>if b=true then(e σ1 st1).nox.bind fun w st2=>(rest st2).bind fun ws st3=>.ok (w::ws) st3 else rest st1).bind k) Q Z)
  (nx1:∀ρ' G' st' H' Gh' vl' w,ρ <+: ρ'→Sub G G'→Hd K cl E0 Dd ρ' G' st' H' (acc++[w]) Gh' vl'→Aft (bs K cl E0) (bs K cl E0).RW ρ' G' ((rest st').bind fun ws st3=>k (w::ws) st3) Q Z→Nx H')
  (nx0:∀ρ' G' st' H' Gh' vl',ρ <+: ρ'→Sub G G'→Hd K cl E0 Dd ρ' G' st' H' acc Gh' vl'→Aft (bs K cl E0) (bs K cl E0).RW ρ' G' ((rest st').bind k) Q Z→Nx H') :
  (fun σ H Q=>∀j,TTs' (Y1 j) ifs σ H Q:TT) τ H fun b H3=>if b=true then(fun σ H Q=>∀j,T (Y1 j) elt σ H Q:TE) τ H3 fun y H4=>∃acc,H4 Dd=some (.lst acc)∧acc.length<sizeLine∧Nx (upd H4 Dd (.lst (acc++[y])))else Nx H3:=by
 intro j;rw[Res.bind_bind]at q;refine(hc j).run _ ρ G σ1 st τ H _ hd.R S (Aft.seqH q fun b st1 ρ1 G1 H1 b' e1 p1 s1 R1 u1 q1=>?_)
 obtain rfl:b=b':=u1;have hd1:=hd.next p1 s1 R1;cases b with
 |false=>exact nx0 ρ1 G1 st1 H1 _ _ p1 s1 hd1 q1
 |true =>
  intro j;simp only[Ye]at q1;rw[Res.bind_bind]at q1;refine(he j).run _ ρ1 G1 σ1 st1 τ H1 _ hd1.R (S.mono p1 s1) (Aft.seqH q1 fun w st2 ρ2 G2 H2 y e2 p2 s2 R2 u2 q2=>?_)
  have hd2:=hd1.next p2 s2 R2;refine⟨vl,hd2.held.1,by rw[←hd2.rw.length];exact hacc,?_⟩
  refine nx1 ρ2 G2 st2 _ _ _ w (p1.trans p2) (s1.trans s2) (hd2.push u2) ?_
  rw[Res.bind_bind]at q2;exact q2
def zMn(K:PySem.W.Frag) (cl:Cls) (fin:List W→List Cell→Res W):Prop :=
 ∀E0 Dd ρ G st H acc Gh vl Q Z,Hd K cl E0 Dd ρ G st H acc Gh vl→Aft (bs K cl E0) (bs K cl E0).RW ρ G (fin acc st) Q Z→Q (.ref Dd) H
theorem zAX:zMn K cl finP:=by
 intro E0 Dd ρ G st H acc Gh vl Q Z hd q;unfold finP at q;split at q
 ·rename_i l e
  obtain⟨h1,h2,h3⟩:=hd.held;exact q ρ (upd G Dd (.lst vl)) H (.ref Dd) (Jh _) (Sub.new h2) (Rel.adopt hd.back h1 h2 h3 hd.h0) (.lst JC ((hd.rw.pures e).mono (Sub.new h2)))
 ·exact q.elim
theorem zKK:zMn K cl finC:=by
 intro E0 Dd ρ G st H acc Gh vl Q Z hd q;obtain⟨h1,h2,h3⟩:=hd.held;exact q (ρ++[Dd]) G H (.ref Dd) (Va _ _) (Sub.refl _) (Rel.adoptC hd.back (fun z=>by cases z) h2 h3 hd.h0 ⟨vl,h1,hd.rw.mono (Va _ _) (Sub.refl _)⟩) ⟨Dd,by rw[←hd.R.len];simp,rfl⟩
theorem zQ3{n:Nat} (h:n≤LIM):n<sizeLine:=by rw[Vq];unfold LIM at h;omega
abbrev BJ:=Shared×Hp×Addr×List (Str×Addr)×List Addr
abbrev Xb(X:Cx) (scope:Scope) (j:BJ):Cx:=X.blk j.1 j.2.1 scope (compEnvC scope j.2.2.2.1 j.2.2.1 X.env) j.2.2.2.2
theorem GX.blk(g:GX K X){scope:Scope}{j:BJ}:GX K (Xb X scope j):=⟨g.hK,g.hc,g.hN,g.hu,g.hh⟩
theorem zK0{m:IM}{t:Tg}{vs:List Nat}{c:TM}{e:EM}{fin:List W→List Cell→Res W}{tg iter elt:Expr}{ifs:List Expr}{Y1:BJ→Cx}{Q:VK} (hf:zMn K cl fin)
  (hi:SI K cl X Wx tg m iter) (ht:∀j,SG K cl (Y1 j) t tg) (hv:∀i∈t.slots,i∈vs) (hc:∀j,STs K cl (Y1 j) WF c ifs) (he:∀j,SE K cl (Y1 j) WF e elt)
  (R:(bs K cl E0).Rel ρ G st H) (S:RS K cl ρ G σ τ) (h:Aft (bs K cl E0) (bs K cl E0).RW ρ G (mLc m t vs c e fin σ st) Q (fun c d H'=>Wx c d τ H')) :
  tLc (TIc X tg iter) (fun v σ H Q=>∀j,TGc (Y1 j) tg v σ H Q) (fun σ H Q=>∀j,TTs' (Y1 j) ifs σ H Q) (fun σ H Q=>∀j,T (Y1 j) elt σ H Q) vs τ H Q:=by
 refine hi.run E0 ρ G σ st τ H _ R S (Aft.seq h fun src st1 ρ1 G1 H1 J e1 p1 s1 R1 wok h1=>?_)
 intro Dd hD;split at h1
 case isFalse=>exact h1.elim
 rename_i hn
 refine⟨fun i k H'=>∃ρ' G' st' acc Gh vl,ρ1 <+: ρ'∧Sub G1 G'∧Hd K cl E0 Dd ρ' G' st' H' acc Gh vl∧acc.length≤i∧i+k≤src.n+1 ∧
  Aft (bs K cl E0) (bs K cl E0).RW ρ' G' ((lcF src t c e (zAv σ vs) k i st').bind fun ws st3=>fin (acc++ws) st3) Q (fun c d H'=>Wx c d τ H'),⟨src.n+1,ρ1,G1,st1,[],G1,[],Jh _,Sub.refl _,Hd.start R1 hD,JH _,∅,h1⟩,?_⟩
 rintro i k H2 ⟨ρ2,G2,st2,acc,Gh,vl,p2,s2,hd,ha,hk,q2⟩;cases k with
 |zero=>exact q2.elim
 |succ k =>
  have w2:=wok _ ρ2 G2 st2 H2 i p2 s2 hd.R;unfold lcF at q2;cases eg:src.get st2 i with
  |none=>rw[eg]at q2;exact q2.elim
  |some ow =>
   rw[eg]at q2 w2;cases ow with
   |none =>
    refine .inl ⟨w2,?_⟩;have q2:Aft (bs K cl E0) (bs K cl E0).RW ρ2 G2 (fin (acc++[]) st2) Q (fun c d H'=>Wx c d τ H'):=q2
    rw[Vt]at q2;exact hf _ _ _ _ _ _ _ _ _ _ _ hd q2
   |some w =>
    dsimp only at q2 w2
    refine .inr ⟨w2.1,fun H'=>∃ρ' G' st' acc Gh vl,ρ1 <+: ρ'∧Sub G1 G'∧Hd K cl E0 Dd ρ' G' st' H' acc Gh vl∧acc.length≤i+1∧i+1+k≤src.n+1 ∧
     Aft (bs K cl E0) (bs K cl E0).RW ρ' G' ((lcF src t c e (zAv σ vs) k (i+1) st').bind fun ws st3=>fin (acc++ws) st3) Q (fun c d H'=>Wx c d τ H'),fun H' z=>⟨k,Vz k,z⟩,fun x H3 y=>?_⟩
    obtain⟨G3,s3,R3,r3⟩:=w2.2 x H3 y;have hd3:=hd.next (Jh _) s3 R3;cases ep:t.put w (zAv σ vs)with
    |none=>rw[ep]at q2;exact q2.elim
    |some σ3 =>
     rw[ep]at q2;dsimp only at q2;intro j;refine(ht j).run ρ2 G3 H3 w x (zAv σ vs) σ3 _ _ R3.sub ((S.mono (p1.trans p2) (s1.trans (s2.trans s3))).wipe vs) r3 ep fun τ3 S3 w3=>⟨(w3 vs hv).trans zGr,?_⟩
     refine zSH (rest:=fun st1=>lcF src t c e (zAv σ vs) k (i+1) st1) (Q:=Q) hd3 S3 hc he (zQ3 ∅) (Aft.mono (Jh _) s3 q2) (fun ρ4 G4 st4 H4 Gh4 vl4 w4 p4 s4 hd4 q4=>?_) (fun ρ4 G4 st4 H4 Gh4 vl4 p4 s4 hd4 q4=>?_)
     ·refine⟨ρ4,G4,st4,acc++[w4],Gh4,vl4,p2.trans p4,s2.trans (s3.trans s4),hd4,by rw[Ju];simp;exact ha,∅,?_⟩
      simp only[Yl,List.singleton_append];exact q4
     ·exact⟨ρ4,G4,st4,acc,Gh4,vl4,p2.trans p4,s2.trans (s3.trans s4),hd4,∅,∅,q4⟩
theorem zCF{m:IM}{t:Tg}{vs:List Nat}{c:TM}{e:EM}{fin:List W→List Cell→Res W}{tg iter elt:Expr}{ifs:List Expr}{scope:Scope}{own:List (Str×Nat)}{pos:Pos} (g:GX K X) (hf:zMn K cl fin)
  (ok:blkC X.N X.env.scope scope own=true) (hvs:own.map (·.2)=vs) (hi:SI K cl X Wx tg m iter) (hv:t.slots.all (fun i=>decide (i∈vs))=true) (ht:∀j,SG K cl (Xb X scope j) t tg) (hc:∀j,STs K cl (Xb X scope j) WF c ifs) (he:∀j,SE K cl (Xb X scope j) WF e elt)
  (hs:∀x,foldedSetIterable iter X.env x=pure x:=by intro _;rfl):SE K cl X Wx (mLc m t vs c e fin) (.ListComp elt [⟨tg,iter,ifs,0⟩] scope pos):=by
 subst hvs
 refine⟨fun E0 ρ G σ st τ H Q R S h=>T.of (pe_lc (g:=fun v σ H Q=>∀j,TGc (Xb X scope j) tg v σ H Q) (tt:=fun σ H Q=>∀j,TTs' (Xb X scope j) ifs σ H Q) (te:=fun σ H Q=>∀j,T (Xb X scope j) elt σ H Q) g.hc g.hN TIc.pi (blkOk_by ok)
  (fun s H C cl fp=>⟨fun pins s' σ H' v u Q I r h=>h (s,H,C,cl,fp) pins s' u I r⟩) (fun s H C cl fp=>⟨fun pins s' σ H' Q I h=>h (s,H,C,cl,fp) pins s' I⟩) (fun s H C cl fp=>⟨fun pins s' σ H' Q I h=>h (s,H,C,cl,fp) pins s' I⟩) hs) ?_⟩
 exact zK0 hf hi ht (fun i hm=>by simpa using Jp.mp hv i hm) hc he R S h
theorem zDE{i:Nat}{y:Str}{py spos:Pos}{m:IM}{t:Tg}{vs:List Nat}{c:TM}{e:EM}{fin:List W→List Cell→Res W}{tg iter elt:Expr}{ifs:List Expr}{scope:Scope}{own:List (Str×Nat)}{pos:Pos} (g:GX K X) (hf:zMn K cl fin)
  (hy:X.N[i]?=some y) (hyl:X.env.scope.names.lookup y=some .local) (hsw:swapsWith (.ListComp elt [⟨tg,iter,ifs,0⟩] scope pos) (some (.Name y py)) spos.line X.env=pure true)
  (ok:blkC X.N X.env.scope scope own=true) (hvs:own.map (·.2)=vs) (hi:SI K cl X Wx tg m iter) (hv:t.slots.all (fun i=>decide (i∈vs))=true) (ht:∀j,SG K cl (Xb X scope j) t tg) (hc:∀j,STs K cl (Xb X scope j) WF c ifs) (he:∀j,SE K cl (Xb X scope j) WF e elt)
  (hs:∀x,foldedSetIterable iter X.env x=pure x:=by intro _;rfl):SS K cl X Wx (sSet i (mLc m t vs c e fin)) (.Assign [.Name y py] (.ListComp elt [⟨tg,iter,ifs,0⟩] scope pos) spos):=by
 subst hvs
 refine⟨fun E0 ρ G σ st τ H D R S q=>TS'.of (ps_setLc (g:=fun v σ H Q=>∀j,TGc (Xb X scope j) tg v σ H Q) (tt:=fun σ H Q=>∀j,TTs' (Xb X scope j) ifs σ H Q) (te:=fun σ H Q=>∀j,T (Xb X scope j) elt σ H Q) g.hc g.hN hy hyl hsw TIc.pi (blkOk_by ok)
  (fun s H C cl fp=>⟨fun pins s' σ H' v u Q I r h=>h (s,H,C,cl,fp) pins s' u I r⟩) (fun s H C cl fp=>⟨fun pins s' σ H' Q I h=>h (s,H,C,cl,fp) pins s' I⟩) (fun s H C cl fp=>⟨fun pins s' σ H' Q I h=>h (s,H,C,cl,fp) pins s' I⟩) hs) ?_⟩
 exact zK0 hf hi ht (fun i hm=>by simpa using Jp.mp hv i hm) hc he R S (AftS.seq S q fun w st1 ρ1 G1 H1 v e1 p1 s1 R1 u1 h1=>AftS.nx h1 R1 ((RS.mono p1 s1 S).set u1 i))
end
section
variable {K:PySem.W.Frag}{cl:Cls}{X:Cx}{Wx:WX}{E0:En}{ρ ρ':List Addr}{G G':Hp}{σ:Sg}{τ:L2.St}{st:List Cell}{H:Hp}{D:Ends}
def srcL(l:List W):Src:=⟨fun _ i=>some l[i]?,l.length⟩
def zGu(s:Str):List W:=s.cps.toList.map fun c=>.p (.str ⟨#[c]⟩)
def srcC(j n:Nat):Src:=⟨fun st i=>match st[j]? with
 |some (.lst l)=>some l[i]?
 |_=>none,n⟩
def vSrc(st:List Cell):W→Option Src
 | .p (.lst l)=>some (srcL (l.map .p))
 | .p (.tup l)=>some (srcL (l.map .p))
 | .p (.str s)=>some (srcL (zGu s))
 | .r j=>match st[j]? with
  |some (.lst l)=>some (srcC j l.length)
  |_=>none
 |_=>none
def mSrc(m:EM):IM:=fun σ st=>(m σ st).bind fun w st1=>match vSrc st1 w with
 |some s=>.ok s st1
 |none=>.no
theorem zNi{l:List P}{i:Nat}:(l.map W.p)[i]?=l[i]?.map W.p:=Jd ..
theorem zR2{a:Addr}{l:List P} (r:RP K cl G (.lst l) (.ref a)):WOk K cl ρ G (Itl K a) (srcL (l.map .p)):=by
 intro E0 ρ' G' st H i p s R;cases r with
 |lst h q =>
  rename_i vs
  have hq:SqL K H a vs:=.inl (.inl (R.sub _ _ (s _ _ h)));have hl:=q.length;show match some (l.map W.p)[i]? with|none=>True|some none=>_|some (some w)=>_
  rw[zNi];cases e:l[i]? with
  |none=>exact⟨vs,hq,by rw[←hl];exact JR.mp e⟩
  |some x =>
   obtain⟨v,ev,rv⟩:=q.get e;refine⟨⟨vs,v,hq,ev⟩,fun y H' yl=>?_⟩
   obtain⟨rfl,yl⟩:=yl
   have:y=v:=Jk ((yl vs hq).symm.trans ev)
   subst this;exact⟨G',Sub.refl _,R,rv.mono s⟩
theorem zRL{a:Addr}{l:List P} (r:RP K cl G (.tup l) (.ref a)):WOk K cl ρ G (Itt K a) (srcL (l.map .p)):=by
 intro E0 ρ' G' st H i p s R;cases r with
 |tup h q =>
  rename_i vs
  have hq:SqT K H a vs:=R.sub.sqT (s.sqT h);have hl:=q.length;show match some (l.map W.p)[i]? with|none=>True|some none=>_|some (some w)=>_
  rw[zNi];cases e:l[i]? with
  |none=>exact⟨vs,hq,by rw[←hl];exact JR.mp e⟩
  |some x =>
   obtain⟨v,ev,rv⟩:=q.get e;refine⟨⟨vs,v,hq,ev⟩,fun y H' yl=>?_⟩
   obtain⟨rfl,yl⟩:=yl
   have:y=v:=Jk ((yl vs hq).symm.trans ev)
   subst this;exact⟨G',Sub.refl _,R,rv.mono s⟩
theorem zNL{z:Str}{i:Nat}:(zGu z)[i]?=z.cps[i]?.map fun c=>W.p (.str ⟨#[c]⟩):=by
 unfold zGu;rw[Jd,J6]
theorem zRn{z:Str}:WOk K cl ρ G (Its z) (srcL (zGu z)):=by
 intro E0 ρ' G' st H i p s R;show match some (zGu z)[i]? with|none=>True|some none=>_|some (some w)=>_
 rw[zNL];cases e:z.cps[i]? with
 |none=>exact Array.getElem?_eq_none_iff.mp e
 |some c =>
  refine⟨(Y8.mp e).1,fun y H' yl=>?_⟩
  obtain⟨rfl,c',e',rfl⟩:=yl;rw[e]at e';cases e';exact⟨G',Sub.refl _,R,RP.str _⟩
theorem zO8{a:Addr}{j n:Nat} (h:ρ[j]?=some a):WOk K cl ρ G (Itl K a) (srcC j n):=by
 intro E0 ρ' G' st H i p s R;show match(match st[j]? with|some (.lst l)=>some l[i]?|_=>none)with|none=>True|some none=>_|some (some w)=>_
 split
 ·trivial
 ·rename_i e
  split at e
  ·rename_i l el
   obtain⟨b,hb,⟨vs,h1,h2⟩,_⟩:=R.at el;have hb:ρ'[j]?=some b:=hb;obtain⟨t,rfl⟩:=p;rw[Je (Jb.mp h).1,h]at hb;cases hb;exact⟨vs,.inl (.inl h1),by rw[←h2.length];exact JR.mp (Jk e)⟩
  ·cases e
 ·rename_i w e
  split at e
  ·rename_i l el
   obtain⟨b,hb,⟨vs,h1,h2⟩,_⟩:=R.at el;have hb:ρ'[j]?=some b:=hb;obtain⟨t,rfl⟩:=p;rw[Je (Jb.mp h).1,h]at hb;cases hb;obtain⟨v,ev,rv⟩:=h2.get (Jk e);refine⟨⟨vs,v,.inl (.inl h1),ev⟩,fun y H' yl=>?_⟩
   obtain⟨rfl,yl⟩:=yl
   have:y=v:=Jk ((yl vs (.inl (.inl h1))).symm.trans ev)
   subst this;exact⟨G',Sub.refl _,R,rv⟩
  ·cases e
theorem zSJ{pins:List (Addr×Obj)}{s:Shared}{tg:Expr}{a:Addr}{xs:List V}{R:It→Hp→Prop} (I:Inv X pins τ H s) (h:SqL X.K H a xs) (q:R (Itl X.K a) H):wpAny (model X.prog X.w) X.A (pyIter (.ref a)) (PIE X pins τ tg R) X.xe s:=by
 obtain⟨its,rv,p,hz⟩:=I.list h;exact bu p.isList (pi_one (tk:=s.toks) I _ (turn_list a _) ⟨_,JK _ rfl,rfl,rfl⟩ q)
theorem it_tup{pins:List (Addr×Obj)}{s:Shared}{tg:Expr}{a:Addr}{xs:List V}{R:It→Hp→Prop} (I:Inv X pins τ H s) (h:SqT X.K H a xs) (q:R (Itt X.K a) H):wpAny (model X.prog X.w) X.A (pyIter (.ref a)) (PIE X pins τ tg R) X.xe s:=by
 obtain⟨its,rv,p,hz⟩:=I.tuple h;exact bg (show s.heap.IsTuple a its.toArray from p) (pi_one (tk:=s.toks) I _ (turn_tuple a _) ⟨_,JK _ rfl,rfl,rfl⟩ q)
theorem it_str{pins:List (Addr×Obj)}{s:Shared}{tg:Expr}{x:Str}{t:Tok}{R:It→Hp→Prop} (I:Inv X pins τ H s) (q:R (Its x) H):wpAny (model X.prog X.w) X.A (pyIter (.str x t)) (PIE X pins τ tg R) X.xe s:=by
 cases ha:x.cps.all (· < 128)
 ·exact wpAny_pyIter_wide ha (pi_one (tk:=s.toks) I _ (turn_str _ x t "str_iterator" (.inr rfl)) ⟨_,JK _ rfl,rfl,rfl⟩ q)
 ·exact wpAny_pyIter_ascii ha (pi_one (tk:=s.toks) I _ (turn_str _ x t "str_ascii_iterator" (.inl rfl)) ⟨_,JK _ rfl,rfl,rfl⟩ q)
theorem zBn{m:EM}{tg e:Expr} (g:GX K X) (h:SE K cl X Wx m e):SI K cl X Wx tg (mSrc m) e:=by
 obtain⟨hK,_⟩:=g;subst hK;refine⟨fun E0 ρ G σ st τ H R Rl S q=>?_⟩
 have t:=h.run E0 ρ G σ st τ H (fun x H1=>(∃a xs,x=.ref a∧SqL X.K H1 a xs∧R (Itl X.K a) H1)∨(∃a xs,x=.ref a∧SqT X.K H1 a xs∧R (Itt X.K a) H1)∨∃z,x=.str z∧R (Its z) H1) Rl S
  (Aft.seq q fun w st1 ρ1 G1 H1 v e1 p1 s1 R1 u1 h1=>?_)
 ·intro pins s I;refine thn (t pins s I) fun v s1 ⟨x,H1,I1,r1,q1⟩=>?_
  rcases q1 with⟨a,xs,rfl,hs,q1⟩|⟨a,xs,rfl,hs,q1⟩|⟨z,rfl,q1⟩
  ·cases r1;exact zSJ I1 hs q1
  ·cases r1;exact it_tup I1 hs q1
  ·obtain⟨t,rfl⟩:=r1;exact it_str I1 q1
 ·cases w with
  |p x =>
   cases x with
   |lst l =>
    cases u1 with
    |lst hh qq=>exact .inl ⟨_,_,rfl,.inl (.inl (R1.sub _ _ hh)),h1 ρ1 G1 H1 _ (Jh _) (Sub.refl _) R1 (zR2 (.lst hh qq))⟩
   |tup l =>
    cases u1 with
    |tup hh qq=>exact .inr (.inl ⟨_,_,rfl,R1.sub.sqT hh,h1 ρ1 G1 H1 _ (Jh _) (Sub.refl _) R1 (zRL (.tup hh qq))⟩)
   |str z =>
    cases u1;exact .inr (.inr ⟨_,rfl,h1 ρ1 G1 H1 _ (Jh _) (Sub.refl _) R1 zRn⟩)
   |_=>exact h1.elim
  |r j =>
   obtain⟨a,ha,rfl⟩:=u1;simp only[vSrc]at h1;split at h1
   ·rename_i sr er
    split at er
    ·rename_i l el
     cases er;obtain⟨b,hb,⟨vs,h2,h3⟩,_⟩:=R1.at el;cases Jk (ha.symm.trans hb);exact .inl ⟨a,vs,rfl,.inl (.inl h2),h1 ρ1 G1 H1 _ (Jh _) (Sub.refl _) R1 (zO8 ha)⟩
    ·cases er
   ·exact h1.elim
def rngL(lo:Int) (n:Nat):List W:=(List.range n).map fun(i:Nat)=>.p (.int (lo+(i:Nat)))
theorem zSd{lo:Int}{n:Nat}:WOk K cl ρ G (Itr lo n) (srcL (rngL lo n)):=by
 intro E0 ρ' G' st H i p s R;show match some (rngL lo n)[i]? with|none=>True|some none=>_|some (some w)=>_
 unfold rngL;rw[Jd]
 by_cases h:i<n
 ·rw[JZ h];refine⟨h,fun y H' yl=>?_⟩
  obtain⟨rfl,rfl⟩:=yl;exact⟨G',Sub.refl _,R,RP.int _⟩
 ·rw[Jt (by simpa using Nat.not_lt.mp h)]
  exact Nat.not_lt.mp h
def zBO(a:EM):IM:=fun σ st=>(a σ st).bind fun w st1=>match w with
 | .p (.int j)=>if j≤LIM ∧ -(LIM:Int)≤j then .ok (srcL (rngL 0 j.toNat)) st1 else .no
 |_=>.no
theorem T.pa1{e:Expr} (hs:starEach [e] X.env=(false,eval e X.env)::starEach [] X.env):PA X [e] (tCons (T X e) tNil):=jp T.pe pa_nil hs
theorem zA2{a:EM}{e tg:Expr}{p pos:Pos} (hg:Gl X "range") (hm:X.mg "range" = none) (ha:SE K cl X Wx a e) (hs:starEach [e] X.env=(false,eval e X.env)::starEach [] X.env:=by rfl):SI K cl X Wx tg (zBO a) (.Call (.Name "range" p) [e] [] pos):=by
 refine⟨fun E0 ρ G σ st τ H R Rl S q=>TIc.of (pi_range1 hg hm (T.pa1 hs) hs) ?_⟩
 refine ha.run E0 ρ G σ st τ H _ Rl S (Aft.seq q fun w st1 ρ1 G1 H1 v e1 p1 s1 R1 u1 h1=>?_)
 have hlim:((LIM:Nat):Int)=1000000:=rfl;split at h1
 ·rename_i j
  split at h1
  ·rename_i hj
   cases u1;exact⟨j,rfl,∅,∅,h1 ρ1 G1 H1 _ (Jh _) (Sub.refl _) R1 zSd⟩
  ·exact h1.elim
 ·exact h1.elim
def enmL:Nat→List P→List W
 |_,[]=>[]
 |i,x::l=>.p (.tup [.int (i:Nat),x])::enmL (i+1) l
theorem enmL_get:∀ {l:List P}{i k:Nat},(enmL k l)[i]?=l[i]?.map fun x=>W.p (.tup [.int ((k+i:Nat):Int),x])
 |[],_,_=>rfl
 |x::l,0,k=>rfl
 |x::l,i+1,k=>by
  show(enmL (k+1) l)[i]?=_;rw[enmL_get]
  have:k+1+i=k+(i+1):=by omega
  rw[this];rfl
def srcE(j n:Nat):Src:=⟨fun st i=>match st[j]? with
 |some (.lst l)=>match l[i]? with
  |none=>some none
  |some (.p x)=>some (some (.p (.tup [.int (i:Nat),x])))
  |some (.r _)=>none
 |_=>none,n⟩
def vEnm(st:List Cell):W→Option Src
 | .p (.lst l)=>some (srcL (enmL 0 l))
 | .r j=>match st[j]? with
  |some (.lst l)=>some (srcE j l.length)
  |_=>none
 |_=>none
def mEnm(m:EM):IM:=fun σ st=>(m σ st).bind fun w st1=>match vEnm st1 w with
 |some s=>.ok s st1
 |none=>.no
theorem zSg{a:Addr}{l:List P} (r:RP K cl G (.lst l) (.ref a)):WOk K cl ρ G (Ite K a) (srcL (enmL 0 l)):=by
 intro E0 ρ' G' st H i p s R;cases r with
 |lst h q =>
  rename_i vs
  have hq:SqL K H a vs:=.inl (.inl (R.sub _ _ (s _ _ h)));have hl:=q.length;show match some (enmL 0 l)[i]? with|none=>True|some none=>_|some (some w)=>_
  rw[enmL_get];cases e:l[i]? with
  |none=>exact⟨vs,hq,by rw[←hl];exact JR.mp e⟩
  |some x =>
   obtain⟨v,ev,rv⟩:=q.get e;refine⟨⟨vs,v,hq,ev⟩,fun y H' yl=>?_⟩
   obtain⟨T,v',rfl,hT,rfl,yl⟩:=yl
   have:v'=v:=Jk ((yl vs hq).symm.trans ev)
   subst this;have sn:=Sub.new (o:=.tup [.int (i:Nat),v']) (R.gnone hT);refine⟨_,sn,R.froze hT,?_⟩;rw[Yz];exact RP.tup (.inl (.inl JC)) (.cons (.int _) (.cons (rv.mono (s.trans sn)) .nil))
theorem zPP{a:Addr}{j n:Nat} (h:ρ[j]?=some a):WOk K cl ρ G (Ite K a) (srcE j n):=by
 intro E0 ρ' G' st H i p s R
 have at':∀l,st[j]?=some (.lst l)→∃vs,H a=some (.lst vs)∧RWs K cl ρ' G' l vs:=fun l el=>by
  obtain⟨b,hb,⟨vs,h1,h2⟩,_⟩:=R.at el;have hb:ρ'[j]?=some b:=hb;obtain⟨t,rfl⟩:=p;rw[Je (Jb.mp h).1,h]at hb;cases hb;exact⟨vs,h1,h2⟩
 unfold srcE;dsimp only;split
 ·trivial
 ·rename_i e
  split at e
  ·rename_i l el
   obtain⟨vs,h1,h2⟩:=at' l el;split at e
   ·rename_i e2
    exact⟨vs,.inl (.inl h1),by rw[←h2.length];exact JR.mp e2⟩
   ·cases e
   ·cases e
  ·cases e
 ·rename_i w e
  split at e
  ·rename_i l el
   obtain⟨vs,h1,h2⟩:=at' l el;split at e
   ·cases e
   ·rename_i x e2
    cases e;obtain⟨v,ev,rv⟩:=h2.get e2;refine⟨⟨vs,v,.inl (.inl h1),ev⟩,fun y H' yl=>?_⟩
    obtain⟨T,v',rfl,hT,rfl,yl⟩:=yl
    have:v'=v:=Jk ((yl vs (.inl (.inl h1))).symm.trans ev)
    subst this;have sn:=Sub.new (o:=.tup [.int (i:Nat),v']) (R.gnone hT);exact⟨_,sn,R.froze hT,RP.tup (.inl (.inl JC)) (.cons (.int _) (.cons (RP.mono sn rv) .nil))⟩
   ·cases e
  ·cases e
theorem si_enm{a:EM}{e:Expr}{p pos tpos:Pos}{elts:List Expr}{kk:Nat} (g:GX K X) (hg:Gl X "enumerate") (hm:X.mg "enumerate" = none) (ha:SE K cl X Wx a e) (hs:starEach [e] X.env=(false,eval e X.env)::starEach [] X.env:=by rfl) (h3:starEach [] X.env=[]:=by rfl) :
  SI K cl X Wx (.Tuple elts kk tpos) (mEnm a) (.Call (.Name "enumerate" p) [e] [] pos):=by
 obtain⟨hK,_⟩:=g;subst hK;refine⟨fun E0 ρ G σ st τ H R Rl S q=>TIc.of (pi_enum hg hm (T.pa1 hs) (by rw[hs,h3])) ?_⟩
 refine ha.run E0 ρ G σ st τ H _ Rl S (Aft.seq q fun w st1 ρ1 G1 H1 v e1 p1 s1 R1 u1 h1=>?_)
 cases w with
 |p x =>
  cases x with
  |lst l =>
   cases u1 with
   |lst hh qq=>exact⟨_,_,rfl,.inl (.inl (R1.sub _ _ hh)),h1 ρ1 G1 H1 _ (Jh _) (Sub.refl _) R1 (zSg (.lst hh qq))⟩
  |_=>exact h1.elim
 |r j =>
  obtain⟨b,ha,rfl⟩:=u1;simp only[vEnm]at h1;split at h1
  ·rename_i sr er
   split at er
   ·rename_i l el
    cases er;obtain⟨b,hb,⟨vs,h2,h3⟩,_⟩:=R1.at el;cases Jk (ha.symm.trans hb);exact⟨_,vs,rfl,.inl (.inl h2),h1 ρ1 G1 H1 _ (Jh _) (Sub.refl _) R1 (zPP ha)⟩
   ·cases er
  ·exact h1.elim
def zipL:List P→List P→List W
 |x::l,y::m=>.p (.tup [x,y])::zipL l m
 |_,_=>[]
theorem zLk:∀ {l m:List P}{i:Nat},(zipL l m)[i]?=match l[i]?,m[i]? with
  |some x,some y=>some (.p (.tup [x,y]))
  |_,_=>none
 |[],m,i=>by simp[zipL]
 |x::l,[],i=>by
  simp only[zipL,List.getElem?_nil];split
  ·rename_i h;cases h
  ·rfl
 |x::l,y::m,0=>by simp[zipL]
 |x::l,y::m,i+1=>by
  show(zipL l m)[i]?=_;rw[zLk];simp
end
mutual
def toD:P→Option PyData
 | .non=>some .none
 | .bl b=>some (.bool b)
 | .int i=>some (.int i)
 | .str s=>some (.str s)
 | .tup l=>match toDs l with
  |some ds=>some (.tuple ds)
  |none=>none
 | .lst l=>match toDs l with
  |some ds=>some (.list ds)
  |none=>none
 | .scr _=>none
 | .dk _ _=>none
 | .obj _ _=>none
 | .exn _ _=>none
 | .lam _ _=>none
 | .cls _=>none
 | .fd _ _=>none
 | .fn _ _=>none
def toDs:List P→Option (List PyData)
 |[]=>some []
 |x::l=>match toD x,toDs l with
  |some d,some ds=>some (d::ds)
  |_,_=>none
end
def unC(st:List Cell):W→Option P
 | .p x=>some x
 | .r i=>match st[i]? with
  |some (.lst l)=>match pures l with
   |some m=>some (.lst m)
   |none=>none
  |_=>none
section
variable {K:PySem.W.Frag}{cl:Cls}{X:Cx}{Wx:WX}{E0:En}{ρ ρ':List Addr}{G G':Hp}{σ:Sg}{τ:L2.St}{st:List Cell}{H:Hp}{D:Ends}
mutual
theorem RP.dp(s:Sub G H):∀ {x:P}{v:V}{d:PyData},RP K cl G x v→toD x=some d→Dp K H v d
 |_,_,_,.non,e=>by rw[toD]at e;cases e;exact .non
 |_,_,_,.bl b,e=>by rw[toD]at e;cases e;exact .bl b
 |_,_,_,.int i,e=>by rw[toD]at e;cases e;exact .int i
 |_,_,_,.str z,e=>by rw[toD]at e;cases e;exact .str z
 |_,_,_,.tup h r,e=>by
  rw[toD]at e;split at e
  ·rename_i ds e2;cases e;exact .tup (s.sqT h) (RPs.dp s r e2)
  ·cases e
 |_,_,_,.lst h r,e=>by
  rw[toD]at e;split at e
  ·rename_i ds e2;cases e;exact .lst (.inl (.inl (s _ _ h))) (RPs.dp s r e2)
  ·cases e
 |_,_,_,.scr h,e=>by rw[toD]at e;cases e
 |_,_,_,.dk h z r,e=>by rw[toD]at e;cases e
 |_,_,_,.obj c h z r,e=>by rw[toD]at e;cases e
 |_,_,_,.exn c x h d z r,e=>by rw[toD]at e;cases e
 |_,_,_,.lam _ _ _ _ _,e=>by rw[toD]at e;cases e
 |_,_,_,.cls _,e=>by rw[toD]at e;cases e
 |_,_,_,.fd _ _ _,e=>by rw[toD]at e;cases e
 |_,_,_,.fn _ _ _ _ _ _ _,e=>by rw[toD]at e;cases e
theorem RPs.dp(s:Sub G H):∀ {l:List P}{vs:List V}{ds:List PyData},RPs K cl G l vs→toDs l=some ds→DpAll K H vs ds
 |_,_,_,.nil,e=>by rw[toDs]at e;cases e;exact .nil
 |_,_,_,.cons h r,e=>by
  rw[toDs]at e;split at e
  ·rename_i d ds e1 e2;cases e;exact .cons (RP.dp s h e1) (RPs.dp s r e2)
  ·cases e
end
def unD(st:List Cell) (w:W):Option PyData:=(unC st w).bind toD
theorem zHV(R:(bs K cl E0).Rel ρ G st H){w:W}{v:V}{d:PyData} (r:RW K cl ρ G w v) (e:unD st w=some d):Dp K H v d:=by
 cases w with
 |p x=>exact RP.dp R.sub r e
 |r i =>
  obtain⟨a,ha,rfl⟩:=r;unfold unD unC at e;dsimp only at e;split at e
  ·rename_i l el
   split at e
   ·rename_i m em
    obtain⟨b,hb,⟨vs,h2,h3⟩,_⟩:=R.at el;cases Jk (ha.symm.trans hb);have e:toD (.lst m)=some d:=e;rw[toD]at e;split at e
    ·rename_i ds e2
     cases e;exact .lst (.inl (.inl h2)) ((h3.pures em).dp R.sub e2)
    ·cases e
   ·cases e
  ·cases e
def eqS:P→P→Option Bool
 | .non,.non=>some true
 | .int a,.int b=>some (a==b)
 | .bl a,.bl b=>some (a==b)
 | .str a,.str b=>some (a==b)
 | .non,.int _=>some false
 | .int _,.non=>some false
 | .non,.bl _=>some false
 | .bl _,.non=>some false
 | .non,.str _=>some false
 | .str _,.non=>some false
 | .int _,.str _=>some false
 | .str _,.int _=>some false
 | .bl _,.str _=>some false
 | .str _,.bl _=>some false
 |_,_=>none
theorem eqS_ok{x y:P}{v u:V}{k:Bool} (r:RP K cl G x v) (r2:RP K cl G y u) (e:eqS x y=some k):scal v u=true∧decide (v=u)=k:=by
 cases r<;>cases r2<;>first
  |(unfold eqS at e;cases e;done)
  |(cases e;exact⟨rfl,dec_int⟩)
  |(cases e;exact⟨rfl,dec_bl⟩)
  |(cases e;exact⟨rfl,dec_str⟩)
  |(cases e;exact⟨rfl,by simp⟩)
def eqW:W→W→Option Bool
 | .p x,.p y=>eqS x y
 |_,_=>none
def vEqB(neg:Bool) (x y:W) (st:List Cell):Res W:=match eqW x y with
 |some k=>.ok (.p (.bl (if neg=true then !k else k))) st
 |none=>match unD st x,unD st y with
  |some d,some e=>if SeqAt.shaped d=true∧SeqAt.shaped e=true then .ok (.p (.bl (if neg=true then !PyData.eqv d e else PyData.eqv d e))) st else .no
  |_,_=>.no
theorem zRD{x y:W}{v u:V}{k:Bool} (r:RW K cl ρ G x v) (r2:RW K cl ρ G y u) (e:eqW x y=some k):scal v u=true∧decide (v=u)=k:=by
 cases x with
 |p x =>
  cases y with
  |p y=>exact eqS_ok r r2 e
  |r j=>cases e
 |r i=>cases e
def rEqA(K:PySem.W.Frag):R2:=fun x y H Q=>rEq x y H Q∨rEqD K x y H Q
def rNeA(K:PySem.W.Frag):R2:=fun x y H Q=>rNe x y H Q∨rNeD K x y H Q
theorem zQr:VOp K cl (vEqB false) (rEqA K):=by
 intro E0 ρ G st H x y v u Q Z R rx ry h;unfold vEqB at h;split at h
 ·rename_i k ek
  obtain⟨h1,h2⟩:=zRD rx ry ek;exact .inl ⟨h1,by rw[h2];exact h.here R (RP.bl _)⟩
 ·split at h
  ·rename_i d e hd he
   split at h
   ·rename_i hs
    exact .inr ⟨d,e,zHV R rx hd,zHV R ry he,hs.1,hs.2,h.here R (RP.bl _)⟩
   ·exact h.elim
  ·exact h.elim
theorem zQ9:VOp K cl (vEqB true) (rNeA K):=by
 intro E0 ρ G st H x y v u Q Z R rx ry h;unfold vEqB at h;split at h
 ·rename_i k ek
  obtain⟨h1,h2⟩:=zRD rx ry ek;exact .inl ⟨h1,by rw[h2];exact h.here R (RP.bl _)⟩
 ·split at h
  ·rename_i d e hd he
   split at h
   ·rename_i hs
    exact .inr ⟨d,e,zHV R rx hd,zHV R ry he,hs.1,hs.2,h.here R (RP.bl _)⟩
   ·exact h.elim
  ·exact h.elim
theorem zQe(hu:X.A.units+64<cLine):OpR X (compareOp .Eq) (rEqA X.K):=op_eq.or (op_eqD hu)
theorem zQy(hu:X.A.units+64<cLine):OpR X (compareOp .NotEq) (rNeA X.K):=op_ne.or (op_neD hu)
theorem zE0{a b:EM}{pa pb:Expr}{pos:Pos} (g:GX K X) (ha:SE K cl X Wx a pa) (hb:SE K cl X Wx b pb) (hm:behindInMarks .Eq pb=false:=by rfl):SE K cl X Wx (mBin (vEqB false) a b) (.Compare pa [.Eq] [pb] pos):=by
 obtain⟨hK,hc,hN,hu,hh⟩:=g;subst hK;exact zK6 (zQe ∅) hm zQr ha hb
theorem se_ne{a b:EM}{pa pb:Expr}{pos:Pos} (g:GX K X) (ha:SE K cl X Wx a pa) (hb:SE K cl X Wx b pb) (hm:behindInMarks .NotEq pb=false:=by rfl):SE K cl X Wx (mBin (vEqB true) a b) (.Compare pa [.NotEq] [pb] pos):=by
 obtain⟨hK,hc,hN,hu,hh⟩:=g;subst hK;exact zK6 (zQy ∅) hm zQ9 ha hb
def zEY:P→Bool
 | .non=>true
 | .bl _=>true
 | .int _=>true
 | .str _=>true
 |_=>false
def eqF:P→P→Bool
 | .non,.non=>true
 | .bl a,.bl b=>a==b
 | .bl a,.int b=>(if a then 1 else 0)==b
 | .int a,.bl b=>a==(if b then 1 else 0)
 | .int a,.int b=>a==b
 | .str a,.str b=>a==b
 |_,_=>false
def inP(x:P) (l:List P):Bool:=l.any fun y=>eqF y x
theorem RP.flat{x:P}{v:V} (r:RP K cl G x v) (h:zEY x=true):flatV v=true:=by cases r<;>first|rfl|cases h
theorem RP.eqF{x y:P}{v u:V} (r:RP K cl G x v) (r2:RP K cl G y u) (h:zEY x=true) (h2:zEY y=true):eqV v u=Y.eqF x y:=by
 cases r<;>first|(cases h;done)|(cases r2<;>first|(cases h2;done)|rfl)
theorem RPs.flat:∀ {l:List P}{vs:List V},RPs K cl G l vs→l.all zEY=true→vs.all flatV=true
 |_,_,.nil,_=>rfl
 |_,_,.cons h r,e=>by
  rw[jj,Js]at e ⊢;exact⟨h.flat e.1,RPs.flat r e.2⟩
theorem RPs.inV{x:P}{v:V} (h:RP K cl G x v) (hx:zEY x=true):∀ {l:List P}{vs:List V},RPs K cl G l vs→l.all zEY=true→L2.inV v vs=inP x l
 |_,_,.nil,_=>rfl
 |y::l,u::vs,.cons q r,e=>by
  rw[jj,Js]at e;have ih:=RPs.inV h hx r e.2;unfold L2.inV inP at ih ⊢;rw[Ym,Ym,q.eqF h e.1 hx,ih]
def seqP(st:List Cell) (w:W):Option (List P):=match unC st w with
 |some (.lst l)=>some l
 |some (.tup l)=>some l
 |_=>none
theorem zFa(R:(bs K cl E0).Rel ρ G st H){w:W}{v:V}{l:List P} (r:RW K cl ρ G w v) (e:seqP st w=some l):∃a vs,v=.ref a∧(SqL K H a vs∨SqT K H a vs)∧RPs K cl G l vs:=by
 unfold seqP unC at e;cases w with
 |p x =>
  cases x with
  |lst m =>
   cases e;cases r with
   |lst h q=>exact⟨_,_,rfl,.inl (.inl (.inl (R.sub _ _ h))),q⟩
  |tup m =>
   cases e;cases r with
   |tup h q=>exact⟨_,_,rfl,.inr (R.sub.sqT h),q⟩
  |_=>cases e
 |r i =>
  obtain⟨a,ha,rfl⟩:=r;dsimp only at e;split at e
  ·rename_i m em
   split at em
   ·rename_i l' el
    split at em
    ·rename_i m' em'
     cases em;cases e;obtain⟨b,hb,⟨vs,h2,h3⟩,_⟩:=R.at el;cases Jk (ha.symm.trans hb);exact⟨a,vs,rfl,.inl (.inl (.inl h2)),h3.pures em'⟩
    ·cases em
   ·cases em
  ·rename_i m em
   split at em
   ·split at em
    ·cases em
    ·cases em
   ·cases em
  ·cases e
def occ(i j:Str):Bool := !(Builtin.Str.occurrences j i 0 j.length 1).isEmpty
def vInB(neg:Bool) (x y:W) (st:List Cell):Res W:=match x,y with
 | .p (.str i),.p (.str j)=>.ok (.p (.bl (if neg=true then !occ i j else occ i j))) st
 | .p x',y=>match seqP st y with
  |some l=>if zEY x'=true∧l.all zEY=true then .ok (.p (.bl (if neg=true then !inP x' l else inP x' l))) st else
   match toD x',unD st y with
   |some d,some (.list ds)=>if SeqAt.shaped d=true∧SeqAt.shaped (.list ds)=true then .ok (.p (.bl (if neg=true then !ds.any fun z=>PyData.eqv z d else ds.any fun z=>PyData.eqv z d))) st else .no
   |_,_=>.no
  |none=>.no
 |_,_=>.no
def rInA(K:PySem.W.Frag) (neg:Bool):R2:=fun x y H Q=>(rIn K neg x y H Q∨(if neg=true then rNotInD K x y H Q else rInD K x y H Q))∨∃i j,x=.str i∧y=.str j∧Q (.bl (if neg=true then !occ i j else occ i j)) H
theorem zRB(hu:X.A.units+65<cLine):OpR X (compareOp .In) (rInA X.K false):=by
 intro pins s σ H x y v u Q I rx ry h;rcases h with(h|h)|h
 ·exact op_in_seq pins s σ H x y v u Q I rx ry h
 ·exact op_inD hu pins s σ H x y v u Q I rx ry h
 ·exact op_in_str pins s σ H x y v u Q I rx ry h
theorem zNs(hu:X.A.units+65<cLine):OpR X (compareOp .NotIn) (rInA X.K true):=by
 intro pins s σ H x y v u Q I rx ry h;rcases h with(h|h)|h
 ·exact op_notIn_seq pins s σ H x y v u Q I rx ry h
 ·exact op_notInD hu pins s σ H x y v u Q I rx ry h
 ·exact op_notIn_str pins s σ H x y v u Q I rx ry h
theorem zOf{neg:Bool}:VOp K cl (vInB neg) (rInA K neg):=by
 intro E0 ρ G st H x y v u Q Z R rx ry h;unfold vInB at h;split at h
 ·rename_i i j
  cases rx;cases ry;exact .inr ⟨i,j,rfl,rfl,h.here R (RP.bl _)⟩
 ·rename_i x' _ _
  split at h
  ·rename_i l el
   split at h
   ·rename_i hf
    obtain⟨a,vs,rfl,h1,h2⟩:=zFa R ry el;refine .inl (.inl ⟨a,vs,rfl,h1,RP.flat rx hf.1,h2.flat hf.2,?_⟩);rw[RPs.inV rx hf.1 h2 hf.2];exact h.here R (RP.bl _)
   ·split at h
    ·rename_i d ds hd hds
     split at h
     ·rename_i hs
      refine .inl (.inr ?_);cases neg with
      |true=>exact⟨d,ds,RP.dp R.sub rx hd,zHV R ry hds,hs.1,hs.2,h.here R (RP.bl _)⟩
      |false=>exact⟨d,ds,RP.dp R.sub rx hd,zHV R ry hds,hs.1,hs.2,h.here R (RP.bl _)⟩
     ·exact h.elim
    ·exact h.elim
  ·exact h.elim
 ·exact h.elim
theorem zRb{a b:EM}{pa pb:Expr}{pos:Pos} (g:GX K X) (ha:SE K cl X Wx a pa) (hb:SE K cl X Wx b pb) (hm:behindInMarks .In pb=false:=by rfl):SE K cl X Wx (mBin (vInB false) a b) (.Compare pa [.In] [pb] pos):=by
 obtain⟨hK,_,_,hu,_⟩:=g;subst hK;exact zK6 (zRB hu) hm zOf ha hb
def vIsN(neg:Bool) (x y:W) (st:List Cell):Res W:=match y with
 | .p .non=>match x with
  | .p .non=>.ok (.p (.bl (!neg))) st
  |_=>.ok (.p (.bl neg)) st
 |_=>.no
theorem RW.nonOnly{x:W}{v:V} (r:RW K cl ρ G x v) (h:x≠.p .non):v≠.non:=fun e=>by
 subst e;cases x with
 |p x=>cases r;exact h rfl
 |r i=>obtain⟨a,_,e⟩:=r;cases e
theorem zQc:VOp K cl (vIsN false) (fun x y H Q=>y=.non∧Q (.bl (decide (x=.non))) H):=by
 intro E0 ρ G st H x y v u Q Z R rx ry h;unfold vIsN at h;split at h
 ·cases ry;refine⟨rfl,?_⟩;split at h
  ·cases rx;exact h.here R (RP.bl _)
  ·rename_i hn
   rw[JM (rx.nonOnly hn)];exact h.here R (RP.bl _)
 ·exact h.elim
def zE7(i j:Int):Bool:=decide (i.natAbs.log2+j.natAbs.log2<1000000)
def vAdd(x y:W) (st:List Cell):Res W:=match x,y with
 | .p (.int i),.p (.int j)=>.ok (.p (.int (i+j))) st
 | .p (.str i),.p (.str j)=>if i.length+j.length≤LIM then .ok (.p (.str (i++j))) st else .no
 | .p (.tup l),.p (.tup m)=>if l.length+m.length≤LIM then .ok (.p (.tup (l++m))) st else .no
 |x,y=>match unC st x,unC st y with
  |some (.lst l),some (.lst m)=>if l.length+m.length≤LIM then .ok (.p (.lst (l++m))) st else .no
  |_,_=>.no
def rAddA(K:PySem.W.Frag):R2:=fun x y H Q=>((rI0 (fun i j=>.int (i+j)) x y H Q∨∃i j,x=.str i∧y=.str j∧i.length+j.length≤sizeLine∧Q (.str (i++j)) H)∨rCatA K x y H Q)∨rCat x y H Q
theorem zRp:OpR X (binaryOp .Add) (rAddA X.K):=((op_add.or op_add_str).or op_catA).or op_cat
theorem zIk(R:(bs K cl E0).Rel ρ G st H){w:W}{v:V}{l:List P} (r:RW K cl ρ G w v) (e:unC st w=some (.lst l)):∃a vs,v=.ref a∧H a=some (.lst vs)∧RPs K cl G l vs:=by
 unfold unC at e;cases w with
 |p x =>
  cases e;cases r with
  |lst h q=>exact⟨_,_,rfl,R.sub _ _ h,q⟩
 |r i =>
  obtain⟨a,ha,rfl⟩:=r;dsimp only at e;split at e
  ·rename_i l' el
   split at e
   ·rename_i m' em'
    cases e;obtain⟨b,hb,⟨vs,h2,h3⟩,_⟩:=R.at el;cases Jk (ha.symm.trans hb);exact⟨a,vs,rfl,h2,h3.pures em'⟩
   ·cases e
  ·cases e
theorem zSf:VOp K cl vAdd (rAddA K):=by
 intro E0 ρ G st H x y v u Q Z R rx ry h;unfold vAdd at h;split at h
 ·cases rx;cases ry;exact .inl (.inl (.inl ⟨_,_,rfl,rfl,h.here R (RP.int _)⟩))
 ·cases rx;cases ry;split at h
  ·rename_i hl
   exact .inl (.inl (.inr ⟨_,_,rfl,rfl,zEK hl,h.here R (RP.str _)⟩))
  ·exact h.elim
 ·rename_i l m
  cases rx with
  |tup h1 q1 =>
   cases ry with
   |tup h2 q2 =>
    split at h
    ·rename_i hl
     refine .inl (.inr ⟨_,_,_,_,rfl,rfl,R.sub.sqT h1,R.sub.sqT h2,by rw[←q1.length,←q2.length];exact zEK hl,fun e=>?_,fun _ e=>?_,fun _ _ p hp=>?_⟩)
     ·subst e;cases q1;exact h.here R (RP.tup h2 q2)
     ·subst e;cases q2;rw[Vt]at h;exact h.here R (RP.tup h1 q1)
     ·exact h.newP R hp (.tup (.inl (.inl JC)) ((q1.append q2).mono (Sub.new (R.gnone hp))))
    ·exact h.elim
 ·split at h
  ·rename_i l m el em
   obtain⟨a,vs,rfl,h1,q1⟩:=zIk R rx el;obtain⟨b,us,rfl,h2,q2⟩:=zIk R ry em;split at h
   ·rename_i hl
    exact .inr ⟨_,_,_,_,rfl,rfl,h1,h2,by rw[←q1.length,←q2.length];exact zEK hl,fun p hp=>h.newP R hp (.lst JC ((q1.append q2).mono (Sub.new (R.gnone hp))))⟩
   ·exact h.elim
  ·exact h.elim
theorem zAi{a b:EM}{pa pb:Expr}{pos:Pos} (g:GX K X) (ha:SE K cl X Wx a pa) (hb:SE K cl X Wx b pb):SE K cl X Wx (mBin vAdd a b) (.BinOp pa .Add pb pos):=by
 obtain⟨hK,_⟩:=g;subst hK;exact zGV zRp zSf ha hb
def vSub:=vI2 (fun _ _=>true) fun i j=>.int (i-j)
theorem zGH{a b:EM}{pa pb:Expr}{pos:Pos} (ha:SE K cl X Wx a pa) (hb:SE K cl X Wx b pb):SE K cl X Wx (mBin vSub a b) (.BinOp pa .Sub pb pos):=zGV op_sub (zGp fun i j G=>RP.int _) ha hb
def vFdv:=vI2 (fun _ j=>decide (0<j∧j.natAbs.log2<9000)) fun i j=>.int (i/j)
theorem zQl{a b:EM}{pa pb:Expr}{pos:Pos} (ha:SE K cl X Wx a pa) (hb:SE K cl X Wx b pb):SE K cl X Wx (mBin vFdv a b) (.BinOp pa .FloorDiv pb pos):=zGV op_fdivW (zLQ (fun i j G=>RP.int _) fun i j h=>by have h:=JB h;exact h) ha hb
def vMod:=vI2 (fun _ j=>decide (0<j)) fun i j=>.int (i%j)
theorem zDM{a b:EM}{pa pb:Expr}{pos:Pos} (ha:SE K cl X Wx a pa) (hb:SE K cl X Wx b pb):SE K cl X Wx (mBin vMod a b) (.BinOp pa .Mod pb pos):=zGV op_mod (zLQ (fun i j G=>RP.int _) fun i j h=>by have h:=JB h;exact h) ha hb
def vPow:=vI2 (fun i j=>decide (0≤j∧j≤1000∧i.natAbs<1000)) fun i j=>.int (i^j.toNat)
theorem se_pow{a b:EM}{pa pb:Expr}{pos:Pos} (ha:SE K cl X Wx a pa) (hb:SE K cl X Wx b pb):SE K cl X Wx (mBin vPow a b) (.BinOp pa .Pow pb pos):=zGV op_pow (zLQ (fun i j G=>RP.int _) fun i j h=>by
 have h:=JB h
 exact⟨h.1,∅,∅⟩) ha hb
def zHG:=vI2 zE7 fun i j=>.int (i*j)
theorem zD0{a b:EM}{pa pb:Expr}{pos:Pos} (ha:SE K cl X Wx a pa) (hb:SE K cl X Wx b pb):SE K cl X Wx (mBin zHG a b) (.BinOp pa .Mult pb pos):=zGV op_mulW (zLQ (fun i j G=>RP.int _) fun i j h=>by have h:=JB h;exact h) ha hb
def vLt:=vI2 (fun _ _=>true) fun i j=>.bl (decide (i<j))
def vLe:=vI2 (fun _ _=>true) fun i j=>.bl (decide (i≤j))
def vGt:=vI2 (fun _ _=>true) fun i j=>.bl (decide (j<i))
def vGe:=vI2 (fun _ _=>true) fun i j=>.bl (decide (j≤i))
theorem vLt_ok:VOp K cl vLt (rI0 fun i j=>.bl (decide (i<j))):=zGp fun i j G=>RP.bl _
theorem zG3:VOp K cl vLe (rI0 fun i j=>.bl (decide (i≤j))):=zGp fun i j G=>RP.bl _
theorem vGt_ok:VOp K cl vGt (rI0 fun i j=>.bl (decide (j<i))):=zGp fun i j G=>RP.bl _
theorem vGe_ok:VOp K cl vGe (rI0 fun i j=>.bl (decide (j≤i))):=zGp fun i j G=>RP.bl _
theorem se_is{a b:EM}{pa pb:Expr}{pos:Pos} (ha:SE K cl X Wx a pa) (hb:SE K cl X Wx b pb) (hm:behindInMarks .Is pb=false:=by rfl):SE K cl X Wx (mBin (vIsN false) a b) (.Compare pa [.Is] [pb] pos):=zK6 op_isN hm zQc ha hb
def zGQ(f f2:W→W→List Cell→Res W) (a b c:EM):EM:=fun σ st=>(a σ st).bind fun x st1=>(b σ st1).bind fun y st2=>(f x y st2).bind fun t st3=>match t with
 | .p (.bl k)=>if k=true then(c σ st3).bind fun z st4=>f2 y z st4 else .ok (.p (.bl false)) st3
 |_=>.no
theorem zL9{r r':R2}{f f2:W→W→List Cell→Res W}{a b c:EM}{pa pb pc:Expr}{Q:VK} (hf:VOp K cl f r) (hf2:VOp K cl f2 r') (ha:SE K cl X Wx a pa) (hb:SE K cl X Wx b pb) (hc:SE K cl X Wx c pc)
  (R:(bs K cl E0).Rel ρ G st H) (S:RS K cl ρ G σ τ) (h:Aft (bs K cl E0) (bs K cl E0).RW ρ G (zGQ f f2 a b c σ st) Q (fun c d H'=>Wx c d τ H')):tChain r r' (T X pa) (T X pb) (T X pc) τ H Q:=by
 refine ha.run E0 ρ G σ st τ H _ R S (Aft.seq h fun x st1 ρ1 G1 H1 v e1 p1 s1 R1 u1 h1=>?_)
 refine hb.run E0 ρ1 G1 σ st1 τ H1 _ R1 (S.mono p1 s1) (Aft.seq h1 fun y st2 ρ2 G2 H2 u e2 p2 s2 R2 u2 h2=>?_)
 refine hf E0 ρ2 G2 st2 H2 x y v u _ _ R2 (RW.mono p2 s2 u1) u2 (Aft.seq h2 fun t st3 ρ3 G3 H3 z e3 p3 s3 R3 u3 h3=>?_)
 split at h3
 ·rename_i k
  cases u3;refine⟨k,rfl,?_⟩;cases k with
  |false=>exact Aft.here (b:=V.bl false) h3 R3 (RP.bl false)
  |true =>
   simp only[Ye]at h3 ⊢;refine hc.run E0 ρ3 G3 σ st3 τ H3 _ R3 (S.mono (p1.trans (p2.trans p3)) (s1.trans (s2.trans s3))) (Aft.seq h3 fun w st4 ρ4 G4 H4 w' e4 p4 s4 R4 u4 h4=>?_)
   exact hf2 E0 ρ4 G4 st4 H4 y w u w' _ _ R4 (RW.mono (p3.trans p4) (s3.trans s4) u2) u4 h4
 ·exact h3.elim
theorem zIV{op op':CmpOp}{r r':R2}{f f2:W→W→List Cell→Res W}{a b c:EM}{pa pb pc:Expr}{pos:Pos} (ho:OpR X (compareOp op) r) (ho':OpR X (compareOp op') r') (hf:VOp K cl f r) (hf2:VOp K cl f2 r')
  (ha:SE K cl X Wx a pa) (hb:SE K cl X Wx b pb) (hc:SE K cl X Wx c pc) (hm:lastMarks [op,op'] [pb,pc]=false:=by with_unfolding_all rfl):SE K cl X Wx (zGQ f f2 a b c) (.Compare pa [op,op'] [pb,pc] pos) :=
 ⟨fun E0 ρ G σ st τ H Q R S h=>T.of (pe_chain ho ho' T.pe T.pe T.pe hm) (zL9 hf hf2 ha hb hc R S h)⟩
def mNeg(a:EM):EM:=fun σ st=>(a σ st).bind fun w st1=>match w with
 | .p (.int i)=>.ok (.p (.int (-i))) st1
 |_=>.no
theorem zLm{a:EM}{pa:Expr}{pos:Pos} (ha:SE K cl X Wx a pa):SE K cl X Wx (mNeg a) (.UnaryOp .USub pa pos):=by
 refine⟨fun E0 ρ G σ st τ H Q R S h=>T.of (pe_un un_neg T.pe) ?_⟩
 refine ha.run E0 ρ G σ st τ H _ R S (Aft.seq h fun w st1 ρ1 G1 H1 v e1 p1 s1 R1 u1 h1=>?_)
 split at h1
 ·rename_i i
  cases u1;exact⟨i,rfl,h1.here R1 (RP.int _)⟩
 ·exact h1.elim
abbrev OM:=Sg→List Cell→Res (Option Int)
def TO'(X:Cx) (e:Option Expr):TO:=fun σ H Q=>∀(pins:List (Addr×Obj)) (s:Shared),Inv X pins σ H s →
 wpAny (model X.prog X.w) X.A (evalPart e X.env) (fun u s'=>∃o H',Inv X pins σ H' s'∧IsPart u o∧Q o H') X.xe s
theorem TO'.po{e:Option Expr}:PO X e (TO' X e):=⟨fun pins s σ H Q I h=>h pins s I⟩
theorem TO'.of{e:Option Expr}{t:TO}{Q:Option Int→Hp→Prop} (h:PO X e t) (q:t τ H Q):TO' X e τ H Q:=fun pins s I=>h.run pins s τ H Q I q
structure SO (K:PySem.W.Frag) (cl:Cls) (X:Cx) (Wx:WX) (m:OM) (e:Option Expr):Prop where
 run:∀E0 ρ G σ st τ H Q,(bs K cl E0).Rel ρ G st H→RS K cl ρ G σ τ→Aft (bs K cl E0) (fun _ _ (a b:Option Int)=>a=b) ρ G (m σ st) Q (fun c d H'=>Wx c d τ H')→TO' X e τ H Q
def zE4:OM:=fun _ st=>.ok none st
def zFM(a:EM):OM:=fun σ st=>(a σ st).bind fun w st1=>match w with
 | .p (.int i)=>.ok (some i) st1
 |_=>.no
theorem zEi:SO K cl X Wx zE4 none:=⟨fun E0 ρ G σ st τ H Q R S h=>TO'.of po_none (h.here (b:=none) R rfl)⟩
theorem zEr{a:EM}{e:Expr} (ha:SE K cl X Wx a e):SO K cl X Wx (zFM a) (some e):=by
 refine⟨fun E0 ρ G σ st τ H Q R S h=>TO'.of (po_some T.pe) ?_⟩
 refine ha.run E0 ρ G σ st τ H _ R S (Aft.seq h fun w st1 ρ1 G1 H1 v e1 p1 s1 R1 u1 h1=>?_)
 split at h1
 ·rename_i i
  cases u1;exact⟨i,rfl,h1.here (b:=some i) R1 rfl⟩
 ·exact h1.elim
def cutL{α:Type} (xs:List α) (lo hi:Option Int):List α:=(xs.drop (HT.sIx xs.length 0 lo)).take (HT.sIx xs.length xs.length hi-HT.sIx xs.length 0 lo)
theorem RPs.cut{l:List P}{vs:List V} (q:RPs K cl G l vs) (lo hi:Option Int):RPs K cl G (cutL l lo hi) (cutV vs lo hi):=by
 unfold cutL cutV;rw[q.length];exact(q.drop _).take _
theorem zPA{α:Type}{xs:List α}{lo hi:Option Int} (h:HT.sIx xs.length 0 lo=0∧HT.sIx xs.length xs.length hi=xs.length):cutL xs lo hi=xs:=by
 unfold cutL;rw[h.1,h.2];simp
def vSl(x:W) (lo hi:Option Int) (st:List Cell):Res W:=match x with
 | .p (.str z)=>if z.length≤LIM then .ok (.p (.str (cutS z lo hi))) st else .no
 | .p (.tup l)=>.ok (.p (.tup (cutL l lo hi))) st
 | .p (.scr l)=>.ok (.p (.lst ((cutL l lo hi).map .int))) st
 |x=>match unC st x with
  |some (.lst l)=>.ok (.p (.lst (cutL l lo hi))) st
  |_=>.no
def mSl(a:EM) (lo hi:OM):EM:=fun σ st=>(a σ st).bind fun x st1=>(lo σ st1).bind fun l st2=>(hi σ st2).bind fun u st3=>vSl x l u st3
theorem zRk{l:List Int}{lo hi:Option Int}:cutV (l.map V.int) lo hi=(cutL l lo hi).map V.int:=by
 unfold cutV cutL;rw[Jc,YX,bF]
theorem zKj{a:EM}{lo hi:OM}{e:Expr}{el eh:Option Expr}{pos p2:Pos} (g:GX K X) (ha:SE K cl X Wx a e) (hl:SO K cl X Wx lo el) (hh:SO K cl X Wx hi eh):SE K cl X Wx (mSl a lo hi) (.Subscript e (.Slice el eh none p2) pos):=by
 obtain⟨hK,_⟩:=g;subst hK;refine⟨fun E0 ρ G σ st τ H Q R S h=>T.of (pe_slice ((sl_list.or sl_tupA).or sl_str) T.pe TO'.po TO'.po) ?_⟩
 refine ha.run E0 ρ G σ st τ H _ R S (Aft.seq h fun x st1 ρ1 G1 H1 v e1 p1 s1 R1 u1 h1=>?_)
 refine hl.run E0 ρ1 G1 σ st1 τ H1 _ R1 (S.mono p1 s1) (Aft.seq h1 fun l st2 ρ2 G2 H2 l' e2 p2 s2 R2 u2 h2=>?_)
 obtain rfl:l=l':=u2;refine hh.run E0 ρ2 G2 σ st2 τ H2 _ R2 (S.mono (p1.trans p2) (s1.trans s2)) (Aft.seq h2 fun u st3 ρ3 G3 H3 u' e3 p3 s3 R3 u3 h3=>?_)
 obtain rfl:u=u':=u3
 replace u1:=RW.mono (p2.trans p3) (s2.trans s3) u1
 unfold vSl at h3;split at h3
 ·cases u1;split at h3
  ·rename_i hz
   exact .inr ⟨_,rfl,zEK hz,h3.here R3 (RP.str _)⟩
  ·exact h3.elim
 ·cases u1 with
  |tup hh q =>
   refine .inl (.inr ⟨_,_,rfl,R3.sub.sqT hh,fun e=>?_,fun e p hp=>?_⟩)
   ·rw[zPA (by rw[q.length];exact e)]at h3
    exact h3.here R3 (RP.tup hh q)
   ·exact h3.newP R3 hp (.tup (.inl (.inl JC)) ((q.cut l u).mono (Sub.new (R3.gnone hp))))
 ·cases u1 with
  |scr hh =>
   refine .inl (.inl ⟨_,_,rfl,R3.sub.sqL hh,fun p hp=>?_⟩)
   rw[zRk];exact h3.newP R3 hp (.lst JC (RPs.ints _))
 ·split at h3
  ·rename_i m em
   obtain⟨b,vs,rfl,h4,q⟩:=zIk R3 u1 em;exact .inl (.inl ⟨_,_,rfl,.inl (.inl h4),fun p hp=>h3.newP R3 hp (.lst JC ((q.cut l u).mono (Sub.new (R3.gnone hp))))⟩)
  ·exact h3.elim
end
section
variable {K:PySem.W.Frag}{cl:Cls}{X:Cx}{Wx:WX}{E0:En}{ρ ρ':List Addr}{G G':Hp}{σ:Sg}{τ:L2.St}{st:List Cell}{H:Hp}{D:Ends}
theorem RWs.one{w:W}{vs:List V} (r:RWs K cl ρ G [w] vs):∃v,vs=[v]∧RW K cl ρ G w v:=by
 cases r with
 |cons r rn=>cases rn;exact⟨_,rfl,r⟩
theorem RWs.two{w w2:W}{vs:List V} (r:RWs K cl ρ G [w,w2] vs):∃v u,vs=[v,u]∧RW K cl ρ G w v∧RW K cl ρ G w2 u:=by
 cases r with
 |cons r rn =>
  obtain⟨u,rfl,r2⟩:=rn.one;exact⟨_,_,rfl,r,r2⟩
def vInt(ws:List W) (st:List Cell):Res W:=match ws with
 |[.p (.int i)]=>.ok (.p (.int i)) st
 |[.p (.bl k)]=>.ok (.p (.int (if k then 1 else 0))) st
 |[.p (.str a)]=>match PySem.intText? a with
  |some n=>if a.length≤640 then .ok (.p (.int n)) st else .no
  |none=>.no
 |_=>.no
def rIntA:List V→Hp→VK→Prop:=fun xs H Q=>((∃i,xs=[.int i]∧Q (.int i) H)∨∃k,xs=[.bl k]∧Q (.int (if k then 1 else 0)) H)∨∃a n,xs=[.str a]∧PySem.intText? a=some n∧a.length≤640∧Q (.int n) H
theorem zCI:CallR X (.type "int") rIntA:=call_int1.or call_int_str
theorem zDs:zGK K cl vInt rIntA:=by
 intro E0 ρ G st H ws vs Q Z R rw' h;unfold vInt at h;split at h
 ·obtain⟨v,rfl,r⟩:=rw'.one;cases r;exact .inl (.inl ⟨_,rfl,h.here R (RP.int _)⟩)
 ·obtain⟨v,rfl,r⟩:=rw'.one;cases r;exact .inl (.inr ⟨_,rfl,h.here R (RP.int _)⟩)
 ·obtain⟨v,rfl,r⟩:=rw'.one;cases r;split at h
  ·rename_i n en
   split at h
   ·rename_i hl
    exact .inr ⟨_,n,rfl,en,hl,h.here R (RP.int _)⟩
   ·exact h.elim
  ·exact h.elim
 ·exact h.elim
def intsOf:List P→Option (List Int)
 |[]=>some []
 | .int i::l=>match intsOf l with
  |some m=>some (i::m)
  |none=>none
 |_=>none
theorem zDf(l:List Int):intsOf (l.map P.int)=some l:=by
 induction l with
 |nil=>rfl
 |cons i l ih=>rw[Jl,intsOf,ih]
theorem zFB:∀ {l:List P}{m:List Int},intsOf l=some m→l=m.map P.int
 |[],m,e=>by rw[intsOf]at e;cases e;rfl
 | .int i::l,m,e=>by
  rw[intsOf]at e;split at e
  ·rename_i k ek;cases e;rw[zFB ek];rfl
  ·cases e
 | .non::_,_,e | .bl _::_,_,e | .str _::_,_,e | .tup _::_,_,e | .lst _::_,_,e | .scr _::_,_,e | .dk _ _::_,_,e | .obj _ _::_,_,e | .exn _ _::_,_,e | .lam _ _::_,_,e | .cls _::_,_,e | .fd _ _::_,_,e | .fn _ _::_,_,e=>by
  unfold intsOf at e;cases e
def listOf(st:List Cell) (w:W):Option (List P):=match unC st w with
 |some (.lst l)=>some l
 |_=>none
theorem zED(R:(bs K cl E0).Rel ρ G st H){w:W}{v:V}{l:List P} (r:RW K cl ρ G w v) (e:listOf st w=some l):∃a vs,v=.ref a∧H a=some (.lst vs)∧RPs K cl G l vs:=by
 unfold listOf at e;split at e
 ·rename_i m em
  cases e;exact zIk R r em
 ·cases e
def maxI:List Int→Int
 |[]=>0
 |[i]=>i
 |i::l=>max i (maxI l)
theorem zKe:∀ {l:List Int}{m:Int},m∈l→(∀y,y∈l→y≤m)→m=maxI l
 |[i],m,h,_=>by simpa[maxI]using h
 |i::j::l,m,h,k=>by
  have h1:i≤m:=k i Jg;show m=max i (maxI (j::l));rcases Jo.mp h with rfl|h
  ·have:maxI (j::l)≤m:=by
    have hm:maxI (j::l)∈j::l:=maxI_mem;exact k _ (Jf _ hm)
   omega
  ·rw[←zKe h fun y hy=>k y (Jf _ hy)];omega
where maxI_mem:∀ {j:Int}{l:List Int},maxI (j::l)∈j::l
 |j,[]=>by simp[maxI]
 |j,i::l=>by
  show max j (maxI (i::l))∈_;have ih:maxI (i::l)∈i::l:=maxI_mem
  by_cases h:j≤maxI (i::l)
  ·rw[Int.max_eq_right h];exact Jf _ ih
  ·rw[Int.max_eq_left ∅];exact Jg
theorem zGw(R:(bs K cl E0).Rel ρ G st H){w:W}{v:V}{l:List Int} (r:RW K cl ρ G w v) (e:(listOf st w).bind intsOf=some l):∃a,v=.ref a∧SqL K H a (l.map V.int):=by
 cases e1:listOf st w with
 |none=>rw[e1]at e;cases e
 |some m =>
  rw[e1]at e;obtain⟨a,vs,rfl,h1,q⟩:=zED R r e1
  have:=zFB (show intsOf m=some l from e)
  subst this;rw[q.of_ints]at h1;exact⟨a,rfl,.inl (.inl h1)⟩
def rMaxA(K:PySem.W.Frag):List V→Hp→VK→Prop:=fun xs H Q=>rMax K xs H Q∨∃i j,xs=[.int i,.int j]∧Q (.int (if j>i then j else i)) H
theorem zN9(hc:X.calm=true):CallR X (.builtin "max") (rMaxA X.K):=(cr_max hc).or (call_max2 hc)
def truF:P→Option Bool
 | .bl b=>some b
 | .int i=>some (i != 0)
 |_=>none
def zDp:List P→Option (List Bool)
 |[]=>some []
 |x::l=>match truF x,zDp l with
  |some b,some bs=>some (b::bs)
  |_,_=>none
inductive TrV:V→Bool→Prop where
 |bl (b:Bool):TrV (.bl b) b
 |int (i:Int):TrV (.int i) (i != 0)
theorem zRs{x:P}{v:V}{b:Bool} (r:RP K cl G x v) (e:truF x=some b):TrV v b:=by
 cases r<;>first|(unfold truF at e;cases e;done)|skip
 ·cases e;exact .bl _
 ·cases e;exact .int _
theorem zLp:∀ {l:List P}{vs:List V}{bs:List Bool},RPs K cl G l vs→zDp l=some bs→Paired TrV vs bs
 |_,_,_,.nil,e=>by rw[zDp]at e;cases e;exact .nil
 |_,_,_,.cons h r,e=>by
  rw[zDp]at e;split at e
  ·rename_i b bs e1 e2;cases e;exact .cons (zRs h e1) (zLp r e2)
  ·cases e
theorem zLU{prog:Program}{w:World}{A:Around}:∀ {vs:List V}{its:List Value}{bs:List Bool},Vals vs its→Paired TrV vs bs→TruthOf prog w A (fun i v=>its.toArray[i]?=some v) (fun i=>bs.getD i false):=by
 intro vs its bs rv pr i v s Q E hv hq;have hv':its[i]?=some v:=by simpa using hv
 clear hv
 induction rv generalizing i bs with
 |nil=>simp at hv'
 |cons r t ih =>
  cases pr with
  |cons p pt =>
   cases i with
   |zero =>
    have e:_=v:=Jk hv';subst e;have hq':Q _ s:=hq;cases p with
    |bl b=>cases r;exact wpAny_truthy_bool hq'
    |int i=>obtain⟨t,rfl⟩:=r;exact PySem.P.truthy_int hq'
   |succ i=>exact ih pt i hq (by simpa using hv')
theorem zNa{prog:Program}{w:World}{A:Around}{E:Value→Shared→Prop}{s:Shared}{l:Addr}{items:Array Value}{Q:Value→Shared→Prop} (hl:s.heap.IsTuple l items)
  (h:∀s₂:Shared,s₂={ s with heap:=s.heap.push { cls:=.type "tuple_iterator",data:=.fields #[.ref l,.int 0 0] } } →
   (s₂.heap.IsTupleIter s.heap.objs.size l 0∧s₂.heap.IsTuple l items)→l≠s.heap.objs.size→Q (.ref s.heap.objs.size) s₂):wpAny (model prog w) A (pyIter (.ref l)) Q E s:=by
 have hlt:l<s.heap.objs.size:=by obtain⟨_,e,_⟩:=hl;exact JP e
 exact bg hl (h _ rfl ⟨⟨_,JK _ rfl,rfl,rfl⟩,hl.push _⟩ (Vd hlt))
def rAnyG(K:PySem.W.Frag) (f:List Bool→Bool):List V→Hp→VK→Prop:=fun xs H Q=>∃a vs bs,xs=[V.ref a]∧(SqL K H a vs∨SqT K H a vs)∧Paired TrV vs bs∧Q (.bl (f bs)) H
theorem zEI(hc:X.calm=true):CallR X (.builtin "all") (rAnyG X.K fun bs=>bs.all id):=by
 intro pins s σ H xs us Q I r h;obtain⟨a,vs,bs,rfl,hs,pr,q⟩:=h;rw[jk r];rcases hs with hs|hs
 ·obtain⟨its,rv,hl,_⟩:=I.list hs;have hlen:its.toArray.size=bs.length:=by rw[V4,←rv.length];exact pr.length
  refine call_all_walk (iter_any hl.isList fun s₂ e2 st hne=>?_)
  subst e2;refine⟨_,_,_,_,_,_,_,rfl,Walks.list (A:=X.A.in1) (I.ok.hd hc) _ a hne its.toArray,st,zLU rv pr,fun h' tk hk=>?_⟩
  refine⟨.bl _,H,I.kept fun b o eo=>hk b o (fun hmem=>?_) (Jn _ eo),?_,q⟩
  ·rcases Jo.mp hmem with e1|hmem
   ·exact absurd (e1▸JP eo) (bG _)
   ·cases hmem
  ·dsimp only;show Value.bool _=Value.bool _;rw[←L2.all_range,hlen]
 ·obtain⟨its,rv,hl,_⟩:=I.tuple hs;have hlen:its.toArray.size=bs.length:=by rw[V4,←rv.length];exact pr.length
  refine call_all_walk (zNa (show s.heap.IsTuple a its.toArray from hl) fun s₂ e2 st hne=>?_)
  subst e2;refine⟨_,_,_,_,_,_,_,rfl,Walks.tuple (A:=X.A.in1) (I.ok.hd hc) _ a hne its.toArray,st,zLU rv pr,fun h' tk hk=>?_⟩
  refine⟨.bl _,H,I.kept fun b o eo=>hk b o (fun hmem=>?_) (Jn _ eo),?_,q⟩
  ·rcases Jo.mp hmem with e1|hmem
   ·exact absurd (e1▸JP eo) (bG _)
   ·cases hmem
  ·dsimp only;show Value.bool _=Value.bool _;rw[←L2.all_range,hlen]
def zGy(f:List Bool→Bool) (ws:List W) (st:List Cell):Res W:=match ws with
 |[w]=>match(seqP st w).bind zDp with
  |some bs=>.ok (.p (.bl (f bs))) st
  |none=>.no
 |_=>.no
theorem zFA{f:List Bool→Bool}:zGK K cl (zGy f) (rAnyG K f):=by
 intro E0 ρ G st H ws vs Q Z R rw' h;unfold zGy at h;split at h
 ·obtain⟨v,rfl,r⟩:=rw'.one;split at h
  ·rename_i w _ bs eb
   cases e1:seqP st w with
   |none=>rw[e1]at eb;cases eb
   |some l =>
    rw[e1]at eb;obtain⟨a,us,rfl,h1,q⟩:=zFa R r e1;exact⟨a,us,bs,rfl,h1,zLp q eb,h.here R (RP.bl _)⟩
  ·exact h.elim
 ·exact h.elim
def zGi(ws:List W) (st:List Cell):Res W:=match ws with
 |[w]=>match seqP st w with
  |some l=>.ok (.p (.lst l)) st
  |none=>.no
 |_=>.no
def zFQ(ws:List W) (st:List Cell):Res W:=match ws with
 |[w]=>match seqP st w with
  |some l=>.ok (.r st.length) (st++[.lst (l.map .p)])
  |none=>.no
 |_=>.no
def zQV(K:PySem.W.Frag):List V→Hp→VK→Prop:=fun xs H Q=>∃p ys,xs=[.ref p]∧(SqL K H p ys∨SqT K H p ys)∧∀l,H l=none→Q (.ref l) (upd H l (.lst ys))
theorem zF7:zGK K cl zGi (zQV K):=by
 intro E0 ρ G st H ws vs Q Z R rw' h;unfold zGi at h;split at h
 ·obtain⟨v,rfl,r⟩:=rw'.one;split at h
  ·rename_i l el
   obtain⟨a,us,rfl,h1,q⟩:=zFa R r el;exact⟨a,us,rfl,h1,fun p hp=>h.newP R hp (.lst JC (q.mono (Sub.new (R.gnone hp))))⟩
  ·exact h.elim
 ·exact h.elim
theorem zMX:zGK K cl zFQ (zQV K):=by
 intro E0 ρ G st H ws vs Q Z R rw' h;unfold zFQ at h;split at h
 ·obtain⟨v,rfl,r⟩:=rw'.one;split at h
  ·rename_i l el
   obtain⟨a,us,rfl,h1,q⟩:=zFa R r el;exact⟨a,us,rfl,h1,fun p hp=>h.newC R hp (fun z=>by cases z) ⟨us,JC,.of_pures q⟩⟩
  ·exact h.elim
 ·exact h.elim
def zDW(ws:List W) (st:List Cell):Res W:=match ws with
 |[.p (.tup l)]=>.ok (.p (.tup l)) st
 |[w]=>match listOf st w with
  |some l=>.ok (.p (.tup l)) st
  |none=>.no
 |_=>.no
def rTupOf(K:PySem.W.Frag):List V→Hp→VK→Prop:=fun xs H Q=>∃p ys,xs=[.ref p]∧((SqL K H p ys∧∀l,H l=none→Q (.ref l) (upd H l (.tup ys)))∨(SqT K H p ys∧Q (.ref p) H))
theorem zE9:zGK K cl zDW (rTupOf K):=by
 intro E0 ρ G st H ws vs Q Z R rw' h;unfold zDW at h;split at h
 ·obtain⟨v,rfl,r⟩:=rw'.one;cases r with
  |tup hh q=>exact⟨_,_,rfl,.inr ⟨R.sub.sqT hh,h.here R (RP.tup hh q)⟩⟩
 ·obtain⟨v,rfl,r⟩:=rw'.one;split at h
  ·rename_i l el
   obtain⟨a,us,rfl,h1,q⟩:=zED R r el;exact⟨a,us,rfl,.inl ⟨.inl (.inl h1),fun p hp=>h.newP R hp (.tup (.inl (.inl JC)) (q.mono (Sub.new (R.gnone hp))))⟩⟩
  ·exact h.elim
 ·exact h.elim
end
def argRefs:List W→List Nat
 |[]=>[]
 | .p _::l=>argRefs l
 | .r i::l=>i::argRefs l
def argIn:Nat→List W→List W
 |_,[]=>[]
 |k,.p x::l=>.p x::argIn k l
 |k,.r _::l=>.r k::argIn (k+1) l
def callEnd(n:Nat) (refs:List Nat) (st:List Cell):Res W→Res W
 | .ok w st'=>if((st'.drop n).take refs.length).all zAx=true∧n+refs.length≤st'.length then match w with
   | .p x=>.ok (.p x) (putCells refs (st'.drop n) st)
   | .r j=>if n≤j∧j<n+refs.length then match refs[j-n]? with
     |some i=>.ok (.r i) (putCells refs (st'.drop n) st)
     |none=>.no
    else if n+refs.length≤j then match st'[j]? with
     |some c=>if zAx c=true then .ok (.r st.length) (putCells refs (st'.drop n) st++[c])else .no
     |none=>.no
    else .no
  else .no
 | .exc x st'=>if((st'.drop n).take refs.length).all zAx=true∧n+refs.length≤st'.length then .exc x (putCells refs (st'.drop n) st)else .no
 | .no=>.no
def zAM(F:FM) (ws:List W) (st:List Cell):Res W :=
 if(argRefs ws).Nodup then match getCells st (argRefs ws)with
  |some cs=>callEnd 0 (argRefs ws) st (F (argIn 0 ws) cs)
  |none=>.no
 else .no
def spF(K:PySem.W.Frag) (cl:Cls) (F:FM):Sp:=fun vs H Q E=>∃ρ0 G0 st0 ws,Rel K cl ⟨strip H,ρ0.length,G0⟩ ρ0 G0 st0 H∧RWs K cl ρ0 G0 ws vs∧Aft ⟨K,cl,⟨strip H,ρ0.length,G0⟩⟩ (RW K cl) ρ0 G0 (F ws st0) Q E
section
variable {K:PySem.W.Frag}{cl:Cls}{X:Cx}{Wx:WX}{E0:En}{ρ ρ' ρ2:List Addr}{G G':Hp}{σ:Sg}{τ:L2.St}{st st':List Cell}{H H' Hm:Hp}{D:Ends}
theorem zGo{c:Cell} (h:zAx c=true):c≠.dead:=fun e=>by subst e;cases h
theorem zEF:∀ {refs:List Nat}{cs:List Cell},getCells st refs=some cs→cs.length=refs.length
 |[],cs,e=>by rw[getCells]at e;cases e;rfl
 |k::is,cs,e=>by
  rw[getCells]at e;split at e
  ·split at e
   ·split at e
    ·rename_i ds ed
     cases e;exact congrArg Nat.succ (zEF ed)
    ·cases e
   ·cases e
  ·cases e
theorem zL4(R:Rel K cl E0 ρ G st H){refs:List Nat}{cs:List Cell} (nd:refs.Nodup) (e:getCells st refs=some cs):(rhos ρ refs).Nodup:=by
 refine V0.mpr fun i j hi hj hij q=>?_
 obtain⟨k1,r1,e1⟩:=zEk R e (Ja hi);obtain⟨k2,r2,e2⟩:=zEk R e (Ja hj);rw[q]at e1
 have:=getElem?_inj R.nd e1 e2
 subst this
 have:=getElem?_inj nd r1 r2
 omega
theorem Rel.enter(R:Rel K cl E0 ρ G st H){refs:List Nat}{cs xc:List Cell}{xs:List Addr} (nd:refs.Nodup) (hc:getCells st refs=some cs) (up:Sub H Hm) (hx:∀x∈xs,H x=none) (xnd:xs.Nodup) (xl:xs.length=xc.length)
  (hxc:∀(i:Nat) c x,xc[i]?=some c→xs[i]?=some x→CA K cl (xs++rhos ρ refs) G Hm x c):Rel K cl ⟨strip Hm,(xs++rhos ρ refs).length,G⟩ (xs++rhos ρ refs) G (xc++cs) Hm:=by
 have lr:(rhos ρ refs).length=refs.length:=Jc ..;have lc:=zEF hc
 have there:∀a,a∈rhos ρ refs→∃o,H a=some o:=fun a m=>by
  obtain⟨j,hj⟩:=JF m;obtain⟨i,_,h2⟩:=zEk R hc hj;exact R.there h2
 refine⟨by rw[Ju,Ju,xl,lr,lc],?_,fun i c a e1 e2=>?_,fun i c a e1 e2=>?_,R.sub.trans up,fun a u e _=>(zCf e).1,fun i a hi e=>?_,JH _,fun a u e=>.inl e,fun a u e=>(zCf e).2,R.gnt,fun q hq=>(R.tabs q hq).ext up⟩
 ·refine Vx.mpr ⟨xnd,zL4 R nd hc,fun a ha b hb z=>?_⟩
  subst z;obtain⟨o,q⟩:=there a hb;rw[hx a ha]at q;cases q
 ·rcases zDT e1 with⟨h1,h2⟩|⟨h1,h2⟩<;>rcases zDT e2 with⟨h3,h4⟩|⟨h3,h4⟩
  ·exact hxc i c a h2 h4
  ·omega
  ·omega
  ·rw[xl]at h4;obtain⟨k,r1,r2⟩:=zEk R hc h4;obtain⟨d,g1,g2,g3⟩:=zDr hc r1;rw[h2]at g1;cases g1;have x:=R.cell k c a g2 r2;obtain⟨o,q⟩:=R.there r2;exact CA.plain g3 (x.mono (Jh _) (Sub.refl _) ((up a o q).trans q.symm))
 ·rcases zDT e1 with⟨h1,h2⟩|⟨h1,h2⟩<;>rcases zDT e2 with⟨h3,h4⟩|⟨h3,h4⟩
  ·exact .inr (R.gnone (hx a (Ji h4)))
  ·omega
  ·omega
  ·rw[xl]at h4;obtain⟨k,r1,r2⟩:=zEk R hc h4;obtain⟨d,g1,g2,g3⟩:=zDr hc r1;rw[h2]at g1;cases g1;exact R.sep k c a g2 r2
 ·have:=(Jb.mp e).1
  have hi:(xs++rhos ρ refs).length≤i:=hi;omega
theorem zEx{ρc:List Addr}:∀ {ws:List W}{vs:List V} (k:Nat),RWs K cl ρ G ws vs→(∀(j i:Nat),(argRefs ws)[j]?=some i→∃a,ρ[i]?=some a∧ρc[k+j]?=some a)→RWs K cl ρc G (argIn k ws) vs
 |[],_,_,.nil,_=>.nil
 | .p x::ws,_,k,.cons r rs,h=>.cons (show RW K cl ρc G (.p x) _ from r) (zEx k rs h)
 | .r i::ws,_,k,.cons r rs,h=>by
  obtain⟨a,h1,h2⟩:=h 0 i rfl;obtain⟨b,h3,rfl⟩:=r;rw[h1]at h3;cases h3;refine .cons ⟨a,h2,rfl⟩ (zEx (k+1) rs fun j m e=>?_)
  obtain⟨c,h4,h5⟩:=h (j+1) m e;exact⟨c,h4,by rw[show k+1+j=k+(j+1) by omega];exact h5⟩
theorem zDG{F:FM}{ws:List W}{vs:List V}{Q:VK}{Z:ZX} (R:(bs K cl E0).Rel ρ G st H) (r:RWs K cl ρ G ws vs) (h:Aft (bs K cl E0) (bs K cl E0).RW ρ G (zAM F ws st) Q Z):spF K cl F vs H Q Z:=by
 unfold zAM at h;split at h
 case isFalse=>exact h.elim
 rename_i nd
 split at h
 case h_2=>exact h.elim
 rename_i cs hc
 have nx:∀x∈([]:List Addr),H x=none:=fun x m=>absurd m (by simp)
 have lr:(rhos ρ (argRefs ws)).length=(argRefs ws).length:=Jc ..;refine⟨[]++rhos ρ (argRefs ws),G,[]++cs,argIn 0 ws,Rel.enter R nd hc (Sub.refl H) nx (by simp) rfl (fun i c x e=>by simp at e),zEx 0 r fun j i e=>?_,?_⟩
 ·obtain⟨a,h1,h2⟩:=zGh R hc e;exact⟨a,h1,by rw[Yz];exact h2⟩
 ·have h:Aft (bs K cl E0) (bs K cl E0).RW ρ G (callEnd 0 (argRefs ws) st (F (argIn 0 ws) cs)) Q Z:=h;show Aft _ _ _ _ (F (argIn 0 ws) cs) Q Z;generalize F (argIn 0 ws) cs=res at h ⊢;cases res with
  |no=>exact h.elim
  |exc x st' =>
   intro ρ' G' H' cls d p s R' u;unfold callEnd at h;dsimp only at h
   by_cases hp:((st'.drop 0).take (argRefs ws).length).all zAx=true∧0+(argRefs ws).length≤st'.length
   case neg=>rw[Vh hp]at h;exact h.elim
   rw[JW hp]at h;exact h ρ G' H' cls d (Jh _) s (Rel.ret R nd hc (Sub.refl H) nx p s R' hp.1 (by simpa using hp.2)) u
  |ok w st' =>
   intro ρ' G' H' v p s R' u;unfold callEnd at h;dsimp only at h
   by_cases hp:((st'.drop 0).take (argRefs ws).length).all zAx=true∧0+(argRefs ws).length≤st'.length
   case neg=>rw[Vh hp]at h;exact h.elim
   rw[JW hp]at h;have R2:=Rel.ret R nd hc (Sub.refl H) nx p s R' hp.1 (by simpa using hp.2)
   split at h
   ·exact h ρ G' H' v (Jh _) s R2 u
   ·rename_i j
    obtain⟨a,ha,rfl⟩:=u;split at h
    ·rename_i hj
     split at h
     ·rename_i i ei
      obtain⟨b,h1,h2⟩:=zGh R hc ei
      have:(rhos ρ (argRefs ws))[j]?=some a:=by
       obtain⟨tl,rfl⟩:=p;rw[V5]at ha;rw[Je (by rw[lr];omega)]at ha
       exact ha
      rw[Nat.sub_zero,this]at h2;cases h2;exact h ρ G' H' (.ref a) (Jh _) s R2 ⟨a,h1,rfl⟩
     ·exact h.elim
    ·split at h
     ·rename_i hj
      split at h
      ·rename_i c ec
       split at h
       ·rename_i hpl
        have x:=R'.cell j c a ec ha;have sp:=(R'.sep j c a ec ha).resolve_left (zGo hpl);have hn:strip H a=none:=R'.new j a (by rw[V5,lr];show(argRefs ws).length≤j;omega) ha
        have R3:=Rel.adoptC (c:=c) R2 (zGo hpl) sp (fun i e=>(R.offF hn).1 i e) (R.offF hn).2 (CA.plain hpl x)
        refine h (ρ++[a]) G' H' (.ref a) (Va _ _) s R3 ⟨a,?_,rfl⟩;rw[←R.len];simp
       ·exact h.elim
      ·exact h.elim
     ·exact h.elim
def zAF(F:FM) (a:AM):EM:=fun σ st=>(a σ st).bind fun ws st1=>(zAM F ws st1).nox
theorem Aft.noxZ{B:Bs}{α β:Type}{U:List Addr→Hp→α→β→Prop}{R:Res α}{Q:β→Hp→Prop}{Z Z':ZX} (h:Aft B U ρ G R.nox Q Z):Aft B U ρ G R Q Z':=by
 cases R with
 |ok a st=>exact h
 |exc x st=>exact h.elim
 |no=>exact h.elim
section
variable {f:Addr}{fd:FuncData}{ps:List Str}{F:FM}{a:AM}{k:Nat}{x m:Str}{p pos apos:Pos}{e:Expr}{es:List Expr}
theorem zRZ(Fk:FnOk X.prog X.w X.K X.mg X.base CX0 k f fd ps (spF K cl F)) (hr:Room k X.A) (hg:Gl X x) (hm:X.mg x=some (.ref f)) (hk:PySem.W.keepIn X.K (.ref f)=true) (hb:Binds X.K fd ps [])
  (ha:SA K cl X Wx a (e::es)) (hdb:(x==("__debug__" : Str))=false:=by decide) (he:starEach (e::es) X.env=(false,eval e X.env)::starEach es X.env:=by rfl) (hpl:(backTo pos (starEach es X.env)).any (·.1)=false:=by rfl) :
  SE K cl X Wx (zAF F a) (.Call (.Name x p) (e::es) [] pos):=by
 refine⟨fun E0 ρ G σ st τ H Q R S h=>T.of (pe_call (E:=L2.E0) Fk hr hg hm hk hb .nil pass0 TA'.pa hdb he hpl) ?_⟩
 refine ha.run E0 ρ G σ st τ H _ R S (Aft.seq h fun ws st1 ρ1 G1 H1 vs e1 p1 s1 R1 u1 h1=>?_)
 rw[Vt];exact zDG R1 u1 h1.noxZ
theorem zPp(Fk:FnOk X.prog X.w X.K X.mg X.base CX0 k f fd ps (spF K cl F)) (hr:Room k X.A) (hg:Gl X x) (hm:X.mg x=some (.ref f)) (hk:PySem.W.keepIn X.K (.ref f)=true) (hb:Binds X.K fd ps [])
  (hdb:(x==("__debug__" : Str))=false:=by decide):SE K cl X Wx (zAF F mNil) (.Call (.Name x p) [] [] pos):=by
 refine⟨fun E0 ρ G σ st τ H Q R S h=>T.of (pe_call0 (E:=L2.E0) Fk hr hg hm hk hb .nil pass0 hdb) ?_⟩
 exact zDG R .nil h.noxZ
def clsOf(st:List Cell):W→Option Nat
 | .p (.obj c _)=>some c
 | .r i=>match st[i]? with
  |some (.ins c _)=>some c
  |_=>none
 |_=>none
theorem zGY{ns:List Str}{vs:List V}{m:Str} (h:m∉ns):(ns.zip vs).lookup m=none:=by
 induction ns generalizing vs with
 |nil=>rfl
 |cons n ns ih =>
  cases vs with
  |nil=>rfl
  |cons v vs =>
   rw[JY,VX]
   have:(m==n)=false:=VB.mpr fun e=>h (by rw[e];exact Jg)
   rw[this];exact ih fun z=>h (Jf _ z)
theorem zIZ{w:W}{v:V}{c:Nat}{C:Addr}{ns:List Str} (R:(bs K cl E0).Rel ρ G st H) (r:RW K cl ρ G w v) (e:clsOf st w=some c) (hc:cl[c]?=some (C,ns)):∃a dx vs,v=.ref a∧H a=some (.ins C dx (ns.zip vs)):=by
 cases w with
 |p x =>
  cases x with
  |obj c' l =>
   cases e;cases r with
   |obj h1 h2 z q =>
    rw[hc]at h1;cases h1;exact⟨_,_,_,rfl,R.sub _ _ h2⟩
  |_=>cases e
 |r i =>
  obtain⟨a,ha,rfl⟩:=r;have e:(match st[i]? with|some (.ins c _)=>some c|_=>none)=some c:=e
  split at e
  ·rename_i c' l el
   cases e;obtain⟨b,hb,⟨C',dx,ns',vs,k,h1,z,q⟩,_⟩:=R.at el;cases Jk (ha.symm.trans hb);rw[hc]at k;cases k;exact⟨a,dx,vs,rfl,h1⟩
  ·cases e
def mFld(cs:List (Nat×Nat)) (o:EM):EM:=fun σ st=>(o σ st).bind fun w st1=>match w with
 | .p (.obj c l)=>match cs.lookup c with
  |some i=>match l[i]? with
   |some x=>.ok (.p x) st1
   |none=>.no
  |none=>.no
 | .r j=>match st1[j]? with
  |some (.ins c l)=>match cs.lookup c with
   |some i=>match l[i]? with
    |some x=>.ok x st1
    |none=>.no
   |none=>.no
  |_=>.no
 |_=>.no
theorem zDk:∀ {ns:List Str}{vs:List V}{i:Nat}{m:Str}{v:V},ns.Nodup→ns[i]?=some m→vs[i]?=some v→(ns.zip vs).lookup m=some v
 |[],_,_,_,_,_,h,_=>by simp at h
 |_::_,[],_,_,_,_,_,h=>by simp at h
 |n::ns,u::vs,0,m,v,_,h1,h2=>by
  simp at h1 h2;subst h1;subst h2;simp
 |n::ns,u::vs,i+1,m,v,nd,h1,h2=>by
  have h1:ns[i]?=some m:=by simpa using h1
  have h2:vs[i]?=some v:=by simpa using h2
  rw[JY,VX]
  have:(m==n)=false:=VB.mpr fun e=>(JV.mp nd).1 (by rw[←e];exact Ji h1)
  rw[this];exact zDk (JV.mp nd).2 h1 h2
theorem lookup_mem:∀ {cs:List (Nat×Nat)}{c i:Nat},cs.lookup c=some i→(c,i)∈cs
 |[],_,_,h=>by simp at h
 |(a,b)::cs,c,i,h=>by
  rw[VX]at h;split at h
  ·rename_i e
   cases h
   have:c=a:=eq_of_beq e
   subst this;exact Jg
  ·exact Jf _ (lookup_mem h)
theorem zFI{cs:List (Nat×Nat)}{o:EM}{eo:Expr}{fn:Str} (g:GX K X) (hf:∀q∈cs,zIp K cl fn q.1 q.2) (ho:SE K cl X Wx o eo) (hb:attributeBase eo fn X.env (eval eo X.env)=eval eo X.env:=by rfl):SE K cl X Wx (mFld cs o) (.Attribute eo fn pos):=by
 obtain⟨hK,_⟩:=g;subst hK;refine⟨fun E0 ρ G σ st τ H Q R S h=>T.of (pe_fld T.pe hb) ?_⟩
 refine ho.run E0 ρ G σ st τ H _ R S (Aft.seq h fun w st1 ρ1 G1 H1 v e1 p1 s1 R1 u1 h1=>?_)
 split at h1
 ·rename_i c l
  split at h1
  ·rename_i i ei
   split at h1
   ·rename_i y ey
    obtain⟨C,ns,k1,k2,k3,k4,k5⟩:=(hf (c,i) (lookup_mem ei)).ex;cases u1 with
    |obj g1 g2 z q =>
     rw[k1]at g1;cases g1;obtain⟨u,eu,ru⟩:=q.get ey;exact⟨_,C,_,_,u,rfl,R1.sub _ _ g2,k4,k5,zDk k2 k3 eu,h1.here R1 ru⟩
   ·exact h1.elim
  ·exact h1.elim
 ·rename_i j
  obtain⟨b,hb',rfl⟩:=u1;split at h1
  ·rename_i c l el
   split at h1
   ·rename_i i ei
    split at h1
    ·rename_i y ey
     obtain⟨C,ns,k1,k2,k3,k4,k5⟩:=(hf (c,i) (lookup_mem ei)).ex;obtain⟨b2,hb2,⟨C',dx,ns',vs,g1,g2,z,q⟩,_⟩:=R1.at el;cases Jk (hb'.symm.trans hb2);rw[k1]at g1;cases g1;obtain⟨u,eu,ru⟩:=q.get ey;exact⟨_,C,_,_,u,rfl,g2,k4,k5,zDk k2 k3 eu,h1.here R1 ru⟩
    ·exact h1.elim
   ·exact h1.elim
  ·exact h1.elim
 ·exact h1.elim
end
end
def runF(np N:Nat) (m:SMm):FM:=fun ws st=>if ws.length=np then match m (ws.map some++List.replicate (N-np) none) st with
 | .ok .nx _ st1=>.ok (.p .non) st1
 | .ok (.rt w) _ st1=>.ok w st1
 |_=>.no
 else .no
abbrev cxD(P:Program) (w:World) (K:PySem.W.Frag) (mg:Str→Option Value) (base:Heap) (N:List Str) (qual:Str) (scope:Scope) (f:Addr) (cd:Value) (A:Around) (outer:List Env) (s:Shared) (H:Hp) (E:XK):Cx :=
 (cxOf CX0 P w K mg base N qual scope f cd A outer s H E).nox
section
variable {K:PySem.W.Frag}{cl:Cls}{X:Cx}{Wx:WX}{E0:En}{ρ ρ':List Addr}{G G':Hp}{σ:Sg}{τ:L2.St}{st:List Cell}{H:Hp}{D:Ends}
theorem zPH{P:Program}{w:World}{mg:Str→Option Value}{base:Heap}{N ps:List Str}{qual:Str}{scope:Scope}{f:Addr}{cd:Value}{A:Around}{outer:List Env}{s:Shared}{H:Hp}{E:XK}{k:Nat}
  (S:FnScope N ps scope) (hr:Room k (A.deeper (envOfC qual scope s.heap.objs.size f cd))):GX K (cxD P w K mg base N qual scope f cd A outer s H E) :=
 ⟨rfl,rfl,S.nd,by have:=hr.un;show(A.deeper _).units+65<cLine;omega,hr.hd⟩
theorem fn_end{P:Program}{w:World}{mg:Str→Option Value}{base:Heap}{N ps:List Str}{qual:Str}{body:List Stmt}{scope:Scope}{f:Addr}{cd:Value}{A:Around}{outer:List Env}{s:Shared}{H:Hp}{E E':XK}{m:SMm}{vs:List V}{Q:VK} (S:FnScope N ps scope)
  (hb:SSs K cl (cxD P w K mg base N qual scope f cd A outer s H E) WF m body) (h:spF K cl (runF ps.length N.length m) vs H Q E'):TSs' (cxD P w K mg base N qual scope f cd A outer s H E) body { nx:=fun _ H'=>Q .non H',rt:=Q } (L2.start N vs) H:=by
 obtain⟨ρ0,G0,st0,ws,R,r,a⟩:=h;unfold runF at a;split at a
 case isFalse=>exact a.elim
 rename_i hl
 have lv:vs.length=ps.length:=by rw[←r.length];exact hl
 refine hb.run ⟨strip H,ρ0.length,G0⟩ ρ0 G0 (ws.map some++List.replicate (N.length-ps.length) none) st0 (L2.start N vs) H _ R ?_ ?_
 ·unfold L2.start;rw[lv];refine⟨by rw[Ju,Ju,Jc,Jc,hl,lv,Vm,Vm],fun i w' e=>?_⟩
  rcases zDT e with⟨h1,h2⟩|⟨h1,h2⟩
  ·rw[Jc]at h1;rw[Jd]at h2;cases q:ws[i]? with
   |none=>rw[q]at h2;cases h2
   |some u =>
    rw[q]at h2;have h2:some (some u)=some (some w'):=h2;cases h2;obtain⟨v,ev,rv⟩:=r.get q;refine⟨v,?_,rv⟩;rw[Je (by rw[Jc,lv,←hl];exact h1),Jd,ev];rfl
  ·rw[VO]at h2;split at h2<;>cases h2
 ·generalize m (ws.map some++List.replicate (N.length-ps.length) none) st0=res at a ⊢;cases res with
  |no=>exact a.elim
  |exc x σ st=>exact a.elim
  |ok fl σ st =>
   cases fl with
   |nx=>exact fun ρ' G' H' τ' p s R' S'=>a ρ' G' H' .non p s R' RP.non
   |rt u=>exact fun ρ' G' H' τ' p s R' S' v rv=>a ρ' G' H' v p s R' rv
   |bk=>exact a.elim
   |ct=>exact a.elim
theorem fn_ok{P:Program}{w:World}{mg:Str→Option Value}{base:Heap}{N ps:List Str}{x qual:Str}{params:Arguments}{body:List Stmt}{scope:Scope}{dvs:List V}{kws:List (Str×V)}{f:Addr}{fd:FuncData}{k:Nat}{m:SMm}
  (F:FunD K x qual params body scope dvs kws f fd) (S:FnScope N ps scope) (hb:∀(cd:Value) (A:Around) (outer:List Env) (s:Shared) (H:Hp) (E:XK),Room k (A.deeper (envOfC qual scope s.heap.objs.size f cd))→SSs K cl (cxD P w K mg base N qual scope f cd A outer s H E) WF m body) :
  FnOk P w K mg base CX0 (k+1) f fd ps (spF K cl (runF ps.length N.length m)):=by
 refine F.ok S (fun vs H Q E h=>?_) (fun cd A outer s H vs Q E hr h=>⟨TSs' (cxD P w K mg base N qual scope f cd A outer s H E) body,PSs.nox TSs'.pss,fn_end S (hb cd A outer s H E hr) h⟩)
 ·obtain⟨ρ0,G0,st0,ws,R,r,a⟩:=h;unfold runF at a;split at a
  ·rename_i hl;rw[←r.length];exact hl
  ·exact a.elim
def sAug(i:Nat) (f:W→W→List Cell→Res W) (m:EM):SMm:=fun σ st=>match σ[i]? with
 |some (some x)=>(m σ st).to σ fun y st1=>match f x y st1 with
  | .ok z st2=>.ok .nx (σ.set i (some z)) st2
  |_=>.no
 |_=>.no
theorem zQo{i:Nat}{x:Str}{op:Operator}{r:R2}{f:W→W→List Cell→Res W}{m:EM}{e:Expr}{pos pos':Pos} (g:GX K X) (hi:X.N[i]?=some x) (hx:Loc X.env.scope x) (ho:OpR X (inplaceOp op) r) (hf:VOp K cl f r) (h:SE K cl X Wx m e)
  (hfn:X.fn x=true∨X.env.scope.names.lookup x=some .local):SS K cl X Wx (sAug i f m) (.AugAssign (.Name x pos') op e pos):=by
 refine⟨fun E0 ρ G σ st τ H D R S q=>TS'.of (ps_aug (ti:=r) g.hN hi hx T.pe ho hfn) ?_⟩
 unfold sAug at q;split at q
 ·rename_i w ew
  obtain⟨v,ev,rv⟩:=S.2 i w ew;refine⟨v,ev,?_⟩;refine h.run E0 ρ G σ st τ H _ R S (AftS.seq S q fun y st1 ρ1 G1 H1 u e1 p1 s1 R1 u1 h1=>?_)
  refine hf E0 ρ1 G1 st1 H1 w y v u _ (fun _ _ _=>False) R1 (RW.mono p1 s1 rv) u1 ?_
  generalize f w y st1=res at h1 ⊢;cases res with
  |no=>exact h1.elim
  |exc x st=>exact h1.elim
  |ok z st2=>exact fun ρ2 G2 H2 b p2 s2 R2 r2=>h1 ρ2 G2 H2 _ p2 s2 R2 ((S.mono (p1.trans p2) (s1.trans s2)).set r2 i)
 ·exact q.elim
def zIO(x y:W) (st:List Cell):Res W:=match x,y with
 | .p (.int i),.p (.int j)=>.ok (.p (.int (i+j))) st
 | .p (.str i),.p (.str j)=>if i.length+j.length≤LIM then .ok (.p (.str (i++j))) st else .no
 |_,_=>.no
def zQd:R2:=fun x y H Q=>rI0 (fun i j=>.int (i+j)) x y H Q∨∃i j,x=.str i∧y=.str j∧i.length+j.length≤sizeLine∧Q (.str (i++j)) H
theorem zKw:OpR X (inplaceOp .Add) zQd:=iop_add.or iop_add_str
theorem zKm:VOp K cl zIO zQd:=by
 intro E0 ρ G st H x y v u Q Z R rx ry h;unfold zIO at h;split at h
 ·cases rx;cases ry;exact .inl ⟨_,_,rfl,rfl,h.here R (RP.int _)⟩
 ·cases rx;cases ry;split at h
  ·rename_i hl
   exact .inr ⟨_,_,rfl,rfl,zEK hl,h.here R (RP.str _)⟩
  ·exact h.elim
 ·exact h.elim
def tyW(st:List Cell):W→Option String
 | .p (.str _)=>some "str"
 | .p (.lst _)=>some "list"
 | .r i=>match st[i]? with
  |some (.lst _)=>some "list"
  |some (.dk _ _)=>some "dict"
  |_=>none
 | .p (.dk _ _)=>some "dict"
 |_=>none
theorem tyW_ok{T:String}{w:W}{v:V} (R:(bs K cl E0).Rel ρ G st H) (r:RW K cl ρ G w v) (e:tyW st w=some T):tyV K T v H:=by
 cases w with
 |p x =>
  cases x with
  |str z=>cases e;cases r;rfl
  |lst l =>
   cases e;cases r with
   |lst h q=>exact .inl ⟨rfl,_,.inl (.inl (R.sub _ _ h))⟩
  |dk ks l =>
   cases e;cases r with
   |dk h z q=>exact .inr (.inr (.inl ⟨rfl,.inl ⟨_,R.sub _ _ h⟩⟩))
  |_=>cases e
 |r i =>
  obtain⟨a,ha,rfl⟩:=r;have e:(match st[i]? with|some (.lst _)=>some "list" | some (.dk _ _)=>some "dict" | _=>none)=some T:=e
  split at e
  ·rename_i l el
   cases e;obtain⟨b,hb,⟨vs,h1,h2⟩,_⟩:=R.at el;cases Jk (ha.symm.trans hb);exact .inl ⟨rfl,vs,.inl (.inl h1)⟩
  ·rename_i ks l el
   cases e;obtain⟨b,hb,⟨vs,h1,z,h2⟩,_⟩:=R.at el;cases Jk (ha.symm.trans hb);exact .inr (.inr (.inl ⟨rfl,.inl ⟨_,h1⟩⟩))
  ·cases e
def VMt(K:PySem.W.Frag) (cl:Cls) (f:W→List W→List Cell→Res W) (r:V→List V→Hp→VK→Prop):Prop :=
 ∀E0 ρ G st H w v ws vs Q Z,(bs K cl E0).Rel ρ G st H→RW K cl ρ G w v→RWs K cl ρ G ws vs→Aft (bs K cl E0) (bs K cl E0).RW ρ G (f w ws st) Q Z→r v vs H Q
def mBm(T:String) (f:W→List W→List Cell→Res W) (o:EM) (a:AM):EM:=fun σ st=>(o σ st).bind fun w st1=>if tyW st1 w=some T then(a σ st1).bind fun ws st2=>f w ws st2 else .no
section
variable {Ty id:String}{name:Str}{r:V→List V→Hp→VK→Prop}{f:W→List W→List Cell→Res W}{o:EM}{a:AM}{eo e:Expr}{es:List Expr}{apos cpos:Pos}
theorem zDC(g:GX K X) (pa:PlainAttrs Ty) (slot:Slot Ty name id) (hty:typeOf (.builtin id)=pure (.type "method_descriptor")) (hm:MtR X id r) (hf:VMt K cl f r) (ho:SE K cl X Wx o eo) (ha:SA K cl X Wx a (e::es))
  (hbase:attributeBase eo name X.env (eval eo X.env)=eval eo X.env:=by rfl)
  (hfew:((backTo cpos (starEach (e::es) X.env)).all (fun x => !x.1)&&(backToKw cpos (keywordEach [] X.env)).all (fun x=>x.1.isSome)
   && decide ((e::es).length+([]:List Keyword).length+(if([]:List Keyword).isEmpty then 0 else 1)<30))=true:=by rfl)
  (hline:(apos.endLine==cpos.line)=true:=by rfl) (hs:starEach (e::es) X.env=(false,eval e X.env)::starEach es X.env:=by rfl) (hplain:(backTo cpos (starEach es X.env)).any (·.1)=false:=by rfl) :
  SE K cl X Wx (mBm Ty f o a) (.Call (.Attribute eo name apos) (e::es) [] cpos):=by
 obtain⟨hK,_⟩:=g;subst hK;refine⟨fun E0 ρ G σ st τ H Q R S h=>T.of (pe_bm pa slot hty hm T.pe TA'.pa hbase hfew hline hs hplain) ?_⟩
 refine ho.run E0 ρ G σ st τ H _ R S (Aft.seq h fun w st1 ρ1 G1 H1 v e1 p1 s1 R1 u1 h1=>?_)
 split at h1
 case isFalse=>exact h1.elim
 rename_i et
 refine⟨tyW_ok R1 u1 et,?_⟩;refine ha.run E0 ρ1 G1 σ st1 τ H1 _ R1 (S.mono p1 s1) (Aft.seq h1 fun ws st2 ρ2 G2 H2 us e2 p2 s2 R2 u2 h2=>?_)
 exact hf E0 ρ2 G2 st2 H2 w v ws us _ _ R2 (RW.mono p2 s2 u1) u2 h2
end
theorem zKb{i:Nat}{l:List W}{v:V} (R:(bs K cl E0).Rel ρ G st H) (r:RW K cl ρ G (.r i) v) (e:st[i]?=some (.lst l)):∃a vs,v=.ref a∧ρ[i]?=some a∧H a=some (.lst vs)∧RWs K cl ρ G l vs:=by
 obtain⟨a,ha,rfl⟩:=r;obtain⟨b,hb,⟨vs,h1,h2⟩,_⟩:=R.at e;cases Jk (ha.symm.trans hb);exact⟨a,vs,rfl,ha,h1,h2⟩
theorem Aft.wrote{i:Nat}{l l2:List W}{a:Addr}{vs2:List V}{Q:VK}{Z:ZX} (h:Aft (bs K cl E0) (bs K cl E0).RW ρ G (.ok (.p .non) (st.set i (.lst l2))) Q Z) (R:(bs K cl E0).Rel ρ G st H) (e:st[i]?=some (.lst l)) (ha:ρ[i]?=some a) (r:RWs K cl ρ G l2 vs2):Q .non (upd H a (.lst vs2)) :=
 h.here (Rel.write (o:=.lst vs2) R e (fun z=>by cases z) (fun z=>by cases z) ha ⟨vs2,JC,r⟩) RP.non
def zAs(w:W) (ws:List W) (st:List Cell):Res W:=match w,ws with
 | .r i,[x]=>match st[i]? with
  |some (.lst l)=>if l.length<LIM then .ok (.p .non) (st.set i (.lst (l++[x])))else .no
  |_=>.no
 |_,_=>.no
theorem zA5:VMt K cl zAs rAppend:=by
 intro E0 ρ G st H w v ws vs Q Z R r rs h;unfold zAs at h;split at h
 ·rename_i i x
  obtain⟨u,rfl,ru⟩:=rs.one;split at h
  ·rename_i l el
   obtain⟨a,us,rfl,ha,h1,h2⟩:=zKb R r el;split at h
   ·rename_i hl
    exact⟨a,us,u,rfl,rfl,h1,by rw[←h2.length];exact zQY hl,h.wrote R el ha (h2.append (.cons ru .nil))⟩
   ·exact h.elim
  ·exact h.elim
 ·exact h.elim
def zFV(w:W) (ws:List W) (st:List Cell):Res W:=match w,ws with
 | .r i,[.p (.int k),x]=>match st[i]? with
  |some (.lst l)=>if l.length<LIM∧0≤k∧k≤LIM then .ok (.p .non) (st.set i (.lst (l.take k.toNat++[x]++l.drop k.toNat)))else .no
  |_=>.no
 |_,_=>.no
def zRU:V→List V→Hp→VK→Prop:=fun x vs H Q=>∃(l:Addr) (xs:List V) (i:Int) (y:V),x=.ref l∧vs=[.int i,y]∧H l=some (.lst xs)∧xs.length<sizeLine∧0≤i∧i<2^63 ∧
  Q .non (upd H l (.lst (xs.take i.toNat++[y]++xs.drop i.toNat)))
theorem zHe:VMt K cl zFV zRU:=by
 intro E0 ρ G st H w v ws vs Q Z R r rs h;unfold zFV at h;split at h
 ·rename_i i k x
  obtain⟨u0,u,rfl,ru0,ru⟩:=rs.two;cases ru0;split at h
  ·rename_i l el
   obtain⟨a,us,rfl,ha,h1,h2⟩:=zKb R r el;split at h
   ·rename_i hl
    have hlim:((LIM:Nat):Int)=1000000:=rfl;exact⟨a,us,k,u,rfl,rfl,h1,by rw[←h2.length];exact zQY hl.1,hl.2.1,∅,h.wrote R el ha (((h2.take _).append (.cons ru .nil)).append (h2.drop _))⟩
   ·exact h.elim
  ·exact h.elim
 ·exact h.elim
def zFG(o ix m:EM):SMm:=fun σ st=>(m σ st).to σ fun x st1=>(o σ st1).to σ fun w st2=>(ix σ st2).to σ fun k st3=>match w,k with
 | .r i,.p (.int n)=>match st3[i]? with
  |some (.lst l)=>match L2.ixN l.length n with
   |some j=>.ok .nx σ (st3.set i (.lst (l.set j x)))
   |none=>.no
  |_=>.no
 |_,_=>.no
theorem zER{o ix m:EM}{eo ei e:Expr}{pos pos':Pos} (g:GX K X) (ho:SE K cl X Wx o eo) (hi:SE K cl X Wx ix ei) (h:SE K cl X Wx m e)
  (ha:∀v,PySem.assign (.Subscript eo ei pos') X.env v=(do
   let ov ←holding [v] (eval eo X.env)
   let iv ←holding [v,ov] (eval ei X.env)
   standAt pos'
   holding [v,ov,iv] (setItem ov iv v)
   release [v,ov,iv] []):=by intro _;rfl)
  (hs:swapsWithSole [.Subscript eo ei pos'] e pos.line X.env=pure false:=by rfl) (hw:swappedStores [.Subscript eo ei pos'] e X.env=pure none:=by rfl) (h1:(assignEach [.Subscript eo ei pos'] X.env).map (·.2)=[PySem.assign (.Subscript eo ei pos') X.env]:=by rfl) :
  SS K cl X Wx (zFG o ix m) (.Assign [.Subscript eo ei pos'] e pos):=by
 refine⟨fun E0 ρ G σ st τ H D R S q=>TS'.of (ps_asg T.pe (pg_sub T.pe T.pe set_list ha) hs hw h1) ?_⟩
 refine h.run E0 ρ G σ st τ H _ R S (AftS.seq S q fun x st1 ρ1 G1 H1 v e1 p1 s1 R1 u1 h1=>?_)
 have S1:=RS.mono p1 s1 S;refine ho.run E0 ρ1 G1 σ st1 τ H1 _ R1 S1 (AftS.seq S1 h1 fun w st2 ρ2 G2 H2 ov e2 p2 s2 R2 u2 h2=>?_)
 have S2:=RS.mono p2 s2 S1;refine hi.run E0 ρ2 G2 σ st2 τ H2 _ R2 S2 (AftS.seq S2 h2 fun k st3 ρ3 G3 H3 iv e3 p3 s3 R3 u3 h3=>?_)
 split at h3
 ·rename_i i n
  split at h3
  ·rename_i l el
   split at h3
   ·rename_i j ej
    obtain⟨a,us,rfl,ha,g1,g2⟩:=zKb R3 (RW.mono p3 s3 u2) el;cases u3;refine⟨a,us,n,j,rfl,rfl,g1,by rw[←g2.length];exact ej,?_⟩
    exact AftS.nx h3 (Rel.write (o:=.lst (us.set j v)) R3 el (fun z=>by cases z) (fun z=>by cases z) ha ⟨_,JC,RWs.set (RW.mono (p2.trans p3) (s2.trans s3) u1) j g2⟩) (RS.mono p3 s3 S2)
   ·exact h3.elim
  ·exact h3.elim
 ·exact h3.elim
theorem zLw:∀ {ns:List Str}{vs:List V}{i:Nat}{fn:Str}{v:V},ns.Nodup→ns[i]?=some fn→i≤vs.length→vs.length≤ns.length→putF fn v (ns.zip vs)=ns.zip (if i<vs.length then vs.set i v else vs++[v])
 |[],_,_,_,_,_,h,_,_=>by simp at h
 |n::ns,[],i,fn,v,nd,h,hi,_=>by
  have hi:i=0:=by simpa using hi
  subst hi;simp at h;subst h;simp[putF]
 |n::ns,u::vs,0,fn,v,nd,h,hi,hl=>by
  simp at h;subst h;simp[putF]
 |n::ns,u::vs,i+1,fn,v,nd,h,hi,hl=>by
  have h:ns[i]?=some fn:=by simpa using h
  have ne:n≠fn:=fun e=>(JV.mp nd).1 (by rw[e];exact Ji h)
  have ih:=zLw (v:=v) (JV.mp nd).2 h (by simpa using hi) (by simpa using hl)
  rw[JY];unfold putF;rw[Vh ne,ih]
  by_cases hc:i<vs.length
  ·rw[JW hc,JW (by simpa using hc)];rfl
  ·rw[Vh hc,Vh (by simpa using hc)];rfl
def zHM(cs:List (Nat×Nat)) (o m:EM):SMm:=fun σ st=>(m σ st).to σ fun x st1=>(o σ st1).to σ fun w st2=>match w with
 | .r j=>match st2[j]? with
  |some (.ins c l)=>match cs.lookup c with
   |some i=>if i≤l.length then .ok .nx σ (st2.set j (.ins c (if i<l.length then l.set i x else l++[x])))else .no
   |none=>.no
  |_=>.no
 |_=>.no
theorem zIn{cs:List (Nat×Nat)}{o m:EM}{eo e:Expr}{fn:Str}{pos pos':Pos} (g:GX K X) (hf:∀q∈cs,zIp K cl fn q.1 q.2) (hsm:∀(c:Nat) (C:Addr) (ns:List Str),cl[c]?=some (C,ns)→ns.length<1000) (ho:SE K cl X Wx o eo) (h:SE K cl X Wx m e) (hs:swapsWith e (some (.Attribute eo fn pos')) pos.line X.env=pure false) :
  SS K cl X Wx (zHM cs o m) (.Assign [.Attribute eo fn pos'] e pos):=by
 obtain⟨hK,_⟩:=g;subst hK;refine⟨fun E0 ρ G σ st τ H D R S q=>TS'.of (ps_fld T.pe T.pe hs) ?_⟩
 refine h.run E0 ρ G σ st τ H _ R S (AftS.seq S q fun x st1 ρ1 G1 H1 v e1 p1 s1 R1 u1 h1=>?_)
 have S1:=RS.mono p1 s1 S;refine ho.run E0 ρ1 G1 σ st1 τ H1 _ R1 S1 (AftS.seq S1 h1 fun w st2 ρ2 G2 H2 ov e2 p2 s2 R2 u2 h2=>?_)
 split at h2
 ·rename_i j
  obtain⟨b,hb,rfl⟩:=u2;split at h2
  ·rename_i c l el
   split at h2
   ·rename_i i ei
    split at h2
    ·rename_i hi
     obtain⟨C,ns,k1,k2,k3,k4,k5⟩:=(hf (c,i) (lookup_mem ei)).ex;obtain⟨b2,hb2,⟨C',dx,ns',vs,g1,g2,z,q2⟩,_⟩:=R2.at el;cases Jk (hb.symm.trans hb2);rw[k1]at g1;cases g1;have il:i<ns.length:=(Jb.mp k3).1;have hsz:=hsm c C ns k1;refine⟨b,C,dx,_,rfl,g2,k4,k5,by rw[Yg];omega,?_⟩
     rw[zLw k2 k3 (by rw[←q2.length];exact hi) z]
     have ll:=q2.length;refine AftS.nx h2 (Rel.write (o:=.ins C dx (ns.zip (if i<vs.length then vs.set i v else vs++[v]))) R2 el (fun z=>by cases z) (fun z=>by cases z) hb ⟨C,dx,ns,_,k1,JC,?_,?_⟩) (RS.mono p2 s2 S1)
     ·split
      ·rw[J5];exact z
      ·rw[Ju,List.length_singleton];omega
     ·rw[←ll];split
      ·exact RWs.set (RW.mono p2 s2 u1) i q2
      ·exact q2.append (.cons (RW.mono p2 s2 u1) .nil)
    ·exact h2.elim
   ·exact h2.elim
  ·exact h2.elim
 ·exact h2.elim
end
section
variable {K:PySem.W.Frag}{cl:Cls}{X:Cx}{Wx:WX}{E0:En}{ρ ρ':List Addr}{G G':Hp}{σ:Sg}{τ:L2.St}{st:List Cell}{H:Hp}{D:Ends}
def zEC(st:List Cell):W→Option String
 | .p .non=>some "NoneType"
 | .p (.bl _)=>some "bool"
 | .p (.int _)=>some "int"
 | .p (.str _)=>some "str"
 | .p (.tup _)=>some "tuple"
 | .p (.lst _)=>some "list"
 | .p (.dk _ _)=>some "dict"
 | .r i=>match st[i]? with
  |some (.lst _)=>some "list"
  |some (.dk _ _)=>some "dict"
  |_=>none
 |_=>none
def zGM:List String:=["NoneType", "bool", "int", "str", "tuple", "list", "dict"]
def zHW(t T:String):Bool:=decide (t=T)||(decide (t = "bool")&&decide (T = "int"))
theorem kit_ok(K:PySem.W.Frag){t T:String} (ht:t∈zGM) (hT:T∈zGM):PySem.W.kitOne K (.type t) (.type T)=some (zHW t T):=by
 simp only[zGM,Jo,VM,bC]at ht hT;rcases ht with rfl|rfl|rfl|rfl|rfl|rfl|rfl<;>rcases hT with rfl|rfl|rfl|rfl|rfl|rfl|rfl<;>kernel_rfl
theorem zRc{a:Addr}{vs:List V} (h:SqT K H a vs):TyX K H (.ref a) (.type "tuple"):=by
 rcases h with(h|⟨o,h⟩)|⟨o,its,n,h1,h2,_⟩
 ·exact .base (.tup h)
 ·exact .fTuple h
 ·exact .kTuple h1 h2
theorem zNE{w:W}{v:V}{t:String} (R:(bs K cl E0).Rel ρ G st H) (r:RW K cl ρ G w v) (e:zEC st w=some t):TyX K H v (.type t)∧t∈zGM:=by
 cases w with
 |p x =>
  cases r with
  |non=>cases e;exact⟨.base .non,!0⟩
  |bl b=>cases e;exact⟨.base (.bl b),!0⟩
  |int i=>cases e;exact⟨.base (.int i),!0⟩
  |str z=>cases e;exact⟨.base (.str z),!0⟩
  |tup h q=>cases e;exact⟨zRc (R.sub.sqT h),!0⟩
  |lst h q=>cases e;exact⟨.base (.lst (R.sub _ _ h)),!0⟩
  |dk h z q=>cases e;exact⟨.base (.dK (R.sub _ _ h)),!0⟩
  |scr h=>cases e
  |obj c h z q=>cases e
  |exn c x h d z q=>cases e
  |lam _ _ _ _ _=>cases e
  |cls _=>cases e
  |fd _ _ _=>cases e
  |fn _ _ _ _ _ _ _=>cases e
 |r i =>
  obtain⟨a,ha,rfl⟩:=r;have e:(match st[i]? with|some (.lst _)=>some "list" | some (.dk _ _)=>some "dict" | _=>none)=some t:=e
  split at e
  ·rename_i l el
   cases e;obtain⟨b,hb,⟨vs,h1,h2⟩,_⟩:=R.at el;cases Jk (ha.symm.trans hb);exact⟨.base (.lst h1),!0⟩
  ·rename_i ks l el
   cases e;obtain⟨b,hb,⟨vs,h1,z,h2⟩,_⟩:=R.at el;cases Jk (ha.symm.trans hb);exact⟨.base (.dK h1),!0⟩
  ·cases e
def mIsi(T:String) (a:EM):EM:=fun σ st=>(a σ st).bind fun w st1=>match zEC st1 w with
 |some t=>.ok (.p (.bl (zHW t T))) st1
 |none=>.no
theorem zBp{Ty:String}{x:Str}{a:EM}{e:Expr}{p q pos:Pos} (g:GX K X) (hT:Ty∈zGM) (hg:Gl X "isinstance") (hm:X.mg "isinstance" = none) (hgx:Gl X x) (hmx:X.mg x=none) (hv:bootBuiltins x=some (.type Ty)) (hn:x ≠ "__name__") (hdb:(x==("__debug__" : Str))=false)
  (ha:SE K cl X Wx a e) (hs:starEach [e,.Name x q] X.env=(false,eval e X.env)::starEach [.Name x q] X.env:=by rfl) (hs2:starEach [.Name x q] X.env=(false,eval (.Name x q) X.env)::starEach [] X.env:=by rfl) (hpl:(backTo pos (starEach [.Name x q] X.env)).any (·.1)=false:=by rfl) :
  SE K cl X Wx (mIsi Ty a) (.Call (.Name "isinstance" p) [e,.Name x q] [] pos):=by
 obtain⟨hK,_⟩:=g;subst hK;refine⟨fun E0 ρ G σ st τ H Q R S h=>T.of (pe_callB call_isi hg hm ⋯ (jp T.pe (jp (pe_bltn (v:=.ty Ty) hgx hmx hv rfl hn hdb) pa_nil hs2) hs) ⋯ ⋯ hs hpl) ?_⟩
 refine ha.run E0 ρ G σ st τ H _ R S (Aft.seq h fun w st1 ρ1 G1 H1 v e1 p1 s1 R1 u1 h1=>?_)
 split at h1
 ·rename_i t et
  obtain⟨t1,t2⟩:=zNE R1 u1 et;exact⟨v,.ty Ty,_,_,zHW t Ty,rfl,.ty Ty,t1,kit_ok _ t2 hT,h1.here R1 (RP.bl _)⟩
 ·exact h1.elim
end
def ZK.sure(K:PySem.W.Frag) (H:Hp) (i:Nat) (v:V):ZK→Prop
 | .L a=>∀xs,SqL K H a xs→xs[i]?=some v
 | .T a=>∀xs,SqT K H a xs→xs[i]?=some v
 | .S x=>∃c,x.cps[i]?=some c∧v=.str ⟨#[c]⟩
def ZK.itr(t:Tok) (h:Heap) (it:Addr) (i:Nat):ZK→Prop
 | .L a=>h.IsListIter it a i
 | .T a=>h.IsTupleIter it a i
 | .S x=>h.IsStrIter it (strIterType x) x t i
def ZK.off(it:Addr):ZK→Prop
 | .L a=>a≠it
 | .T a=>a≠it
 | .S _=>True
def ItzZ(K:PySem.W.Frag) (k1 k2:ZK):It :=
 ⟨fun i H=>∃n1 n2,k1.len K H n1∧k2.len K H n2∧i<n1∧i<n2,
  fun i H v H'=>∃T x y,v=.ref T∧H T=none∧H'=upd H T (.tup [x,y])∧k1.sure K H i x∧k2.sure K H i y,
  fun i H=>∃n1 n2,k1.len K H n1∧k2.len K H n2∧i≤n1∧i≤n2∧(i=n1∨i=n2)⟩
section
variable {X:Cx}{pins:List (Addr×Obj)}{τ:L2.St}{H:Hp}{s:Shared}
theorem ZK.itr_at{kd:ZK}{t:Tok}{h h':Heap}{it:Addr}{i:Nat} (g:kd.itr t h it i) (k:∀o,h.get? it=some o→h'.get? it=some o):kd.itr t h' it i:=by
 cases kd with
 |L a=>exact Heap.IsListIter.at g k
 |T a=>exact Heap.IsTupleIter.at g k
 |S x=>obtain⟨o,ho,r⟩:=g;exact⟨o,k o ho,r⟩
theorem ZK.itr_rec{kd:ZK}{t:Tok}{h:Heap}{it:Addr}{i:Nat} (g:kd.itr t h it i):∃o,h.get? it=some o∧∀v,o.data≠.cell v:=by
 cases kd with
 |L a=>obtain⟨o,ho,_,hd⟩:=g;exact⟨o,ho,fun v e=>by rw[hd]at e;cases e⟩
 |T a=>obtain⟨o,ho,_,hd⟩:=g;exact⟨o,ho,fun v e=>by rw[hd]at e;cases e⟩
 |S x=>obtain⟨o,ho,_,hd⟩:=g;exact⟨o,ho,fun v e=>by rw[hd]at e;cases e⟩
theorem ZK.draws{kd:ZK}{t:Tok}{it:Addr}{n i:Nat}{A:Around} (hh:A.handled=none) (I:Inv X pins τ H s) (hl:kd.len X.K H n) (ho:kd.off it) (hi:kd.itr t s.heap it i) :
  ∃(fp:List Addr) (P:Nat→Value→Prop) (St:Nat→Heap→Prop),Draws X.prog X.w A it fp n P St∧St i s.heap∧it∈fp∧(∀b∈fp,b<s.heap.objs.size)∧(∀b∈fp,b≠it→kd.val=.ref b)∧(∀j h,St j h→kd.itr t h it j)∧∀u,i<n→P i u→∃v,RelV v u∧kd.sure X.K H i v:=by
 cases kd with
 |L a =>
  obtain⟨xs,hs,rfl⟩:=hl;obtain⟨its,rv,p,_⟩:=I.list hs;have sz:its.toArray.size=xs.length:=by rw[V4];exact rv.length.symm
  obtain⟨oi,hoi,_⟩:=id hi;obtain⟨oa,hoa,_⟩:=id p.isList;have D:=Draws.list (prog:=X.prog) (w:=X.w) hh it a ho its.toArray;rw[sz]at D;refine⟨_,_,_,D,⟨hi,p.isList⟩,by simp,fun b hb=>?_,fun b hb hne=>?_,fun j h st=>st.1,fun u hlt hu=>?_⟩
  ·rcases Jo.mp hb with rfl|hb
   ·exact JP hoi
   ·rw[JS.mp hb];exact JP hoa
  ·rcases Jo.mp hb with e|hb
   ·exact absurd e hne
   ·rw[JS.mp hb];rfl
  ·have hu':its[i]?=some u:=by simpa using hu
   obtain⟨v,hv⟩:∃v,xs[i]?=some v:=⟨xs[i],Ja hlt⟩;obtain⟨u2,e2,r2⟩:=rv.get hv;rw[hu']at e2;cases e2;exact⟨v,r2,fun ys hy=>by rw[I.list_inj hy hs];exact hv⟩
 |T a =>
  obtain⟨xs,hs,rfl⟩:=hl;obtain⟨its,rv,p,_⟩:=I.tuple hs;have p':s.heap.IsTuple a its.toArray:=p;have sz:its.toArray.size=xs.length:=by rw[V4];exact rv.length.symm
  obtain⟨oi,hoi,_⟩:=id hi;obtain⟨oa,hoa,_⟩:=id p';have D:=Draws.tuple (prog:=X.prog) (w:=X.w) hh it a ho its.toArray;rw[sz]at D;refine⟨_,_,_,D,⟨hi,p'⟩,by simp,fun b hb=>?_,fun b hb hne=>?_,fun j h st=>st.1,fun u hlt hu=>?_⟩
  ·rcases Jo.mp hb with rfl|hb
   ·exact JP hoi
   ·rw[JS.mp hb];exact JP hoa
  ·rcases Jo.mp hb with e|hb
   ·exact absurd e hne
   ·rw[JS.mp hb];rfl
  ·have hu':its[i]?=some u:=by simpa using hu
   obtain⟨v,hv⟩:∃v,xs[i]?=some v:=⟨xs[i],Ja hlt⟩;obtain⟨u2,e2,r2⟩:=rv.get hv;rw[hu']at e2;cases e2;exact⟨v,r2,fun ys hy=>by rw[I.tuple_inj hy hs];exact hv⟩
 |S x =>
  have hl:x.cps.size=n:=hl;subst hl;obtain⟨oi,hoi,_⟩:=id hi;refine⟨_,_,_,Draws.text (prog:=X.prog) (w:=X.w) hh it x t,hi,by simp,fun b hb=>?_,fun b hb hne=>?_,fun j h st=>st,fun u hlt hu=>?_⟩
  ·rw[JS.mp hb];exact JP hoi
  ·exact absurd (JS.mp hb) hne
  ·obtain⟨c,t',hc,rfl⟩:=hu;exact⟨.str ⟨#[c]⟩,⟨t',rfl⟩,c,hc,rfl⟩
structure zFf (z TI TO i1 i2:Addr) (k1 k2:ZK):Prop where
 TIz:TI≠z
 TOz:TO≠z
 i1z:i1≠z
 i2z:i2≠z
 TITO:TI≠TO
 TIi1:TI≠i1
 TIi2:TI≠i2
 TOi1:TO≠i1
 TOi2:TO≠i2
 i12:i1≠i2
 o1:∀a,k1.val=.ref a→a≠z∧a≠TO∧a≠i1∧a≠i2
 o2:∀a,k2.val=.ref a→a≠z∧a≠TO∧a≠i1∧a≠i2
theorem zFf.off1{z TI TO i1 i2:Addr}{k1 k2:ZK} (D:zFf z TI TO i1 i2 k1 k2):k1.off i1:=by
 cases k1 with
 |L a=>exact(D.o1 a rfl).2.2.1
 |T a=>exact(D.o1 a rfl).2.2.1
 |S x=>trivial
theorem zFf.off2{z TI TO i1 i2:Addr}{k1 k2:ZK} (D:zFf z TI TO i1 i2 k1 k2):k2.off i2:=by
 cases k2 with
 |L a=>exact(D.o2 a rfl).2.2.2
 |T a=>exact(D.o2 a rfl).2.2.2
 |S x=>trivial
theorem zFf.sep{z TI TO i1 i2:Addr}{k1 k2:ZK}{fp1 fp2:List Addr} (D:zFf z TI TO i1 i2 k1 k2) (m1:i1∈fp1) (m2:i2∈fp2) (h1:∀b∈fp1,b≠i1→k1.val=.ref b) (h2:∀b∈fp2,b≠i2→k2.val=.ref b):ZipSep2 z TI TO i1 i2 fp1 fp2 where
 TIz:=D.TIz
 TOz:=D.TOz
 TITO:=D.TITO
 TIi1:=D.TIi1
 mem1:=m1
 zf1:=fun m=>by
  by_cases e:z=i1
  ·exact D.i1z e.symm
  ·exact(D.o1 z (h1 z m e)).1 rfl
 Tf1:=fun m=>(D.o1 TO (h1 TO m D.TOi1)).2.1 rfl
 TIi2:=D.TIi2
 mem2:=m2
 zf2:=fun m=>by
  by_cases e:z=i2
  ·exact D.i2z e.symm
  ·exact(D.o2 z (h2 z m e)).1 rfl
 Tf2:=fun m=>(D.o2 TO (h2 TO m D.TOi2)).2.1 rfl
 sep1_2:=fun m=>(D.o2 i1 (h2 i1 m D.i12)).2.2.1 rfl
 sep2_1:=fun m=>(D.o1 i2 (h1 i2 m (bo D.i12))).2.2.2 rfl
theorem zSy{P:Program}{w:World}{K:PySem.W.Frag}{elts:List Expr}{kk:Nat}{tpos:Pos}{k1 k2:ZK}{t1 t2:Tok}{z TI TO i1 i2:Addr} (D:zFf z TI TO i1 i2 k1 k2) :
  Turn P w K (.Tuple elts kk tpos) (ItzZ K k1 k2) [z,TI,TO,i1,i2] z (fun i h=>IsZip h z TI TO .none∧IsTupOf2 h TI (.ref i1) (.ref i2)∧(∃x y,IsTupOf2 h TO x y)∧k1.itr t1 h i1 i∧k2.itr t2 h i2 i) where
 mem:=by simp
 obj:=fun i h st c hc=>by
  obtain⟨hz,hTI,⟨x,y,hTO⟩,g1,g2⟩:=st;have e':c=z∨c=TI∨c=TO∨c=i1∨c=i2:=by simpa using hc
  rcases e' with q|q|q|q|q
  ·rw[q];exact⟨_,hz,fun v q=>nomatch q⟩
  ·rw[q];exact⟨_,hTI,fun v q=>nomatch q⟩
  ·rw[q];exact⟨_,hTO,fun v q=>nomatch q⟩
  ·rw[q];exact ZK.itr_rec g1
  ·rw[q];exact ZK.itr_rec g2
 keep:=fun i h h' st k=>by
  obtain⟨hz,hTI,⟨x,y,hTO⟩,g1,g2⟩:=st;exact⟨k z (by simp) _ hz,k TI (by simp) _ hTI,⟨x,y,k TO (by simp) _ hTO⟩,ZK.itr_at g1 fun o q=>k i1 (by simp) o q,ZK.itr_at g2 fun o q=>k i2 (by simp) o q⟩
 item:=by
  intro X hP hw hK hc i pins s σ H E I hf st hg;subst hP hw hK;obtain⟨hz,hTI,⟨x0,y0,hTO⟩,g1,g2⟩:=st;obtain⟨n1,n2,l1,l2,b1,b2⟩:=hg;obtain⟨fp1,P1,St1,D1,st1,m1,lt1,ot1,it1,pv1⟩:=ZK.draws (A:=X.A.in1) (I.ok.hd hc) I l1 D.off1 g1;obtain⟨fp2,P2,St2,D2,st2,m2,lt2,ot2,it2,pv2⟩:=ZK.draws (A:=X.A.in1) (I.ok.hd hc) I l2 D.off2 g2;have hzl:z<s.heap.objs.size:=JP hz;refine wpAny_pyNext_zipD2_item (D.sep m1 m2 ot1 ot2) D1 D2 hz hTI hTO st1 st2 b1 b2 fun u1 u2 h' tk p1 p2 z' TO' st1' st2' hT hsz hk=>?_
  obtain⟨x,rx,sx⟩:=pv1 u1 b1 p1;obtain⟨y,ry,sy⟩:=pv2 u2 b2 p2;refine⟨_,rfl,wpAny_letOwnedTupleGo_zip (s := { s with heap:=h',toks:=tk }) z' fun h'' z'' sb=>?_⟩
  have hT2:h''.get? s.heap.objs.size=some { cls:=.type "tuple",data:=.seq #[u1,u2] }:=(sb.2 _ (bU hzl)).trans hT
  have new:ObjOk X.prog X.w (upd H s.heap.objs.size (.tup [x,y])) h'' s.heap.objs.size (.tup [x,y]) :=
   ⟨by show 2≤sizeLine;decide,[u1,u2],.cons rx (.cons ry .nil),⟨_,hT2,rfl,_,rfl⟩⟩
  have I1:Inv X pins σ (upd H s.heap.objs.size (.tup [x,y])) { s with heap:=h'',toks:=tk } :=
   I.turnedNew (ch:=[z,TI,TO,i1,i2]) (fun c o hb q=>(sb.2 c (fun q'=>hb (by simp[q']))).trans (hk c o (fun q'=>hb (by simp[q'])) (fun q'=>hb (by simp[q'])) (fun q'=>hb (by simp[q'])) (fun q'=>hb (by simp[q'])) q)) hf (JH _) new
  refine⟨.ref s.heap.objs.size,_,I1,rfl,⟨_,x,y,rfl,I.hok.fresh (JH _),rfl,sx,sy⟩,⟨z'',?_,⟨u1,u2,?_⟩,?_,?_⟩,fun c hcm=>?_⟩
  ·exact(sb.2 _ D.TIz).trans (hk _ _ D.TIz D.TITO D.TIi1 D.TIi2 hTI)
  ·exact(sb.2 _ D.TOz).trans TO'
  ·exact ZK.itr_at (it1 _ _ st1') fun o q=>(sb.2 _ D.i1z).trans q
  ·exact ZK.itr_at (it2 _ _ st2') fun o q=>(sb.2 _ D.i2z).trans q
  ·have hlt:c<s.heap.objs.size:=by
    have e':c=z∨c=TI∨c=TO∨c=i1∨c=i2:=by simpa using hcm
    rcases e' with q|q|q|q|q
    ·rw[q];exact hzl
    ·rw[q];exact JP hTI
    ·rw[q];exact JP hTO
    ·rw[q];obtain⟨_,e1,_⟩:=ZK.itr_rec g1;exact JP e1
    ·rw[q];obtain⟨_,e2,_⟩:=ZK.itr_rec g2;exact JP e2
   rw[JO (Vd hlt)];exact(hf c hcm).1
 done:=by
  intro X hP hw hK hc i pins s σ H E I hf st hg;subst hP hw hK;obtain⟨hz,hTI,⟨x0,y0,hTO⟩,g1,g2⟩:=st;obtain⟨n1,n2,l1,l2,b1,b2,hend⟩:=hg;obtain⟨fp1,P1,St1,D1,st1,m1,lt1,ot1,it1,pv1⟩:=ZK.draws (A:=X.A.in1) (I.ok.hd hc) I l1 D.off1 g1;obtain⟨fp2,P2,St2,D2,st2,m2,lt2,ot2,it2,pv2⟩:=ZK.draws (A:=X.A.in1) (I.ok.hd hc) I l2 D.off2 g2
  exact wpAny_pyNext_zipD2_end (D.sep m1 m2 ot1 ot2) D1 D2 hz hTI hTO st1 st2 b1 b2 hend fun h' tk hk=>⟨rfl,I.turnedL (t':=tk) (ch:=[z,TI,TO,i1,i2]) (fun c o hb q =>
   hk c o (fun q'=>hb (by simp[q'])) (fun q'=>hb (by simp[q'])) (fun q'=>hb (by simp[q'])) (fun q'=>hb (by simp[q'])) q) hf⟩
 self:=fun A i s Q E st h=>wpAny_pyIter_zip st.1 h
theorem ZK.begins{kd:ZK}{n:Nat}{u:Value} (I:Inv X pins τ H s) (hl:kd.len X.K H n) (r:RelV kd.val u):∃(o:Obj) (t:Tok) (H1:Heap→Prop),Begins u o H1∧H1 s.heap∧(∀(h:Heap) (it:Addr),h.get? it=some o→kd.itr t h it 0)∧∀a,kd.val=.ref a→a<s.heap.objs.size:=by
 cases kd with
 |L a =>
  obtain⟨xs,hs,_⟩:=hl;obtain⟨its,rv,p,_⟩:=I.list hs;cases r;obtain⟨oa,hoa,_⟩:=id p.isList;exact⟨_,0,_,begins_list a its.toArray,p.isList,fun h it e=>⟨_,e,rfl,rfl⟩,fun b e=>by cases e;exact JP hoa⟩
 |T a =>
  obtain⟨xs,hs,_⟩:=hl;obtain⟨its,rv,p,_⟩:=I.tuple hs;have p':s.heap.IsTuple a its.toArray:=p;cases r;obtain⟨oa,hoa,_⟩:=id p';exact⟨_,0,_,begins_tuple a its.toArray,p',fun h it e=>⟨_,e,rfl,rfl⟩,fun b e=>by cases e;exact JP hoa⟩
 |S x =>
  obtain⟨t,rfl⟩:=r;exact⟨_,t,_,begins_text x t,trivial,fun h it e=>⟨_,e,rfl,rfl⟩,fun b e=>by cases e⟩
def iZz(K:PySem.W.Frag) (ta:TA):TI:=fun σ H R=>ta σ H fun vs H1=>∃k1 k2 n1 n2,vs=[ZK.val k1,ZK.val k2]∧k1.len K H1 n1∧k2.len K H1 n2∧R (ItzZ K k1 k2) H1
theorem zQm{a n:Nat} (h:a<n):a≠n+4∧a≠n+3∧a≠n∧a≠n+1:=by omega
theorem pi_zz{e e2:Expr}{ta:TA}{p pos tpos:Pos}{elts:List Expr}{kk:Nat} (hg:Gl X "zip") (hm:X.mg "zip" = none) (ha:PA X [e,e2] ta)
  (hs:starEach [e,e2] X.env=(false,eval e X.env)::starEach [e2] X.env:=by rfl) (hpl:(backTo pos (starEach [e2] X.env)).any (·.1)=false:=by rfl) :
  PI X (.Tuple elts kk tpos) (.Call (.Name "zip" p) [e,e2] [] pos) (iZz X.K ta):=by
 refine⟨fun pins s σ H R I h=>?_⟩
 refine Call_ (ld_blt I hg hm PyProof.Rows.boot_zip (Yh (thn (ha.run pos pins s σ H _ I h) fun us s1 ⟨vs,H1,I1,r1,q1⟩=>?_) hs hpl))
 obtain⟨k1,k2,n1,n2,ex,l1,l2,q⟩:=q1;subst ex;cases r1 with
 |cons r rr =>
  cases rr with
  |cons r' rr =>
   cases rr;obtain⟨o1,t1,G1,B1,b1,f1,lt1⟩:=ZK.begins I1 l1 r;obtain⟨o2,t2,G2,B2,b2,f2,lt2⟩:=ZK.begins I1 l2 r';refine zip_begins2 B1 B2 b1 b2 fun h' hz hTI hTO h1 h2 hsz hk=>wpAny_pyIter_zip hz ?_
   have I2:Inv X pins σ H1 { s1 with heap:=h' }:=I1.kept (t':=s1.toks) hk
   have D:zFf (s1.heap.objs.size+4) (s1.heap.objs.size+2) (s1.heap.objs.size+3) s1.heap.objs.size (s1.heap.objs.size+1) k1 k2:=by
    refine⟨?_,?_,?_,?_,?_,?_,?_,?_,?_,?_,fun a e=>?_,fun a e=>?_⟩
    ·exact fun x=>by have:s1.heap.objs.size+2=s1.heap.objs.size+4:=x;omega
    ·exact fun x=>by have:s1.heap.objs.size+3=s1.heap.objs.size+4:=x;omega
    ·exact fun x=>by have:s1.heap.objs.size=s1.heap.objs.size+4:=x;omega
    ·exact fun x=>by have:s1.heap.objs.size+1=s1.heap.objs.size+4:=x;omega
    ·exact fun x=>by have:s1.heap.objs.size+2=s1.heap.objs.size+3:=x;omega
    ·exact fun x=>by have:s1.heap.objs.size+2=s1.heap.objs.size:=x;omega
    ·exact fun x=>by have:s1.heap.objs.size+2=s1.heap.objs.size+1:=x;omega
    ·exact fun x=>by have:s1.heap.objs.size+3=s1.heap.objs.size:=x;omega
    ·exact fun x=>by have:s1.heap.objs.size+3=s1.heap.objs.size+1:=x;omega
    ·exact fun x=>by have:s1.heap.objs.size=s1.heap.objs.size+1:=x;omega
    ·exact zQm (lt1 a e)
    ·exact zQm (lt2 a e)
   refine⟨s1.heap.objs.size+4,[s1.heap.objs.size+4,s1.heap.objs.size+2,s1.heap.objs.size+3,s1.heap.objs.size,s1.heap.objs.size+1],_,_,H1,rfl,I2,zSy (t1:=t1) (t2:=t2) D,⟨hz,hTI,⟨_,_,hTO⟩,f1 _ _ h1,f2 _ _ h2⟩,fun c hcm=>?_,q⟩
   have e':c=s1.heap.objs.size+4∨c=s1.heap.objs.size+2∨c=s1.heap.objs.size+3∨c=s1.heap.objs.size∨c=s1.heap.objs.size+1:=by simpa using hcm
   have hle:s1.heap.objs.size≤c:=by
    rcases e' with z|z|z|z|z
    ·rw[z];exact VN _ _
    ·rw[z];exact VN _ _
    ·rw[z];exact VN _ _
    ·rw[z];exact JH _
    ·rw[z];exact VN _ _
   exact I1.fpOk hle (I1.hok.fresh hle)
end
section
variable {K:PySem.W.Frag}{cl:Cls}{X:Cx}{Wx:WX}{E0:En}{ρ ρ':List Addr}{G G':Hp}{σ:Sg}{τ:L2.St}{st:List Cell}{H:Hp}{D:Ends}
def srcZ(l:List W):Src:=⟨fun _ i=>if i≤l.length then some l[i]? else none,l.length⟩
def zD5:W→Option (List P)
 | .p (.lst l)=>some l
 | .p (.tup l)=>some l
 | .p (.str z)=>some (z.cps.toList.map fun c=>.str ⟨#[c]⟩)
 |_=>none
def zS0(a b:EM):IM:=fun σ st=>(a σ st).bind fun x st1=>(b σ st1).bind fun y st2=>match zD5 x,zD5 y with
 |some l,some m=>.ok (srcZ (zipL l m)) st2
 |_,_=>.no
structure ZRel (K:PySem.W.Frag) (cl:Cls) (G:Hp) (kd:ZK) (l:List P):Prop where
 len:∀G' H,Sub G G'→Sub G' H→kd.len K H l.length
 at_:∀G' H i x v,Sub G G'→Sub G' H→l[i]?=some x→kd.sure K H i v→RP K cl G' x v
theorem zrel{w:W}{v:V}{l:List P} (r:RW K cl ρ G w v) (e:zD5 w=some l):∃kd,v=ZK.val kd∧ZRel K cl G kd l:=by
 cases w with
 |r i=>cases e
 |p x =>
  cases x with
  |lst m =>
   cases e;cases r with
   |lst h q =>
    rename_i a vs
    refine⟨.L a,rfl,⟨fun G' H s1 s2=>⟨vs,.inl (.inl (s2 _ _ (s1 _ _ h))),q.length.symm⟩,fun G' H i x v s1 s2 ex su=>?_⟩⟩
    obtain⟨u,eu,ru⟩:=q.get ex
    have:=su vs (.inl (.inl (s2 _ _ (s1 _ _ h))))
    rw[eu]at this;cases this;exact ru.mono s1
  |tup m =>
   cases e;cases r with
   |tup h q =>
    rename_i a vs
    refine⟨.T a,rfl,⟨fun G' H s1 s2=>⟨vs,s2.sqT (s1.sqT h),q.length.symm⟩,fun G' H i x v s1 s2 ex su=>?_⟩⟩
    obtain⟨u,eu,ru⟩:=q.get ex
    have:=su vs (s2.sqT (s1.sqT h))
    rw[eu]at this;cases this;exact ru.mono s1
  |str z =>
   cases e;cases r;refine⟨.S z,rfl,⟨fun G' H s1 s2=>by simp[ZK.len],fun G' H i x v s1 s2 ex su=>?_⟩⟩
   obtain⟨c,hc,rfl⟩:=su;rw[Jd,J6,hc]at ex;cases ex;exact .str _
  |_=>cases e
theorem zGb:∀(l m:List P),(zipL l m).length=min l.length m.length
 |[],m=>by simp[zipL]
 |x::l,[]=>by simp[zipL]
 |x::l,y::m=>by
  show(zipL l m).length+1=_;rw[zGb l m];simp
theorem wok_zz{k1 k2:ZK}{l m:List P} (r1:ZRel K cl G k1 l) (r2:ZRel K cl G k2 m):WOk K cl ρ G (ItzZ K k1 k2) (srcZ (zipL l m)):=by
 intro E0 ρ' G' st H i p s R;have L1:=r1.len G' H s R.sub;have L2:=r2.len G' H s R.sub;have ll:=zGb l m;unfold srcZ;dsimp only
 by_cases hi:i≤(zipL l m).length
 ·rw[JW hi,zLk];cases e:l[i]? with
  |none =>
   have:=JR.mp e
   exact⟨_,_,L1,L2,∅,∅,∅⟩
  |some x =>
   have h1:i<l.length:=(Jb.mp e).1;cases e2:m[i]? with
   |none =>
    have:=JR.mp e2
    exact⟨_,_,L1,L2,∅,∅,∅⟩
   |some y =>
    have h2:i<m.length:=(Jb.mp e2).1;refine⟨⟨_,_,L1,L2,h1,h2⟩,fun w H' yl=>?_⟩
    obtain⟨T,v,u,rfl,hT,rfl,sv,su⟩:=yl;have sn:=Sub.new (o:=.tup [v,u]) (R.gnone hT);exact⟨_,sn,R.froze hT,RP.tup (.inl (.inl JC)) (.cons ((r1.at_ G' H i x v s R.sub e sv).mono sn) (.cons ((r2.at_ G' H i y u s R.sub e2 su).mono sn) .nil))⟩
 ·rw[Vh hi]
  trivial
theorem zR0{a b:EM}{e e2:Expr}{p pos tpos:Pos}{elts:List Expr}{kk:Nat} (g:GX K X) (hg:Gl X "zip") (hm:X.mg "zip" = none) (ha:SE K cl X Wx a e) (hb:SE K cl X Wx b e2)
  (hs:starEach [e,e2] X.env=(false,eval e X.env)::starEach [e2] X.env:=by rfl) (hs2:starEach [e2] X.env=(false,eval e2 X.env)::starEach [] X.env:=by rfl) (hpl:(backTo pos (starEach [e2] X.env)).any (·.1)=false:=by rfl) :
  SI K cl X Wx (.Tuple elts kk tpos) (zS0 a b) (.Call (.Name "zip" p) [e,e2] [] pos):=by
 obtain⟨hK,_⟩:=g;subst hK;refine⟨fun E0 ρ G σ st τ H R Rl S q=>TIc.of (pi_zz hg hm (jp T.pe (T.pa1 hs2) hs) hs hpl) ?_⟩
 refine ha.run E0 ρ G σ st τ H _ Rl S (Aft.seq q fun w st1 ρ1 G1 H1 v e1 p1 s1 R1 u1 h1=>?_)
 refine hb.run E0 ρ1 G1 σ st1 τ H1 _ R1 (S.mono p1 s1) (Aft.seq h1 fun u st2 ρ2 G2 H2 v2 e2 p2 s2 R2 u2 h2=>?_)
 replace u1:=RW.mono p2 s2 u1
 split at h2
 ·rename_i l m el em
  obtain⟨k1,rfl,z1⟩:=zrel u1 el;obtain⟨k2,rfl,z2⟩:=zrel u2 em;exact⟨k1,k2,_,_,rfl,z1.len G2 H2 (Sub.refl _) R2.sub,z2.len G2 H2 (Sub.refl _) R2.sub,h2 ρ2 G2 H2 _ (Jh _) (Sub.refl _) R2 (wok_zz z1 z2)⟩
 ·exact h2.elim
end
section
variable {K:PySem.W.Frag}{cl:Cls}{X:Cx}{Wx:WX}{E0:En}{ρ ρ':List Addr}{G G':Hp}{σ:Sg}{τ:L2.St}{st:List Cell}{H:Hp}{D:Ends}
theorem zN2{x:Str}{i:Int}{pos:Pos} (hg:Gl X x) (hm:∃t,X.mg x=some (.int i t)) (hd:(x==("__debug__" : Str))=false:=by decide +kernel):SE K cl X Wx (mC (.int i)) (.Name x pos):=by
 obtain⟨t,e⟩:=hm;exact zKZ (v:=.int i) hg e ⟨t,rfl⟩ (fun G=>.int i) hd
theorem zSh{x z:Str}{pos:Pos} (hg:Gl X x) (hm:∃t,X.mg x=some (.str z t)) (hd:(x==("__debug__" : Str))=false:=by decide +kernel):SE K cl X Wx (mC (.str z)) (.Name x pos):=by
 obtain⟨t,e⟩:=hm;exact zKZ (v:=.str z) hg e ⟨t,rfl⟩ (fun G=>.str z) hd
def dkGet{α:Type} (ks:List Key) (l:List α) (k:Key):Option α:=((ks.zip l).find? fun q=>decide (q.1=k)).map (·.2)
theorem RPs.dkGet{l:List P}{vs:List V} (q:RPs K cl G l vs):∀ {ks:List Key}{k:Key}{x:P},Y.dkGet ks l k=some x→∃v,valV (ks.zip vs) k=some v∧RP K cl G x v:=by
 induction l generalizing vs with
 |nil=>intro ks k x e;cases ks<;>cases e
 |cons y l ih =>
  cases q with
  |cons h r =>
   intro ks k x e;cases ks with
   |nil=>cases e
   |cons k0 ks =>
    unfold Y.dkGet at e;rw[JY,VT]at e;unfold valV;rw[JY,VT]
    by_cases hk:k0=k
    ·simp only[hk,decide_true]at e ⊢;cases e;exact⟨_,rfl,h⟩
    ·simp only[hk,decide_false]at e ⊢;exact ih r e
def keyP:P→Option Key
 | .int i=>some (.inl i)
 | .str z=>some (.inr z)
 |_=>none
theorem zF8{x:P}{v:V}{k:Key} (r:RP K cl G x v) (e:keyP x=some k):v=kV k:=by
 cases r<;>first|(unfold keyP at e;cases e;done)|(cases e;rfl)
def strsOf:List P→Option (List Str)
 |[]=>some []
 | .str z::l=>match strsOf l with
  |some m=>some (z::m)
  |none=>none
 |_=>none
theorem zIq:∀ {l:List P}{m:List Str},strsOf l=some m→l=m.map P.str
 |[],m,e=>by rw[strsOf]at e;cases e;rfl
 | .str i::l,m,e=>by
  rw[strsOf]at e;split at e
  ·rename_i k ek;cases e;rw[zIq ek];rfl
  ·cases e
 | .non::_,_,e | .bl _::_,_,e | .int _::_,_,e | .tup _::_,_,e | .lst _::_,_,e | .scr _::_,_,e | .dk _ _::_,_,e | .obj _ _::_,_,e | .exn _ _::_,_,e | .lam _ _::_,_,e | .cls _::_,_,e | .fd _ _::_,_,e | .fn _ _::_,_,e=>by
  unfold strsOf at e;cases e
theorem RPs.of_strs:∀ {l:List Str}{vs:List V},RPs K cl G (l.map P.str) vs→vs=l.map V.str
 |[],_,.nil=>rfl
 |i::l,_,.cons h r=>by
  cases h;rw[RPs.of_strs r];rfl
def zFv(w:W) (ws:List W) (st:List Cell):Res W:=match w,ws with
 | .p (.str a),[x]=>match(seqP st x).bind strsOf with
  |some ys=>if(ys.map (·.length)).sum+ys.length*a.length≤LIM then .ok (.p (.str (Txt.join a ys))) st else .no
  |none=>.no
 |_,_=>.no
def rJoin(K:PySem.W.Frag):V→List V→Hp→VK→Prop:=fun x xs H Q=>∃a p,∃ys:List Str,x=.str a∧xs=[.ref p]∧(SqL K H p (ys.map V.str)∨SqT K H p (ys.map V.str)) ∧
  (ys.map (·.length)).sum+ys.length*a.length≤16777216∧Q (.str (Txt.join a ys)) H
theorem zF1:VMt K cl zFv (rJoin K):=by
 intro E0 ρ G st H w v ws vs Q Z R r rs h;unfold zFv at h;split at h
 ·rename_i a x
  cases r;obtain⟨u,rfl,ru⟩:=rs.one;split at h
  ·rename_i ys ey
   cases e1:seqP st x with
   |none=>rw[e1]at ey;cases ey
   |some l =>
    rw[e1]at ey;obtain⟨b,us,rfl,h1,q⟩:=zFa R ru e1
    have:=zIq (show strsOf l=some ys from ey)
    subst this;rw[q.of_strs]at h1;split at h
    ·rename_i hl
     exact⟨a,b,ys,rfl,rfl,h1,by unfold LIM at hl;omega,h.here R (RP.str _)⟩
    ·exact h.elim
  ·exact h.elim
 ·exact h.elim
end
section
variable {K:PySem.W.Frag}{cl:Cls}{X:Cx}{Wx:WX}{E0:En}{ρ ρ':List Addr}{G G':Hp}{σ:Sg}{τ:L2.St}{st:List Cell}{H:Hp}{D:Ends}
structure Fk (P:Program) (w:World) (K:PySem.W.Frag) (mg:Str→Option Value) (base:Heap) (cl:Cls) (k:Nat) (f:Addr) (ps:List Str) (F:FM):Prop where
 ex:∃fd,FnOk P w K mg base CX0 k f fd ps (spF K cl F)∧Binds K fd ps []
 kp:PySem.W.keepIn K (.ref f)=true
theorem Fk.of{P:Program}{w:World}{mg:Str→Option Value}{base:Heap}{N ps:List Str}{x qual:Str}{params:Arguments}{body:List Stmt}{scope:Scope}{f:Addr}{k:Nat}{m:SMm}
  (F:∃fd,FunD K x qual params body scope [] [] f fd) (S:FnScope N ps scope) (bd:∀(kV doc pm:Value) (an:Option Addr) (cdv ct:Value) (us:List Value),us.length=ps.length→bindArgs (PySem.W.fnOf x qual params body scope .none kV doc pm an cdv ct) ⟨us,[]⟩=pure (ps.zip us))
  (hb:∀(cd:Value) (A:Around) (outer:List Env) (s:Shared) (H:Hp) (E:XK),GX K (cxD P w K mg base N qual scope f cd A outer s H E)→Room k (A.deeper (envOfC qual scope s.heap.objs.size f cd))→SSs K cl (cxD P w K mg base N qual scope f cd A outer s H E) WF m body) :
  Fk P w K mg base cl (k+1) f ps (runF ps.length N.length m):=by
 obtain⟨fd,F⟩:=F;exact⟨⟨fd,fn_ok F S fun cd A outer s H E hr=>hb cd A outer s H E (zPH S hr) hr,F.bindsN bd⟩,F.kp⟩
theorem Fk.zero{P:Program}{w:World}{mg:Str→Option Value}{base:Heap}{N ps:List Str}{x qual:Str}{params:Arguments}{body:List Stmt}{scope:Scope}{f:Addr}{F':FM} (h:∀ws st,F' ws st=.no)
  (F:∃fd,FunD K x qual params body scope [] [] f fd) (bd:∀(kV doc pm:Value) (an:Option Addr) (cdv ct:Value) (us:List Value),us.length=ps.length→bindArgs (PySem.W.fnOf x qual params body scope .none kV doc pm an cdv ct) ⟨us,[]⟩=pure (ps.zip us)):Fk P w K mg base cl 0 f ps F':=by
 obtain⟨fd,F⟩:=F;refine⟨⟨fd,⟨fun vs H Q E q=>?_,fun A outer s H args us vs Q E hr he hb hv q=>?_⟩,F.bindsN bd⟩,F.kp⟩
 ·obtain⟨ρ0,G0,st0,ws,R,r,a⟩:=q;rw[h]at a;exact a.elim
 ·obtain⟨ρ0,G0,st0,ws,R,r,a⟩:=q;rw[h]at a;exact a.elim
theorem Fk.mono{P:Program}{w:World}{mg:Str→Option Value}{base:Heap}{j k:Nat}{f:Addr}{ps:List Str}{F:FM} (h:Fk P w K mg base cl j f ps F) (q:j≤k):Fk P w K mg base cl k f ps F:=by
 obtain⟨⟨fd,h1,h2⟩,h3⟩:=h;exact⟨⟨fd,h1.mono q,h2⟩,h3⟩
theorem Rel.freeze(R:Rel K cl E0 ρ G st H){i:Nat}{c:Cell}{a:Addr}{o:HO} (h:st[i]?=some c) (hc:c≠.dead) (ha:ρ[i]?=some a) (ho:H a=some o) (nt:NT o:=by intro _ z;cases z):Rel K cl E0 ρ (upd G a o) (st.set i .dead) H:=by
 have hi:i<st.length:=(Jb.mp h).1;have ga:G a=none:=(R.sep i c a h ha).resolve_left hc
 have same:∀(j:Nat) b,ρ[j]?=some b→b=a→j=i:=fun j b e z=>by
  subst z;have h1:=Jb.mp e;have h2:=Jb.mp ha;exact(Yb (h₀:=h1.1) (h₁:=h2.1) R.nd).mp (h1.2.trans h2.2.symm)
 refine⟨by rw[J5];exact R.len,R.nd,fun j e b e1 e2=>?_,fun j e b e1 e2=>?_,fun b u e=>?_,R.old,R.new,R.n0,fun b u e=>?_,R.ent,fun b u e=>by
  by_cases z:b=a
  ·subst z;rw[JC]at e;cases e;exact nt
  ·rw[JO z]at e;exact R.gnt b u e,fun q hq=>(R.tabs q hq).sub (Sub.new ga)⟩
 ·by_cases hj:j=i
  ·subst hj;rw[Jw hi]at e1;rw[ha]at e2;cases e1;cases e2;exact⟨o,JC⟩
  ·rw[Jv (bo hj)]at e1;exact(R.cell j e b e1 e2).mono (Jh _) (Sub.new ga) rfl
 ·by_cases hj:j=i
  ·subst hj;rw[Jw hi]at e1;cases e1;exact .inl rfl
  ·rw[Jv (bo hj)]at e1;rw[JO fun z=>hj (same j b e2 z)]
   exact R.sep j e b e1 e2
 ·by_cases z:b=a
  ·subst z;rw[JC]at e;cases e;exact ho
  ·rw[JO z]at e;exact R.sub b u e
 ·by_cases z:b=a
  ·subst z
   by_cases hn:i<E0.n0
   ·exact .inr (.inr ⟨i,hn,ha⟩)
   ·exact .inr (.inl (R.new i b ∅ ha))
  ·rw[JO z]at e;exact R.grow b u e
def mFrz(a:EM):EM:=fun σ st=>(a σ st).bind fun w st1=>match w with
 | .p x=>.ok (.p x) st1
 | .r i=>match st1[i]? with
  |some (.lst l)=>match pures l with
   |some m=>.ok (.p (.lst m)) (st1.set i .dead)
   |none=>.no
  |_=>.no
theorem zHY{a:EM}{e:Expr} (ha:SE K cl X Wx a e):SE K cl X Wx (mFrz a) e:=by
 refine⟨fun E0 ρ G σ st τ H Q R S h=>ha.run E0 ρ G σ st τ H Q R S ?_⟩
 refine Aft.seq h fun w st1 ρ1 G1 H1 v e1 p1 s1 R1 u1 h1=>?_
 cases w with
 |p x=>exact h1.here R1 u1
 |r i =>
  have h1:Aft (bs K cl E0) (bs K cl E0).RW ρ1 G1 (match st1[i]? with
   |some (.lst l)=>match pures l with
    |some m=>.ok (.p (.lst m)) (st1.set i .dead)
    |none=>.no
   |_=>.no) Q _:=h1
  split at h1
  ·rename_i l el
   split at h1
   ·rename_i m em
    obtain⟨b,hb,rfl⟩:=u1;obtain⟨b2,hb2,⟨vs,g1,g2⟩,hd⟩:=R1.at el;cases Jk (hb.symm.trans hb2);have gb:G1 b=none:=hd.resolve_left (fun z=>by cases z)
    exact h1 ρ1 (upd G1 b _) H1 (.ref b) (Jh _) (Sub.new gb) (R1.freeze el (fun z=>by cases z) hb g1) (.lst JC ((g2.pures em).mono (Sub.new gb)))
   ·exact h1.elim
  ·exact h1.elim
def loc(sc:Scope) (x:Str):Bool:=match sc.names.lookup x with
 |some .local=>true
 |some .cell=>true
 |_=>false
theorem zAV{sc:Scope}{x:Str} (h:loc sc x=true):Loc sc x:=by
 unfold loc at h;split at h
 ·exact .inl (by assumption)
 ·exact .inr (by assumption)
 ·cases h
theorem zAR{f:Addr}{ps:List Str}{F:FM}{a:AM}{k:Nat}{x:Str}{p pos:Pos}{e:Expr}{es:List Expr} (h:Fk X.prog X.w X.K X.mg X.base cl k f ps F) (g:GX K X) (hr:Room k X.A) (hg:Gl X x) (hm:X.mg x=some (.ref f))
  (ha:SA K cl X Wx a (e::es)) (hdb:(x==("__debug__" : Str))=false) (he:starEach (e::es) X.env=(false,eval e X.env)::starEach es X.env:=by rfl) (hpl:(backTo pos (starEach es X.env)).any (·.1)=false:=by rfl) :
  SE K cl X Wx (zAF F a) (.Call (.Name x p) (e::es) [] pos):=by
 obtain⟨hK,_⟩:=g;subst hK;obtain⟨fd,h1,h2⟩:=h.ex;exact zRZ h1 hr hg hm h.kp h2 ha hdb he hpl
theorem callK0{f:Addr}{ps:List Str}{F:FM}{k:Nat}{x:Str}{p pos:Pos} (h:Fk X.prog X.w X.K X.mg X.base cl k f ps F) (g:GX K X) (hr:Room k X.A) (hg:Gl X x) (hm:X.mg x=some (.ref f)) (hdb:(x==("__debug__" : Str))=false) :
  SE K cl X Wx (zAF F mNil) (.Call (.Name x p) [] [] pos):=by
 obtain⟨hK,_⟩:=g;subst hK;obtain⟨fd,h1,h2⟩:=h.ex;exact zPp h1 hr hg hm h.kp h2 hdb
section
variable {a b:EM}{pa pb:Expr}{pos:Pos}
theorem zCp(g:GX K X) (ha:SE K cl X Wx a pa) (hb:SE K cl X Wx b pb) (hm:behindInMarks .Eq pb=false:=by rfl):ST K cl X Wx (mTst (mBin (vEqB false) a b)) (.Compare pa [.Eq] [pb] pos):=by
 obtain⟨hK,hc,hN,hu,hh⟩:=g;subst hK;exact zEB (zQe ∅) hm zQr ha hb
theorem zFw(g:GX K X) (ha:SE K cl X Wx a pa) (hb:SE K cl X Wx b pb) (hm:behindInMarks .NotEq pb=false:=by rfl):ST K cl X Wx (mTst (mBin (vEqB true) a b)) (.Compare pa [.NotEq] [pb] pos):=by
 obtain⟨hK,hc,hN,hu,hh⟩:=g;subst hK;exact zEB (zQy ∅) hm zQ9 ha hb
theorem zOs(g:GX K X) (ha:SE K cl X Wx a pa) (hb:SE K cl X Wx b pb) (hm:behindInMarks .In pb=false:=by rfl):ST K cl X Wx (mTst (mBin (vInB false) a b)) (.Compare pa [.In] [pb] pos):=by
 obtain⟨hK,_,_,hu,_⟩:=g;subst hK;exact zEB (zRB hu) hm zOf ha hb
theorem zIC(g:GX K X) (ha:SE K cl X Wx a pa) (hb:SE K cl X Wx b pb) (hm:behindInMarks .NotIn pb=false:=by rfl):ST K cl X Wx (mTst (mBin (vInB true) a b)) (.Compare pa [.NotIn] [pb] pos):=by
 obtain⟨hK,_,_,hu,_⟩:=g;subst hK;exact zEB (zNs hu) hm zOf ha hb
theorem zM9(ha:SE K cl X Wx a pa) (hb:SE K cl X Wx b pb) (hm:behindInMarks .Lt pb=false:=by rfl):ST K cl X Wx (mTst (mBin vLt a b)) (.Compare pa [.Lt] [pb] pos):=zEB op_lt hm vLt_ok ha hb
theorem st_le(ha:SE K cl X Wx a pa) (hb:SE K cl X Wx b pb) (hm:behindInMarks .LtE pb=false:=by rfl):ST K cl X Wx (mTst (mBin vLe a b)) (.Compare pa [.LtE] [pb] pos):=zEB op_le hm zG3 ha hb
theorem zP9(ha:SE K cl X Wx a pa) (hb:SE K cl X Wx b pb) (hm:behindInMarks .Gt pb=false:=by rfl):ST K cl X Wx (mTst (mBin vGt a b)) (.Compare pa [.Gt] [pb] pos):=zEB op_gt hm vGt_ok ha hb
theorem st_ge(ha:SE K cl X Wx a pa) (hb:SE K cl X Wx b pb) (hm:behindInMarks .GtE pb=false:=by rfl):ST K cl X Wx (mTst (mBin vGe a b)) (.Compare pa [.GtE] [pb] pos):=zEB op_ge hm vGe_ok ha hb
theorem st_is(ha:SE K cl X Wx a pa) (hb:SE K cl X Wx b pb) (hm:behindInMarks .Is pb=false:=by rfl):ST K cl X Wx (mTst (mBin (vIsN false) a b)) (.Compare pa [.Is] [pb] pos):=zEB op_isN hm zQc ha hb
end
theorem ixK{a b:EM}{pa pb:Expr}{pos:Pos} (g:GX K X) (hs:PlainIx pb) (ha:SE K cl X Wx a pa) (hb:SE K cl X Wx b pb):SE K cl X Wx (mBin vIx a b) (.Subscript pa pb pos):=by
 obtain⟨hK,_⟩:=g;subst hK;exact se_ix ixRA vIx_ok hs ha hb
where ixRA:IxR X (rIx X.K):=(IxR.or ix_list (IxR.or ix_tup ix_str))
end
def gI(ix:List Nat){α:Type} (us ws:List α):List α:=us++ix.filterMap fun i=>ws[i]?
theorem zPa{xs:List V}{us:List Value} (r:Vals xs us) (i:Nat):(xs[i]?=none∧us[i]?=none)∨∃x u,xs[i]?=some x∧us[i]?=some u∧RelV x u:=by
 cases h:xs[i]? with
 |none =>
  left;refine⟨rfl,Jt ?_⟩;rw[←r.length];exact JR.mp h
 |some x =>
  obtain⟨u,h1,h2⟩:=r.get h;exact .inr ⟨x,u,rfl,h1,h2⟩
theorem zRd(ix:List Nat){vs:List V}{us:List Value}{zs:List V}{ws:List Value} (r:Vals vs us) (r2:Vals zs ws):Vals (gI ix vs zs) (gI ix us ws):=by
 refine r.append ?_
 induction ix with
 |nil=>exact .nil
 |cons i ix ih =>
  rcases zPa r2 i with⟨h1,h2⟩|⟨x,u,h1,h2,h3⟩
  ·rw[JT,JT,h1,h2];exact ih
  ·rw[JT,JT,h1,h2];exact .cons h3 ih
section
variable {K:PySem.W.Frag}{x qual:Str}{params:Arguments}{body:List Stmt}{scope:Scope}{f:Addr}{fd:FuncData}{ps ks:List Str}
theorem FunD.kbindsI(F:FunD K x qual params body scope [] [] f fd) (n:Nat) (ix:List Nat)
  (h:∀(kV doc pm:Value) (an:Option Addr) (cdv ct:Value) (us ws:List Value),us.length=n→ws.length=ks.length→bindArgs (PySem.W.fnOf x qual params body scope .none kV doc pm an cdv ct) ⟨us,ks.zip ws⟩=pure (ps.zip (gI ix us ws))):KBn K fd ps n ks (gI ix) (gI ix):=by
 refine⟨fun s us ws _ l1 l2=>?_,fun r1 r2=>zRd ix r1 r2⟩
 obtain⟨oc,od,dV,kV,doc,pm,an,cdv,ct,osl,rfl,lk,hcd,hD,hK⟩:=F.ex;rcases hD with⟨_,rfl⟩|⟨e,_⟩
 ·exact .of_eq (h kV doc pm an cdv ct us ws l1 l2)
 ·exact absurd rfl e
end
structure Fk2 (Wk:FuncData→Prop) (P:Program) (w:World) (K:PySem.W.Frag) (mg:Str→Option Value) (base:Heap) (cl:Cls) (k:Nat) (f:Addr) (ps:List Str) (F:FM):Prop where
 ex:∃fd,FnOk P w K mg base CX0 k f fd ps (spF K cl F)∧Binds K fd ps []∧Wk fd
 kp:PySem.W.keepIn K (.ref f)=true
section
variable {K:PySem.W.Frag}{cl:Cls}{X:Cx}{Wx:WX}{E0:En}{ρ ρ':List Addr}{G G':Hp}{σ:Sg}{τ:L2.St}{st:List Cell}{H:Hp}{D:Ends}
theorem Fk2.of{Wk:FuncData→Prop}{P:Program}{w:World}{mg:Str→Option Value}{base:Heap}{N ps:List Str}{x qual:Str}{params:Arguments}{body:List Stmt}{scope:Scope}{f:Addr}{k:Nat}{m:SMm}
  (F:∃fd,FunD K x qual params body scope [] [] f fd) (S:FnScope N ps scope) (bd:∀(kV doc pm:Value) (an:Option Addr) (cdv ct:Value) (us:List Value),us.length=ps.length→bindArgs (PySem.W.fnOf x qual params body scope .none kV doc pm an cdv ct) ⟨us,[]⟩=pure (ps.zip us))
  (hw:∀fd,FunD K x qual params body scope [] [] f fd→Wk fd)
  (hb:∀(cd:Value) (A:Around) (outer:List Env) (s:Shared) (H:Hp) (E:XK),GX K (cxD P w K mg base N qual scope f cd A outer s H E)→Room k (A.deeper (envOfC qual scope s.heap.objs.size f cd))→SSs K cl (cxD P w K mg base N qual scope f cd A outer s H E) WF m body) :
  Fk2 Wk P w K mg base cl (k+1) f ps (runF ps.length N.length m):=by
 obtain⟨fd,F⟩:=F;exact⟨⟨fd,fn_ok F S fun cd A outer s H E hr=>hb cd A outer s H E (zPH S hr) hr,F.bindsN bd,hw fd F⟩,F.kp⟩
def tKw(X:Cx):List Keyword→TA
 |[]=>tNil
 |k::ks=>tCons (T X k.value) (tKw X ks)
theorem pk_kw:∀kws:List Keyword,PK X kws (tKw X kws)
 |[]=>pk_nil
 |⟨nm,e,p⟩::kws=>pk_cons T.pe (pk_kw kws)
structure SK (K:PySem.W.Frag) (cl:Cls) (X:Cx) (Wx:WX) (m:AM) (kws:List Keyword):Prop where
 run:∀E0 ρ G σ st τ H Q,(bs K cl E0).Rel ρ G st H→RS K cl ρ G σ τ→Aft (bs K cl E0) (bs K cl E0).RWs ρ G (m σ st) Q (fun c d H'=>Wx c d τ H')→tKw X kws τ H Q
theorem sk_nil:SK K cl X Wx mNil []:=⟨fun E0 ρ G σ st τ H Q R S h=>h.here R .nil⟩
theorem zIj{a:EM}{r:AM}{nm:Option Str}{e:Expr}{p:Pos}{kws:List Keyword} (ha:SE K cl X Wx a e) (hr:SK K cl X Wx r kws):SK K cl X Wx (zAB a r) (⟨nm,e,p⟩::kws):=by
 refine⟨fun E0 ρ G σ st τ H Q R S h=>?_⟩
 refine ha.run E0 ρ G σ st τ H _ R S (Aft.seq h fun x st1 ρ1 G1 H1 v e1 p1 s1 R1 u1 h1=>?_)
 refine hr.run E0 ρ1 G1 σ st1 τ H1 _ R1 (S.mono p1 s1) (Aft.seq h1 fun xs st2 ρ2 G2 H2 vs e2 p2 s2 R2 u2 h2=>?_)
 exact h2.here R2 (.cons (RW.mono p2 s2 u1) u2)
theorem zSm{l:List W}{vs:List V} (r:RWs K cl ρ G l vs) (i:Nat):(l[i]?=none∧vs[i]?=none)∨∃x u,l[i]?=some x∧vs[i]?=some u∧RW K cl ρ G x u:=by
 cases h:l[i]? with
 |none =>
  left;refine⟨rfl,Jt ?_⟩;rw[←r.length];exact JR.mp h
 |some x =>
  obtain⟨u,h1,h2⟩:=r.get h;exact .inr ⟨x,u,rfl,h1,h2⟩
theorem gI_rws(ix:List Nat){l k:List W}{vs us:List V} (r:RWs K cl ρ G l vs) (r2:RWs K cl ρ G k us):RWs K cl ρ G (gI ix l k) (gI ix vs us):=by
 refine r.append ?_
 induction ix with
 |nil=>exact .nil
 |cons i ix ih =>
  rcases zSm r2 i with⟨h1,h2⟩|⟨x,u,h1,h2,h3⟩
  ·rw[JT,JT,h1,h2];exact ih
  ·rw[JT,JT,h1,h2];exact .cons h3 ih
section
variable {f C:Addr}{fd:FuncData}{ps ks:List Str}{F:FM}{o:EM}{eo e:Expr}{es:List Expr}{a:AM}{k c n nk:Nat}{m x:Str}{p apos pos:Pos}{kws:List Keyword}{ns:List Str}{ix:List Nat}{Wk:FuncData→Prop}
def zIl(F:FM) (ix:List Nat) (n:Nat) (a:AM):EM:=fun σ st=>(a σ st).bind fun ws st1=>if ws.length=n then(zAM F (gI ix [] ws) st1).nox else .no
theorem zME{CX:CXT}{E:XK}{sp:Sp}{tk:TA}{g:List Value→List Value→List Value}{gV:List V→List V→List V} (F:FnOk X.prog X.w X.K X.mg X.base CX k f fd ps sp) (hr:Room k X.A) (hg:Gl X x) (hm:X.mg x=some (.ref f)) (hk:PySem.W.keepIn X.K (.ref f)=true) (hb:KBn X.K fd ps 0 ks g gV) (hx:Passes CX X E)
  (hkw:PK X kws tk) (hall:(backToKw pos (keywordEach kws X.env)).all (·.1.isSome)=true) (hks:(backToKw pos (keywordEach kws X.env)).filterMap (·.1)=ks)
  (hdb:(x==("__debug__" : Str))=false) (hpl:((backTo pos (starEach [] X.env)).any (·.1)||(backToKw pos (keywordEach kws X.env)).any (·.1.isNone))=false) :
  PE X (.Call (.Name x p) [] kws pos) (fun σ H Q=>tk σ H fun zs H2=>zs.length=ks.length∧sp (gV [] zs) H2 Q E):=by
 refine⟨fun pins s σ H Q I h=>?_⟩
 refine bh (ld_glob I hg hm ?_ hdb);refine PySem.W.callWith_KW0 (h₀:=X.base) I.ok.mod.kin hk hall ?_ hpl;refine thn (hkw.run pos pins s σ H _ I h) fun ws s2 ⟨zs,H2,I2,rz,l2,q2⟩=>⟨I2.kIn,?_⟩
 rw[hks];exact run_fnN (us:=[]) (vs:=[]) F hr hb hx I2 .nil rz rfl l2 q2
theorem zRM(h:Fk2 Wk X.prog X.w X.K X.mg X.base cl k f ps F) (hwk:∀fd,Wk fd→KBn X.K fd ps 0 ks (gI ix) (gI ix)) (g:GX K X) (hr:Room k X.A) (hg:Gl X x) (hm:X.mg x=some (.ref f))
  (ha:SK K cl X Wx a kws) (hnk:ks.length=n) (hdb:(x==("__debug__" : Str))=false)
  (hall:(backToKw pos (keywordEach kws X.env)).all (·.1.isSome)=true:=by rfl) (hks:(backToKw pos (keywordEach kws X.env)).filterMap (·.1)=ks:=by rfl)
  (hpl:((backTo pos (starEach [] X.env)).any (·.1)||(backToKw pos (keywordEach kws X.env)).any (·.1.isNone))=false:=by rfl) :
  SE K cl X Wx (zIl F ix n a) (.Call (.Name x p) [] kws pos):=by
 obtain⟨hK,_⟩:=g;subst hK;obtain⟨fd,h1,h2,h3⟩:=h.ex;refine⟨fun E0 ρ G σ st τ H Q R S q=>T.of (zME (E:=L2.E0) h1 hr hg hm h.kp (hwk fd h3) pass0 (pk_kw kws) hall hks hdb hpl) ?_⟩
 refine ha.run E0 ρ G σ st τ H _ R S (Aft.seq q fun ws st2 ρ2 G2 H2 us e2 p2 s2 R2 u2 h2=>?_)
 split at h2
 case isFalse=>exact h2.elim
 rename_i hl
 refine⟨by rw[←u2.length,hl,hnk],?_⟩
 exact zDG R2 (gI_rws ix .nil u2) h2.noxZ
end
theorem AftS.never{R:SR} (h:AftS (bs K cl E0) ρ G R D WF):AftS (bs K cl E0) ρ G R D Wx:=by
 cases R with
 |ok f σ st=>exact h
 |exc x σ st=>exact fun ρ' G' H' τ' c d p s R S x=>(h ρ' G' H' τ' c d p s R S x).elim
 |no=>exact h
def SR.nox:SR→SR
 | .exc _ _ _=>.no
 |r=>r
theorem GX.nox(g:GX K X):GX K X.nox:=⟨g.hK,g.hc,g.hN,g.hu,g.hh⟩
mutual
theorem zQw{K:PySem.W.Frag}:∀ {x:P}{u:Value},kvB K x u=true→∃v,RelV v u∧∀cl G,RP K cl G x v
 | .non,.none,_=>⟨.non,rfl,fun _ _=>.non⟩
 | .bl b,.bool c,h=>by
  rw[kvB]at h;obtain rfl:b=c:=by simpa using h
  exact⟨.bl b,rfl,fun _ _=>.bl b⟩
 | .int i,.int j t,h=>by
  rw[kvB]at h;obtain rfl:i=j:=by simpa using h
  exact⟨.int i,⟨t,rfl⟩,fun _ _=>.int i⟩
 | .str x,.str y t,h=>by
  rw[kvB]at h;obtain rfl:x=y:=by simpa using h
  exact⟨.str x,⟨t,rfl⟩,fun _ _=>.str x⟩
 | .tup l,.ref a,h=>by
  rw[kvB]at h;cases lk:K.lookup a with
  |none=>rw[lk]at h;cases h
  |some o =>
   rw[lk]at h;simp only[Js]at h;obtain⟨hc,h⟩:=h;cases hd:o.data with
   |seq its n =>
    rw[hd]at h;simp only[Js]at h;obtain⟨vs,r1,r2⟩:=zNF h.2;exact⟨.ref a,rfl,fun cl G=>.tup (.inr ⟨o,its,n,lk,JB hc,hd,JB h.1,r1⟩) (r2 cl G)⟩
   |_=>rw[hd]at h;cases h
theorem zNF{K:PySem.W.Frag}:∀ {l:List P}{us:List Value},kvsB K l us=true→∃vs,Vals vs us∧∀cl G,RPs K cl G l vs
 |[],[],_=>⟨[],.nil,fun _ _=>.nil⟩
 |x::l,u::us,h=>by
  rw[kvsB,Js]at h;obtain⟨v,r1,r2⟩:=zQw h.1;obtain⟨vs,q1,q2⟩:=zNF h.2;exact⟨v::vs,.cons r1 q1,fun cl G=>.cons (r2 cl G) (q2 cl G)⟩
 |[],_::_,h=>by rw[kvsB]at h<;>first|cases h|(intros;contradiction)
 |_::_,[],h=>by rw[kvsB]at h<;>first|cases h|(intros;contradiction)
end
theorem gtB_ok{h:Heap}{mg:Str→Option Value} (X:K.In h) (G:h.Ns mainGlobals mg){x:Str}{p:P} (c:gtB K x p=true):∃u,mg x=some u∧kvB K p u=true:=by
 unfold gtB at c;split at c
 ·rename_i u e
  exact⟨u,PySem.W.mg_of X G e,c⟩
 ·cases c
theorem zRu{x:Str}{p:P}{pos:Pos} (g:GX K X) (hg:Gl X x) (hm:∃u,X.mg x=some u∧kvB K p u=true) (hd:(x==("__debug__" : Str))=false):SE K cl X Wx (mC p) (.Name x pos):=by
 obtain⟨u,h1,h2⟩:=hm;obtain⟨v,r1,r2⟩:=zQw h2;exact zKZ hg h1 r1 (r2 cl) hd
end
theorem zOh{prog:Program}{w:World}{A:Around}{E:Value→Shared→Prop}{s:Shared}{l:Addr}{items:Array Value}{Q:Value→Shared→Prop} (hl:s.heap.IsTuple l items)
  (h:∀s₂:Shared,s₂={ s with heap:=s.heap.push { cls:=.type "tuple_iterator",data:=.fields #[.ref l,.int 0 0] } } →
   (s₂.heap.IsTupleIter s.heap.objs.size l 0∧s₂.heap.IsTuple l items)→(∀b∈[s.heap.objs.size,l],b<s₂.heap.objs.size)→l≠s.heap.objs.size→Q (.ref s.heap.objs.size) s₂):wpAny (model prog w) A (pyIter (.ref l)) Q E s:=by
 have hlt:l<s.heap.objs.size:=by obtain⟨_,e,_⟩:=hl;exact JP e
 refine bg hl (h _ rfl ⟨⟨_,JK _ rfl,rfl,rfl⟩,hl.push _⟩ (fun b hb=>?_) (Vd hlt))
 have e:(s.heap.push { cls:=.type "tuple_iterator",data:=.fields #[.ref l,.int 0 0] }).objs.size=s.heap.objs.size+1:=by simp[Heap.push]
 show b<(s.heap.push _).objs.size;rw[e];simp only[Jo,VM,bC]at hb;rcases hb with rfl|rfl
 ·exact Vz _
 ·exact VC hlt
section
variable {K:PySem.W.Frag}{cl:Cls}{X:Cx}{Wx:WX}{E0:En}{ρ ρ':List Addr}{G G':Hp}{σ:Sg}{τ:L2.St}{st:List Cell}{H:Hp}{D:Ends}
theorem zOA{its:List Value}{ns:List Int} (r:Vals (ns.map V.int) its){i:Nat}{v:Value} (h:its.toArray[i]?=some v):∃t,v=.int (ns.getD i 0) t:=by
 have h':its[i]?=some v:=by simpa using h
 clear h
 induction ns generalizing its i with
 |nil=>cases r;simp at h'
 |cons n ns ih =>
  cases r with
  |cons r1 r2 =>
   cases i with
   |zero =>
    have e:_=v:=Jk h';subst e;obtain⟨t,rfl⟩:=r1;exact⟨t,rfl⟩
   |succ i=>exact ih r2 (by simpa using h')
def rMaxT(K:PySem.W.Frag):List V→Hp→VK→Prop:=fun vs H Q=>∃(a:Addr) (ns:List Int),vs=[V.ref a]∧SqT K H a (ns.map V.int)∧0<ns.length∧∀m,m∈ns→(∀y,y∈ns→y≤m)→Q (.int m) H
theorem zMg(hc:X.calm=true):CallR X (.builtin "max") (rMaxT X.K):=by
 intro pins s σ H xs us Q I r h;obtain⟨a,ns,rfl,hs,hn,q⟩:=h;rw[jk r];obtain⟨its,rv,hl,_⟩:=I.tuple hs;have hlen:its.toArray.size=ns.length:=by rw[V4,←rv.length,Jc]
 refine call_max_walk (zOh (show s.heap.IsTuple a its.toArray from hl) fun s₂ e2 st hfp hne=>?_)
 subst e2;refine⟨_,_,_,_,_,_,_,rfl,Walks.tuple (A:=X.A.in1) (I.ok.hd hc) _ a hne its.toArray,st,hfp,by rw[hlen];exact hn,CmpOf.ints_gt (fun i=>ns.getD i 0) (fun _ _ hv=>zOA rv hv),fun v h' tk hP hk=>?_⟩
 obtain⟨t,rfl⟩:=zOA rv hP;obtain⟨h1,h2⟩:=argBest_gt (fun i=>ns.getD i 0) (its.toArray.size-1)
 refine⟨.int _,H,I.kept fun b o eo=>hk b o (fun hmem=>?_) (Jn _ eo),⟨t,rfl⟩,?_⟩
 ·rcases Jo.mp hmem with e1|hmem
  ·exact absurd (e1▸JP eo) (bG _)
  ·cases hmem
 ·refine q _ (PySem.getD_mem ∅) fun y hy=>?_
  obtain⟨j,hj,rfl⟩:=mem_getD hy;exact h2 j ∅
theorem zMC(R:(bs K cl E0).Rel ρ G st H){w:W}{v:V}{l:List Int} (r:RW K cl ρ G w v) (e:(seqP st w).bind intsOf=some l):∃a,v=.ref a∧(SqL K H a (l.map V.int)∨SqT K H a (l.map V.int)):=by
 cases e1:seqP st w with
 |none=>rw[e1]at e;cases e
 |some m =>
  rw[e1]at e;obtain⟨a,vs,rfl,h1,q⟩:=zFa R r e1
  have:=zFB (show intsOf m=some l from e)
  subst this;rw[q.of_ints]at h1;exact⟨a,rfl,h1⟩
def zG7(ws:List W) (st:List Cell):Res W:=match ws with
 |[w]=>match(seqP st w).bind intsOf with
  |some l=>if 0<l.length then .ok (.p (.int (maxI l))) st else .no
  |none=>.no
 |[.p (.int i),.p (.int j)]=>.ok (.p (.int (if j>i then j else i))) st
 |_=>.no
def rMaxS(K:PySem.W.Frag):List V→Hp→VK→Prop:=fun xs H Q=>rMaxA K xs H Q∨rMaxT K xs H Q
theorem zEv(hc:X.calm=true):CallR X (.builtin "max") (rMaxS X.K):=(zN9 hc).or (zMg hc)
theorem zF5:zGK K cl zG7 (rMaxS K):=by
 intro E0 ρ G st H ws vs Q Z R rw' h;unfold zG7 at h;split at h
 ·obtain⟨v,rfl,r⟩:=rw'.one;split at h
  ·rename_i l el
   obtain⟨a,rfl,hs|hs⟩:=zMC R r el
   ·split at h
    ·rename_i hl
     refine .inl (.inl ⟨a,l,rfl,hs,hl,fun m h1 h2=>?_⟩)
     rw[zKe h1 h2];exact h.here R (RP.int _)
    ·exact h.elim
   ·split at h
    ·rename_i hl
     refine .inr ⟨a,l,rfl,hs,hl,fun m h1 h2=>?_⟩
     rw[zKe h1 h2];exact h.here R (RP.int _)
    ·exact h.elim
  ·exact h.elim
 ·obtain⟨v,u,rfl,r,r2⟩:=rw'.two;cases r;cases r2;exact .inl (.inr ⟨_,_,rfl,h.here R (RP.int _)⟩)
 ·exact h.elim
end
section
open PySem.W (ksEnv ksFn kxs_mw)
structure zLz (ps:List Str) (sc:Scope):Prop where
 kind:sc.kind=.function
 co:sc.isCoroutine=false
 gen:sc.isGenerator=false
 nd:ps.Nodup
 par:∀x∈ps,sc.names.lookup x=some .local
 own:∀y∈sc.names,y.2=.free→y.1=("__class__" : Str)
 nocell:∀y∈sc.names,y.2≠.cell
 cls:sc.names.lookup ("__class__" : Str)=some .free
 sup:sc.names.lookup ("super" : Str)=some .globalImplicit
abbrev ccx(P:Program) (w:World) (K:PySem.W.Frag) (mg:Str→Option Value) (base:Heap) (ps:List Str) (qual:Str) (scope:Scope) (f cc:Addr) (cd:Value) (A:Around) (outer:List Env) (s:Shared) (H:Hp):Cx where
 prog:=P
 w:=w
 K:=K
 mg:=mg
 base:=base
 A:=A.deeper (ksEnv qual scope s.heap.objs.size f cd cc)
 N:=ps
 s_0:=s
 H_0:=H
 env:=ksEnv qual scope s.heap.objs.size f cd cc
 outer:=outer
 stack:=ksEnv qual scope s.heap.objs.size f cd cc::outer
 ex:=[]
 calm:=true
 fn:=fun _=>false
 pn:=[]
 xe:=fun _ _=>False
theorem zI5{y:Str}{u:Value}:∀ {l:List (Str×Value)},(l.map (·.1)).Nodup→(y,u)∈l→l.lookup y=some u
 |(z,v)::l,nd,h=>by
  rw[Jl,JV]at nd;rw[VX];rcases Jo.mp h with e|h
  ·cases e;simp
  ·have:(y==z)=false:=VB.mpr fun e=>nd.1 (by rw[←e];exact Jj.mpr ⟨_,h,rfl⟩)
   rw[this];exact zI5 nd.2 h
theorem zHQ{ps:List Str}{us:List Value} (nd:ps.Nodup) (hl:us.length=ps.length){i:Nat}{y:Str}{u:Value} (h1:ps[i]?=some y) (h2:us[i]?=some u):(ps.zip us).reverse.lookup y=some u:=by
 refine zI5 ?_ (List.mem_reverse.mpr (List.mem_iff_getElem?.mpr ⟨i,by rw[Yr];exact⟨h1,h2⟩⟩))
 rw[List.map_reverse,List.map_fst_zip ∅];exact(List.reverse_perm ps).nodup_iff.mpr nd
section
variable {P:Program}{w:World}{K:PySem.W.Frag}{mg:Str→Option Value}{base:Heap}{ps:List Str}{name qual:Str}{scope:Scope}{f cc C cda:Addr}{cd:Value}{A:Around}{outer:List Env}{s:Shared}{H:Hp}
theorem zMG{us:List Value}{vs:List V} (S:zLz ps scope) (hd:A.handled=none) (e0:Env0 P w K mg base A outer s H) (hl:vs.length=ps.length) (r:Vals vs us){ob:Obj}{v0:Option Value} (hcc:K.lookup cc=some ob) (hob:ob.data=.cell v0)
  {h₁:Heap}{tk:Nat} (hns:h₁.Ns s.heap.objs.size fun x=>(ps.zip us).reverse.lookup x) (kp:∀b o,s.heap.get? b=some o→h₁.get? b=some o) :
  Inv (ccx P w K mg base ps qual scope f cc cd A outer s H) [] (L2.start ps vs) H { s with heap:=h₁,toks:=tk }:=by
 have noA:∀b:Addr,b∉(ccx P w K mg base ps qual scope f cc cd A outer s H).ex:=fun b z=>absurd (show b∈([]:List Addr)from z) (by simp)
 have hbc:base.get? cc=some ob:=e0.mod.kin _ _ hcc
 have lku:∀ {y c},([("__class__",cc)]:List (Str×Addr)).lookup y=some c→y=("__class__" : Str)∧c=cc:=fun{y c} h=>by
  rw[VX]at h;split at h
  ·rename_i e
   exact⟨eq_of_beq e,(Jk h).symm⟩
  ·cases h
 have lul:us.length=ps.length:=by rw[←r.length];exact hl
 refine⟨⟨e0.mod,S.kind,rfl,rfl,JH _,fun y z c h1 h2=>(lku h1).1.trans (lku h2).1.symm,fun y hy=>?_,fun y c z _=>?_,fun _=>hd,Around.frames_deeper e0.frames,.inr ⟨rfl,rfl⟩,fun b z=>absurd z (noA b),e0.bs,e0.bsz,fun b _ _=>noA b,fun b z=>absurd z (noA b),e0.funs,e0.frf⟩,
  rfl,e0.bare,Un.kept kp,⟨_,hns,fun i y v h1 h2 h3=>?_⟩,fun y c h=>?_,e0.hok.fresh (JH _),fun y c h=>?_,fun p hp=>absurd (show p∈([]:List (Addr×Obj))from hp) (by simp),e0.hok.kept kp,?_⟩
 ·have hy:scope.names.lookup y=some .cell∨scope.names.lookup y=some .free:=hy;rcases hy with hy|hy
  ·exact absurd rfl (S.nocell _ (PySem.mem_of_lookup hy))
  ·have:=S.own _ (PySem.mem_of_lookup hy) rfl
   have this:y=("__class__" : Str):=this;subst this;exact⟨cc,rfl⟩
 ·exact absurd (show false=true from z) (by simp)
 ·have hi:i<vs.length:=by
   unfold L2.start at h2
   by_cases hi:i<vs.length
   ·exact hi
   ·rw[Jq (by simpa using hi)]at h2
    rw[VO]at h2;split at h2<;>cases h2
  have ha:vs[i]?=some v:=by
   unfold L2.start at h2;rw[Je (by simpa using hi),Jd]at h2
   cases e:vs[i]? with
   |none=>rw[e]at h2;cases h2
   |some a=>rw[e]at h2;cases h2;rfl
  obtain⟨u,hu,rv⟩:=r.get ha;have hp:ps[i]?=some y:=h1;exact⟨u,rv,.inl ⟨S.par y (Ji hp),zHQ S.nd lul hp hu⟩⟩
 ·obtain⟨_,rfl⟩:=lku h;exact⟨v0,ob,kp _ _ (e0.bs _ _ hbc).1,hob⟩
 ·obtain⟨_,rfl⟩:=lku h;exact(e0.bs _ _ hbc).2
 ·unfold L2.start;simp[hl]
end
section
open PySem.W PySem.Calls
variable {prog:Program}{w:World}{A:Around}{E:Value→Shared→Prop}{h:Heap}{g:Array GenState}{d:Drawn}{t:Nat}{os:OsState}
variable {nm q:Str}{C N:Addr}{bs bm:List Value}{hdct:Bool}{sn:List Str}{sub:List Value}{ab:Bool}{col:Option Bool}{dd:Option Addr}{k0 k1 k2 k3 k5:Option Value}
theorem zQO{u e t0:Addr}{rest:List Value}{Q:Value→Shared→Prop}
  (hC:h.get? C=some (excClassObj nm q C N bs bm hdct sn sub ab col dd k0 k1 k2 k3 k5 "ValueError.__new__")) (he:h.get? e=some (HandSPX.excO C t0)) (hu:h.get? u=some (kxs_mw "ValueError.__init__" e)) (hrest:rest.length≤sizeLine)
  (hq:∀h' t1,(∀b o,b≠e→h.get? b=some o→h'.get? b=some o)→h'.get? e=some (HandSPX.excO C t1)→Q .none ⟨h',g,d,t,os⟩) :
  wpAny (model prog w) A (call (.ref u) rest) Q E ⟨h,g,d,t,os⟩:=by
 refine ja (bV ?_);show wpAny _ A.in1 (callAny (.ref u) ⟨rest,[]⟩) _ _ _;simp only[callAny];refine Jr (wpAny_load hu ?_);simp only[kxs_mw,show(Value.type "method-wrapper" == Value.type "method" || Value.type "method-wrapper" == Value.type "builtin_function_or_method" || Value.type "method-wrapper" == Value.type "method-wrapper")=true by decide,Ye]
 refine W.KFB.if_so (!0) ?_
 refine Jr (check_bound_init Yp.toExcCallFacts hC he rfl ?_);refine Jr (JA (JA ?_));refine⟨YB _ ⋯,V6 Yp.initEntry ?_⟩;rw[YW Yp.init.plain _]
 wp_walk
 refine hq _ h.objs.size (fun b o hb ho=>?_) ?_
 ·rw[Heap.get?_update_other _ _ (bo hb)];exact Jn _ ho
 ·rw[Heap.get?_update_self _ (Jn _ he) rfl];rfl
end
structure SayF (P:Program) (K:PySem.W.Frag) (mg:Str→Option Value) (C f cc cda:Addr) (name qual:Str) (params:Arguments) (body:List Stmt) (scope:Scope) (fd:FuncData):Prop where
 T:OexC K C
 lk:∃oc od dV kV doc pm an ct osl,fd=ksFn name qual params body scope dV kV doc pm an (.ref cda) ct cc∧K.lookup f=some ⟨oc,od,.func fd,osl⟩
 hcd:PySem.W.codeIn K (.ref cda) qual=true
 cell:∃cl0 cd0 csl,K.lookup cc=some ⟨cl0,cd0,.cell (some (.ref C)),csl⟩
 par:∃ar,(params.posonlyargs++params.args).head?=some ar∧ar.arg=("self" : Str)
 code:∃ccl cdd vs ccs file tf,K.lookup cda=some ⟨ccl,cdd,.fields vs,ccs⟩∧vs[2]?=some (.str file tf)∧((P.main.file:Str)==file)=true
 top:(P.main.scope.names.lookup ("super" : Str)).isSome=false
 sup:mg "super" = none
 along:PySem.W.ks_superIn K C C "__init__" = some (some (.builtin "ValueError.__init__"))
 self:PySem.W.mroIn K C (.ref C)=some true
 isVE:PySem.W.subIn K (.ref C) (.type "ValueError")=some true
 opq:PySem.W.nsIn K PySem.cStatics "thirdparty.any" = some none
section
open PySem.W PySem.Calls
variable {P:Program}{w:World}{K:PySem.W.Frag}{mg:Str→Option Value}{base:Heap}{C f cc cda:Addr}{name qual:Str}{params:Arguments}{scope:Scope}{fd:FuncData}
def zM0(ps:List Str) (C:Addr) (t:TS):Sp:=fun vs H Q _=>vs.length=ps.length∧∃a ws,vs=.ref a::ws∧H a=some (exo a C none)∧t { nx:=fun _ H'=>Q .non H',rt:=Q } (L2.start ps vs) H
theorem zQf{ps ps':List Str}{k j:Nat}{p0 p1 p2 p3 p4 p5:Pos}{m:Str}{rest:List Stmt}{t:TS} (hps:ps=("self" : Str)::ps')
  (D:SayF P K mg C f cc cda name qual params (.Expr (.Call (.Attribute (.Call (.Name "super" p0) [] [] p1) "__init__" p2) [.Constant (.str m) j p3] [] p4) p5::rest) scope fd) (S:zLz ps scope)
  {pl:Sem Bool} (he:∀L,eval (.Call (.Attribute (.Call (.Name "super" p0) [] [] p1) "__init__" p2) [.Constant (.str m) j p3] [] p4) (ksEnv qual scope L f (.ref cda) cc)=(do
   let ov ←attributeBase (.Call (.Name "super" p0) [] [] p1) "__init__" (ksEnv qual scope L f (.ref cda) cc) (eval (.Call (.Name "super" p0) [] [] p1) (ksEnv qual scope L f (.ref cda) cc))
   standAt p2.atName
   let (f',first) ←holding [ov] (getMethod ov "__init__" pl)
   callWith p4 f' first (backTo p4 (starEach [.Constant (.str m) j p3] (ksEnv qual scope L f (.ref cda) cc))) []))
  (hi:∀L,interactive (ksEnv qual scope L f (.ref cda) cc)=false) (hsw:∀L,swapsWith (.Call (.Attribute (.Call (.Name "super" p0) [] [] p1) "__init__" p2) [.Constant (.str m) j p3] [] p4) none p5.line (ksEnv qual scope L f (.ref cda) cc)=pure false)
  (hrest:∀(A:Around) (outer:List Env) (s:Shared) (H:Hp),PSs (ccx P w K mg base ps qual scope f cc (.ref cda) A outer s H) rest t):FnOk P w K mg base CX0 (k+1) f fd ps (zM0 ps C t):=by
 refine⟨fun vs H Q E h=>h.1,fun A outer s H args us vs Q E hr e0 hb' r hsp=>?_⟩
 obtain⟨hl,a,ws,rfl,ea,ht⟩:=hsp;obtain⟨oc,od,dV,kV,doc,pm,an,ct,osl,rfl,lk⟩:=D.lk;obtain⟨cl0,cd0,csl,hcc⟩:=D.cell;obtain⟨ar,hpar,har⟩:=D.par;obtain⟨ccl,cdd,cvs,ccs,file,tf,hcode,hvs,hfile⟩:=D.code;have KX:K.In s.heap:=e0.mod.kin.keeps fun b o e=>(e0.bs b o e).1
 have lim:s.heap.NoLimit:=e0.mod.nolimit.keeps fun b o e=>(e0.bs b o e).1
 refine PySem.ks_codeAny_call_defAt (binds:=ps.zip us) hr.depth (KX _ _ lk) rfl lim (PySem.W.codeRec_of KX D.hcd) rfl hb' S.nocell (fun y hy=>S.par _ (bS hy).1) (fun h₁ hns kp=>?_) S.co S.gen S.kind
 have I:=zMG (w:=w) (mg:=mg) (qual:=qual) (f:=f) (cd:=.ref cda) (tk:=s.toks+(ps.zip us).length) S hr.hd e0 hl r hcc rfl hns kp
 have fin:∀ {σ':L2.St}{H':Hp}{v:V}{u:Value}{s':Shared},Inv (ccx P w K mg base ps qual scope f cc (.ref cda) A outer s H) [] σ' H' s'→L2.RelV v u→Q v H'→CE outer P w H s Q u s' :=
  fun{σ' H' v u s'} J rv q=>⟨v,H',J.os,J.bare,J.base,J.hok,rv,q⟩
 have fin2:∀(fl:Flow) (s':Shared),SP (ccx P w K mg base ps qual scope f cc (.ref cda) A outer s H) [] { nx:=fun _ H'=>Q .non H',rt:=Q } fl s'→CE outer P w H s Q (match fl with | .ret v=>v|_=>.none) s':=fun fl s' hs=>by
  cases fl with
  |ret u =>
   obtain⟨v,σ',H',J,rv,q⟩:=hs;exact fin J rv q
  |next =>
   obtain⟨σ',H',J,q⟩:=hs;exact fin (v:=V.non) (u:=Value.none) J rfl q
  |brk =>
   obtain⟨_,_,_,q⟩:=hs;exact False.elim q
  |cont =>
   obtain⟨_,_,_,q⟩:=hs;exact False.elim q
 refine PySem.ks_wpAt_execs_cons (PySem.ks_wpAt_Expr_any (PySem.ks_wpAt_MethodCall (PySem.ks_wpAt_super_base (env:=ksEnv qual scope s.heap.objs.size f (.ref cda) cc) S.sup S.cls rfl rfl (I.kIn _ _ lk) rfl hpar rfl (I.kIn _ _ hcode) rfl hvs hfile D.top ?_) (he _)) (hi _) (hsw _));obtain⟨mb,b1,b2⟩:=I.mod.blt
 obtain⟨u0,ur,rfl,ru⟩:∃u0 ur,us=u0::ur∧L2.RelV (.ref a) u0:=by
  cases r with
  |cons r1 r2=>exact⟨_,_,rfl,r1⟩
 obtain rfl:u0=.ref a:=ru;obtain⟨nm,qn,N,bs,bm,sn,sub,ab,col,dd,k0,k1,k2,k3,k5,hCK,hbm⟩:=D.T.cls;have hC:=I.kIn _ _ hCK;obtain⟨t1,hea⟩:=exo_at I.hok ea;have hcl:PySem.W.clsIn K C=some { name:=nm,bases:=bs,mro:=.ref C::bm,ns:=N,qualname:=qn,hasDict:=true,slotNames:=sn,subclasses:=sub,abstract:=ab,collection:=col,hasDel:=false }:=by unfold PySem.W.clsIn;rw[hCK]<;>rfl
 have lul:(Value.ref a::ur).length=ps.length:=by rw[←r.length];exact hl
 have hself:(ps.zip (Value.ref a::ur)).reverse.lookup ar.arg=some (.ref a):=by
  rw[har];exact zHQ (i:=0) S.nd lul (by rw[hps];rfl) rfl
 refine PySem.W.ks_loadName_global S.kind S.sup (PySem.Calls.loadGlobal_builtin (env:=ksEnv qual scope s.heap.objs.size f (.ref cda) cc) (I.mod.glob.keeps I.bk) D.sup (b1.keeps I.bk) ((b2 "super" (!0)).trans PyProof.Rows.Boot.«super») ⟨rfl,?_⟩);refine wpAny_loadName_free S.kind S.cls rfl ⟨_,I.kIn _ _ hcc,rfl⟩ ?_
 refine wpAny_loadName_local S.kind (by rw[har];exact S.par _ (by rw[hps];exact Jg)) hns hself ?_
 refine PySem.ks_wpAny_isType_cls hC rfl ⟨rfl,?_⟩;refine PySem.ks_wpAny_call_super hC rfl hea rfl (fun c e=>by cases e) (PySem.W.looks_mroIn I.kIn D.self) (fun h' e k=>?_)
 have I2:Inv (ccx P w K mg base ps qual scope f cc (.ref cda) A outer s H) [] (L2.start ps (.ref a::ws)) H { s with heap:=h',toks:=s.toks+(ps.zip (Value.ref a::ur)).length }:=I.kept k
 have ia:PySem.W.InstAt h' a (PySem.HandSPX.excO C t1) C none:=⟨k _ _ hea,rfl,rfl,trivial⟩;have al:=D.along;unfold PySem.W.ks_superIn at al;rw[hcl]at al;refine PySem.W.kxs_getMethod PySem.W.kxs_ValueError e (PySem.W.looks_opaque I2.kIn D.opq) (l₀:=.ref C::bm) (fun A Q E s k q=>Jr ((PySem.W.looks_clsIn I2.kIn hcl) A _ E s k (JA q))) rfl I2.kIn al (ia.type.andThen (PySem.W.looks_subIn I2.kIn D.isVE)) (PySem.W.ks_ne I2.kIn ia hcl) (!0) ?_
 have hu:(h'.push (kxs_mw "ValueError.__init__" a)).get? h'.objs.size=some (kxs_mw "ValueError.__init__" a):=Heap.get?_push_at rfl rfl;have kk:∀b o,h'.get? b=some o→(h'.push (kxs_mw "ValueError.__init__" a)).get? b=some o:=fun b o e=>Jn _ e
 refine PySem.W.kxs_callWith (i := "ValueError.__init__") (x:=a) rfl ?_
 refine PySem.Calls.evalArgs_plain (PySem.Calls.spliced_cons (PySem.Calls.Constant_str (pos:=p3) (k:=j) (PySem.Calls.spliced_nil ⟨hu,?_⟩)));refine zQO (kk _ _ (k _ _ hC)) (kk _ _ (k _ _ hea)) hu (by rw[Vq];show 1≤16777216;decide) fun h3 t3 k3 hx=>?_
 have J:=(I2.kept (t':=0) kk).write (t':=s.toks+(ps.zip (Value.ref a::ur)).length+1+1) (x:=a) (e:=a) (o:=exo a C none) (h':=h3) (by rw[ea];exact True.intro) (.inl rfl) k3 ⟨_,hx⟩ (exo_ok hx)
 have eu:upd H a (exo a C none)=H:=by
  funext b
  by_cases hb:b=a
  ·rw[hb,JC,ea]
  ·rw[JO hb]
 rw[eu]at J;refine wpAt_of_wpAny ?_
 refine b8 ((hrest A outer s H).run [] _ _ H _ J ht) (fun fl s' hs=>fin2 fl s' hs) fun e' s' hs=>hs.elim
end
end
section
open PySem.W (ksEnv ksFn kxs_mw)
section
variable {X:Cx}{p pos:Pos}{e:Expr}{es:List Expr}{ta:TA}
theorem zPO{CX:CXT}{x:Str}{C fI:Addr}{k:Nat}{fd:FuncData}{ps:List Str}{sp:Sp} (T:OexC X.K C) (iC:PySem.W.findIn X.K (.ref C) "__init__" = some (some (.ref fI))) (tI:PySem.W.typeIn X.K (.ref fI)=some (.type "function"))
  (F1:FnOk X.prog X.w X.K X.mg X.base CX k fI fd ps sp) (hr:Room (k+1) X.A) (hb:Binds X.K fd ps []) (hx:Passes CX X (fun _ _ _=>False)) (hg:Gl X x) (hm:X.mg x=some (.ref C))
  (hdb:(x==("__debug__" : Str))=false:=by decide):PMk X (.Call (.Name x p) [] [] pos) (tMkO C sp [] tNil):=by
 intro pins s σ H Q I h;obtain⟨nm,q,N,bs,bm,sn,sub,ab,col,dd,k0,k1,k2,k3,k5,hC,hbm⟩:=T.cls;refine bh (ld_glob I hg hm ?_ hdb);refine PySem.W.callWith_K0 I.kIn T.kC ?_
 obtain⟨hz,q1⟩:=h;obtain⟨hp,g,dr,tk,os⟩:=s;have hsz:hp.objs.size≤hp.objs.size+1:=Y2 _;have hn:H (hp.objs.size+1)=none:=I.hok.fresh hsz;have hq:=q1 (hp.objs.size+1) hn;have kk:∀b o,hp.get? b=some o→((hp.push (PySem.W.kdv_tup [])).push (PySem.HandSPX.excO C hp.objs.size)).get? b=some o:=fun b o e=>Jn _ (Jn _ e)
 have hget:((hp.push (PySem.W.kdv_tup [])).push (PySem.HandSPX.excO C hp.objs.size)).get? (hp.objs.size+1)=some (PySem.HandSPX.excO C hp.objs.size):=by heap_get
 have I2:Inv X pins σ (upd H (hp.objs.size+1) (exo (hp.objs.size+1) C none)) ⟨(hp.push (PySem.W.kdv_tup [])).push (PySem.HandSPX.excO C hp.objs.size),g,dr,tk,os⟩ :=
  I.laid (t':=tk) (a:=hp.objs.size+1) (o:=exo (hp.objs.size+1) C none) (h':=(hp.push (PySem.W.kdv_tup [])).push (PySem.HandSPX.excO C hp.objs.size)) kk hsz (exo_ok hget)
 have r2:Vals [V.ref (hp.objs.size+1)] [Value.ref (hp.objs.size+1)]:=.cons rfl .nil
 have hl:([Value.ref (hp.objs.size+1)]++[]).length=ps.length:=by
  have e:=F1.len _ _ _ _ hq;exact e
 refine ja (PySem.HandSPX.call_own Yp (fun Y=>PySem.HandSPX.refsVE_contains Y bm hbm) (I.kIn _ _ hC) (PySem.W.looks_findIn I.kIn iC) (fun self=>PySem.W.bind_fn I.kIn self tI) (J3 _)
  (YA (F1.run _ X.stack _ _ ⟨[Value.ref (hp.objs.size+1)],[]⟩ [Value.ref (hp.objs.size+1)] _ _ (fun _ _ _=>False) (hr.make C [] []) (I2.env0.make C [] []) (hb _ [Value.ref (hp.objs.size+1)] I2.kIn hl) r2 hq) fun r s' hq'=>?_))
 cases r with
 |error er=>exact hx pins σ _ _ er s' I2 hq'
 |ok fl =>
  cases fl with
  |ret u =>
   obtain⟨v,H2,os2,bare2,un2,hok2,rv,ev,d,fs,ea,ed,hd1,q2⟩:=hq';subst ev;obtain⟨h2,g2,d2,t2,os'⟩:=s';exact⟨rv,mk_end (raises_own T.exC T.tyC) I hsz kk un2 hok2 os2 bare2 ea ed hd1 q2⟩
  |next=>exact False.elim hq'
  |brk=>exact False.elim hq'
  |cont=>exact False.elim hq'
end
def tSay0(K:PySem.W.Frag) (T:Str):TS:=tOst K "tag" (tVar 0) (tC (.str T))
def tSay1(K:PySem.W.Frag) (T g:Str):TS:=tSeq (tOst K "tag" (tVar 0) (tC (.str T))) (tOst K g (tVar 0) (tVar 1))
theorem zPJ{H:Hp}{a d:Addr}{o0 o1 o2 o3:HO} (hda:d≠a) (ha:H a=none):upd (L2.del (upd (upd (upd H a o0) d o1) a o2) a) d o3=upd H d o3:=by
 funext b
 by_cases h:b=d
 ·subst h;rw[JC,JC]
 ·rw[JO h,JO h]
  by_cases h2:b=a
  ·subst h2;rw[del_same,ha]
  ·rw[del_ne h2,JO h2,JO h,JO h2]
def tExc(C:Addr) (fs:List (Str×V)) (H:Hp) (Q:XK):Prop:=∀d,H d=none→Q (.ref C) (some d) (upd H d (.xd fs))
theorem zPS{K:PySem.W.Frag}{C:Addr}{T:Str}{H:Hp}{Q:XK} (O:OexC K C) (ht:PySem.W.findIn K (.ref C) "tag" = some none) (h:tExc C [("tag",.str T)] H Q){a:Addr} (ha:H a=none) :
  zM0 ["self"] C (tSay0 K T) [.ref a] (upd H a (exo a C none)) (fun v H2=>v=.non∧∃(d:Addr) (fs:List (Str×V)),H2 a=some (exo a C (some d))∧H2 d=some (exd d fs)∧H d=none∧Q (.ref C) (some d) (upd (L2.del H2 a) d (.xd fs))) (fun _ _ _=>False):=by
 refine⟨rfl,a,[],rfl,JC,⟨.ref a,rfl,a,C,rfl,O,ht,.inl ⟨JC,fun d hd hne=>⟨rfl,d,[("tag",.str T)],JC,?_,?_,?_⟩⟩⟩⟩
 ·rw[JO hne,JC]
 ·rwa [JO hne]at hd
 ·rw[JO hne]at hd;rw[zPJ hne ha];exact h d hd
theorem zO0{K:PySem.W.Frag}{C:Addr}{T g:Str}{v:V}{H:Hp}{Q:XK}{pn:Str} (O:OexC K C) (ht:PySem.W.findIn K (.ref C) "tag" = some none) (hg:PySem.W.findIn K (.ref C) g=some none) (h:tExc C [(g,v),("tag",.str T)] H Q){a:Addr} (ha:H a=none) :
  zM0 ["self",pn] C (tSay1 K T g) [.ref a,v] (upd H a (exo a C none)) (fun v H2=>v=.non∧∃(d:Addr) (fs:List (Str×V)),H2 a=some (exo a C (some d))∧H2 d=some (exd d fs)∧H d=none∧Q (.ref C) (some d) (upd (L2.del H2 a) d (.xd fs))) (fun _ _ _=>False):=by
 refine⟨rfl,a,[v],rfl,JC,⟨.ref a,rfl,a,C,rfl,O,ht,.inl ⟨JC,fun d hd hne=>⟨v,rfl,.ref a,rfl,a,C,rfl,O,hg,.inr ⟨d,[("tag",.str T)],JC,?_,by simp,rfl,d,[(g,v),("tag",.str T)],?_,JC,?_,?_⟩⟩⟩⟩⟩
 ·rw[JO hne,JC]
 ·rw[JO (bo hne),JC]
 ·rwa [JO hne]at hd
 ·rw[JO hne]at hd
  have e:upd (L2.del (upd (upd (upd (upd H a (exo a C none)) d (exd d [("tag",V.str T)])) a (exo a C (some d))) d (exd d [(g,v),("tag",.str T)])) a) d (.xd [(g,v),("tag",.str T)])=upd H d (.xd [(g,v),("tag",.str T)]):=by
   funext b
   by_cases h:b=d
   ·subst h;rw[JC,JC]
   ·rw[JO h,JO h]
    by_cases h2:b=a
    ·subst h2;rw[del_same,ha]
    ·rw[del_ne h2,JO h,JO h2,JO h,JO h2]
  rw[e];exact h d hd
def zEj(c:Nat) (T:Str):SMm:=fun σ st=>.exc ⟨c,[.str T]⟩ σ st
def zEE(c:Nat) (m:EM) (T:Str):SMm:=fun σ st=>(m σ st).to σ fun w st1=>match w with
 | .p x=>.exc ⟨c,[x,.str T]⟩ σ st1
 |_=>.no
structure Exc0 (P:Program) (w:World) (K:PySem.W.Frag) (mg:Str→Option Value) (base:Heap) (cl:Cls) (k c:Nat) (C:Addr) (T:Str):Prop where
 at_:cl[c]?=some (C,[("tag" : Str)])
 O:OexC K C
 tag:PySem.W.findIn K (.ref C) "tag" = some none
 ex:∃fI fd,PySem.W.findIn K (.ref C) "__init__" = some (some (.ref fI))∧PySem.W.typeIn K (.ref fI)=some (.type "function")∧FnOk P w K mg base CX0 k fI fd ["self"] (zM0 ["self"] C (tSay0 K T))∧Binds K fd ["self"] []
structure Exc1 (P:Program) (w:World) (K:PySem.W.Frag) (mg:Str→Option Value) (base:Heap) (cl:Cls) (k c:Nat) (C:Addr) (T f pn:Str):Prop where
 at_:cl[c]?=some (C,[f,("tag" : Str)])
 O:OexC K C
 tag:PySem.W.findIn K (.ref C) "tag" = some none
 fld:PySem.W.findIn K (.ref C) f=some none
 ex:∃fI fd,PySem.W.findIn K (.ref C) "__init__" = some (some (.ref fI))∧PySem.W.typeIn K (.ref fI)=some (.type "function")∧FnOk P w K mg base CX0 k fI fd ["self",pn] (zM0 ["self",pn] C (tSay1 K T f))∧Binds K fd ["self",pn] []
section
variable {K:PySem.W.Frag}{cl:Cls}{X:Cx}{Wx:WX}{E0:En}{ρ ρ':List Addr}{G G':Hp}{σ:Sg}{τ:L2.St}{st:List Cell}{H:Hp}{D:Ends}
theorem zNO{C:Addr}{c:Nat}{ns:List Str}{vs:List V}{l:List P} (hC:cl[c]?=some (C,ns)) (hl:ns.length=vs.length) (R:(bs K cl E0).Rel ρ G st H) (S:RS K cl ρ G σ τ) (r:RPs K cl G l vs) (h:AftS (bs K cl E0) ρ G (.exc ⟨c,l⟩ σ st) D Wx) :
  tExc C (ns.zip vs) H fun cls d H'=>Wx cls d τ H':=by
 intro d hd;refine h ρ (upd G d (.xd (ns.zip vs))) (upd H d (.xd (ns.zip vs))) τ (.ref C) (some d) (Jh _) (Sub.new (R.gnone hd)) (R.froze hd) (S.mono (Jh _) (Sub.new (R.gnone hd))) ?_
 exact⟨C,ns,d,vs,hC,rfl,rfl,JC,hl,r.mono (Sub.new (R.gnone hd))⟩
theorem zGJ{C:Addr}{k c:Nat}{T x:Str}{p pos pos2:Pos} (B:Exc0 X.prog X.w X.K X.mg X.base cl k c C T) (g:GX K X) (tk:Takes X Wx) (hr:Room (k+1) X.A) (hg:Gl X x) (hm:X.mg x=some (.ref C)) (hdb:(x==("__debug__" : Str))=false) :
  SS K cl X Wx (zEj c T) (.Raise (some (.Call (.Name x p) [] [] pos)) none pos2):=by
 obtain⟨hK,hc,_⟩:=g;subst hK;obtain⟨fI,fd,h1,h2,h3,h4⟩:=B.ex;refine⟨fun E0 ρ G σ st τ H D R S h=>TS'.of (ps_raise hc tk (zPO B.O h1 h2 h3 hr h4 pass0 hg hm hdb)) ?_⟩
 have e:=zNO (vs:=[.str T]) B.at_ rfl R S (.cons (.str T) .nil) h;exact⟨J3 _,fun a ha=>zPS B.O B.tag e ha⟩
theorem zFJ{C:Addr}{k c:Nat}{tg f pn x:Str}{p pos pos2:Pos}{a:EM}{e:Expr} (B:Exc1 X.prog X.w X.K X.mg X.base cl k c C tg f pn) (g:GX K X) (tk:Takes X Wx) (hr:Room (k+1) X.A) (hg:Gl X x) (hm:X.mg x=some (.ref C)) (ha:SE K cl X Wx a e)
  (hdb:(x==("__debug__" : Str))=false) (he:starEach [e] X.env=(false,eval e X.env)::starEach [] X.env:=by rfl) (hpl:(backTo pos (starEach [] X.env)).any (·.1)=false:=by rfl) :
  SS K cl X Wx (zEE c a tg) (.Raise (some (.Call (.Name x p) [e] [] pos)) none pos2):=by
 obtain⟨hK,hc,_⟩:=g;subst hK;obtain⟨fI,fd,h1,h2,h3,h4⟩:=B.ex;refine⟨fun E0 ρ G σ st τ H D R S h=>TS'.of (ps_raise hc tk (pmk_oex B.O h1 h2 h3 hr h4 .nil pass0 hg hm (jp T.pe pa_nil he) hdb he hpl)) ?_⟩
 refine ha.run E0 ρ G σ st τ H _ R S (AftS.seq S h fun w st1 ρ1 G1 H1 v e1 p1 s1 R1 u1 h'=>?_)
 split at h'
 case h_2=>exact h'.elim
 have S1:=S.mono p1 s1;have en:=zNO (vs:=[v,.str tg]) B.at_ rfl R1 S1 (.cons u1 (.cons (.str tg) .nil)) h';exact⟨by simp,fun y hy=>zO0 B.O B.tag B.fld en hy⟩
def runX(np N:Nat) (m:SMm):FM:=fun ws st=>if ws.length=np then match m (ws.map some++List.replicate (N-np) none) st with
 | .ok .nx _ st1=>.ok (.p .non) st1
 | .ok (.rt w) _ st1=>.ok w st1
 | .exc x _ st1=>.exc x st1
 |_=>.no
 else .no
abbrev cxE(P:Program) (w:World) (K:PySem.W.Frag) (mg:Str→Option Value) (base:Heap) (N:List Str) (qual:Str) (scope:Scope) (f:Addr) (cd:Value) (A:Around) (outer:List Env) (s:Shared) (H:Hp) (E:XK):Cx :=
 cxOf (L2.CX P w) P w K mg base N qual scope f cd A outer s H E
theorem zOQ{P:Program}{w:World}{mg:Str→Option Value}{base:Heap}{N ps:List Str}{qual:Str}{scope:Scope}{f:Addr}{cd:Value}{A:Around}{outer:List Env}{s:Shared}{H:Hp}{E:XK}{k:Nat}
  (S:FnScope N ps scope) (hr:Room k (A.deeper (envOfC qual scope s.heap.objs.size f cd))):GX K (cxE P w K mg base N qual scope f cd A outer s H E) :=
 ⟨rfl,rfl,S.nd,by have:=hr.un;show(A.deeper _).units+65<cLine;omega,hr.hd⟩
theorem zMz{P:Program}{w:World}{mg:Str→Option Value}{base:Heap}{N:List Str}{qual:Str}{scope:Scope}{f:Addr}{cd:Value}{A:Around}{outer:List Env}{s:Shared}{H:Hp}{E:XK}:Takes (cxE P w K mg base N qual scope f cd A outer s H E) (WE E):=takes_of rfl rfl rfl rfl
theorem zNw{P:Program}{w:World}{mg:Str→Option Value}{base:Heap}{N ps:List Str}{x qual:Str}{params:Arguments}{body:List Stmt}{scope:Scope}{dvs:List V}{kws:List (Str×V)}{f:Addr}{fd:FuncData}{k:Nat}{m:SMm}
  (F:FunD K x qual params body scope dvs kws f fd) (S:FnScope N ps scope) (hb:∀(cd:Value) (A:Around) (outer:List Env) (s:Shared) (H:Hp) (E:XK),Room k (A.deeper (envOfC qual scope s.heap.objs.size f cd))→SSs K cl (cxE P w K mg base N qual scope f cd A outer s H E) (WE E) m body) :
  FnOk P w K mg base (L2.CX P w) (k+1) f fd ps (spF K cl (runX ps.length N.length m)):=by
 refine F.ok S (fun vs H Q E h=>?_) (fun cd A outer s H vs Q E hr h=>⟨TSs' (cxE P w K mg base N qual scope f cd A outer s H E) body,TSs'.pss,?_⟩)
 ·obtain⟨ρ0,G0,st0,ws,R,r,a⟩:=h;unfold runX at a;split at a
  ·rename_i hl;rw[←r.length];exact hl
  ·exact a.elim
 ·obtain⟨ρ0,G0,st0,ws,R,r,a⟩:=h;unfold runX at a;split at a
  case isFalse=>exact a.elim
  rename_i hl
  have lv:vs.length=ps.length:=by rw[←r.length];exact hl
  refine(hb cd A outer s H E hr).run ⟨strip H,ρ0.length,G0⟩ ρ0 G0 (ws.map some++List.replicate (N.length-ps.length) none) st0 (L2.start N vs) H _ R ?_ ?_
  ·unfold L2.start;rw[lv];refine⟨by rw[Ju,Ju,Jc,Jc,hl,lv,Vm,Vm],fun i w' e=>?_⟩
   rcases zDT e with⟨h1,h2⟩|⟨h1,h2⟩
   ·rw[Jc]at h1;rw[Jd]at h2;cases q:ws[i]? with
    |none=>rw[q]at h2;cases h2
    |some u =>
     rw[q]at h2;have h2:some (some u)=some (some w'):=h2;cases h2;obtain⟨v,ev,rv⟩:=r.get q;refine⟨v,?_,rv⟩;rw[Je (by rw[Jc,lv,←hl];exact h1),Jd,ev];rfl
   ·rw[VO]at h2;split at h2<;>cases h2
  ·generalize m (ws.map some++List.replicate (N.length-ps.length) none) st0=res at a ⊢;cases res with
   |no=>exact a.elim
   |exc x σ st=>exact fun ρ' G' H' τ' cls d p s R' S' u=>a ρ' G' H' cls d p s R' u
   |ok fl σ st =>
    cases fl with
    |nx=>exact fun ρ' G' H' τ' p s R' S'=>a ρ' G' H' .non p s R' RP.non
    |rt u=>exact fun ρ' G' H' τ' p s R' S' v rv=>a ρ' G' H' v p s R' rv
    |bk=>exact a.elim
    |ct=>exact a.elim
structure Xk (P:Program) (w:World) (K:PySem.W.Frag) (mg:Str→Option Value) (base:Heap) (cl:Cls) (k:Nat) (f:Addr) (ps:List Str) (F:FM):Prop where
 ex:∃fd,FnOk P w K mg base (L2.CX P w) k f fd ps (spF K cl F)∧Binds K fd ps []
 kp:PySem.W.keepIn K (.ref f)=true
theorem Xk.of{P:Program}{w:World}{mg:Str→Option Value}{base:Heap}{N ps:List Str}{x qual:Str}{params:Arguments}{body:List Stmt}{scope:Scope}{f:Addr}{k:Nat}{m:SMm}
  (F:∃fd,FunD K x qual params body scope [] [] f fd) (S:FnScope N ps scope) (bd:∀(kV doc pm:Value) (an:Option Addr) (cdv ct:Value) (us:List Value),us.length=ps.length→bindArgs (PySem.W.fnOf x qual params body scope .none kV doc pm an cdv ct) ⟨us,[]⟩=pure (ps.zip us))
  (hb:∀(cd:Value) (A:Around) (outer:List Env) (s:Shared) (H:Hp) (E:XK),GX K (cxE P w K mg base N qual scope f cd A outer s H E)→Takes (cxE P w K mg base N qual scope f cd A outer s H E) (WE E)→Room k (A.deeper (envOfC qual scope s.heap.objs.size f cd))→SSs K cl (cxE P w K mg base N qual scope f cd A outer s H E) (WE E) m body) :
  Xk P w K mg base cl (k+1) f ps (runX ps.length N.length m):=by
 obtain⟨fd,F⟩:=F;exact⟨⟨fd,zNw F S fun cd A outer s H E hr=>hb cd A outer s H E (zOQ S hr) zMz hr,F.bindsN bd⟩,F.kp⟩
theorem Xk.mono{P:Program}{w:World}{mg:Str→Option Value}{base:Heap}{j k:Nat}{f:Addr}{ps:List Str}{F:FM} (h:Xk P w K mg base cl j f ps F) (q:j≤k):Xk P w K mg base cl k f ps F:=by
 obtain⟨⟨fd,h1,h2⟩,h3⟩:=h;exact⟨⟨fd,h1.mono q,h2⟩,h3⟩
end
end
def WI(Wx:WX):Prop:=∀c d σ σ' H,Wx c d σ H→Wx c d σ' H
theorem WI.e{E:XK}:WI (WE E):=fun _ _ _ _ _ h=>h
section
variable {K:PySem.W.Frag}{cl:Cls}{X:Cx}{Wx:WX}{E0:En}{ρ ρ':List Addr}{G G':Hp}{σ:Sg}{τ:L2.St}{st:List Cell}{H:Hp}{D:Ends}
variable {f:Addr}{fd:FuncData}{ps:List Str}{F:FM}{a:AM}{k:Nat}{x m:Str}{p pos apos:Pos}{e:Expr}{es:List Expr}
def zBm(F:FM) (a:AM):EM:=fun σ st=>(a σ st).bind fun ws st1=>zAM F ws st1
def zDw(c:Nat) (F:FM) (o:EM) (a:AM):EM:=fun σ st=>(o σ st).bind fun w st1=>if clsOf st1 w=some c then(a σ st1).bind fun ws st2=>zAM F (w::ws) st2 else .no
theorem zD7(h:Xk X.prog X.w X.K X.mg X.base cl k f ps F) (g:GX K X) (tk:Takes X Wx) (wi:WI Wx) (hr:Room k X.A) (hg:Gl X x) (hm:X.mg x=some (.ref f))
  (ha:SA K cl X Wx a (e::es)) (hdb:(x==("__debug__" : Str))=false) (he:starEach (e::es) X.env=(false,eval e X.env)::starEach es X.env:=by rfl) (hpl:(backTo pos (starEach es X.env)).any (·.1)=false:=by rfl) :
  SE K cl X Wx (zBm F a) (.Call (.Name x p) (e::es) [] pos):=by
 obtain⟨hK,_⟩:=g;subst hK;obtain⟨fd,h1,h2⟩:=h.ex;refine⟨fun E0 ρ G σ st τ H Q R S h'=>T.of (pe_call (E:=fun c d H'=>Wx c d τ H') h1 hr hg hm h.kp h2 .nil (bH tk fun c d σ H q=>wi c d τ σ H q) TA'.pa hdb he hpl) ?_⟩
 refine ha.run E0 ρ G σ st τ H _ R S (Aft.seq h' fun ws st1 ρ1 G1 H1 vs e1 p1 s1 R1 u1 h1=>?_)
 rw[Vt];exact zDG R1 u1 h1
theorem zGC{C:Addr}{ns:List Str}{c:Nat}{o:EM}{eo:Expr}{pl:Sem Bool} (h:Xk X.prog X.w X.K X.mg X.base cl k f ps F) (g:GX K X) (tk:Takes X Wx) (wi:WI Wx) (hr:Room k X.A) (hC:cl[c]?=some (C,ns)) (hn:ns.contains m=false) (kc:L2.Cls K C) (hmt:Meth K C m f)
  (ho:SE K cl X Wx o eo) (ha:SA K cl X Wx a (e::es))
  (hst:starEach (e::es) X.env=(false,eval e X.env)::starEach es X.env:=by rfl) (hpl:(backTo pos (starEach es X.env)).any (·.1)=false:=by rfl)
  (ht:eval (.Call (.Attribute eo m apos) (e::es) [] pos) X.env=(do
   let ov ←eval eo X.env
   standAt apos.atName
   let (f,first) ←holding [ov] (getMethod ov m pl)
   callWith pos f first (backTo pos (starEach (e::es) X.env)) (backToKw pos (keywordEach [] X.env))):=by rfl):SE K cl X Wx (zDw c F o a) (.Call (.Attribute eo m apos) (e::es) [] pos):=by
 obtain⟨hK,_⟩:=g;subst hK;obtain⟨fd,h1,h2⟩:=h.ex;have hn':m∉ns:=fun z=>by rw[List.contains_iff_mem.mpr z]at hn;cases hn
 refine⟨fun E0 ρ G σ st τ H Q R S h=>T.of (pe_meth (E:=fun c d H'=>Wx c d τ H') T.pe kc hmt h1 hr h2 .nil (bH tk fun c d σ H q=>wi c d τ σ H q) TA'.pa hst hpl ht) ?_⟩
 refine ho.run E0 ρ G σ st τ H _ R S (Aft.seq h fun w st1 ρ1 G1 H1 v e1 p1 s1 R1 u1 h1=>?_)
 split at h1
 case isFalse=>exact h1.elim
 rename_i ec
 obtain⟨b,dx,vs,rfl,hH⟩:=zIZ R1 u1 ec hC;refine⟨b,dx,_,rfl,hH,zGY hn',?_⟩;refine ha.run E0 ρ1 G1 σ st1 τ H1 _ R1 (S.mono p1 s1) (Aft.seq h1 fun ws st2 ρ2 G2 H2 us e2 p2 s2 R2 u2 h2=>?_)
 rw[Vt];exact zDG R2 (.cons (RW.mono p2 s2 u1) u2) h2
def zHI(c n:Nat) (F:FM) (ws:List W) (st:List Cell):Res W :=
 if(argRefs ws).Nodup then match getCells st (argRefs ws)with
  |some cs=>match F (.r 0::argIn 1 ws) (.ins c []::cs)with
   | .ok (.p .non) st'=>if((st'.drop 1).take (argRefs ws).length).all zAx=true∧1+(argRefs ws).length≤st'.length then match(st'[0]?:Option Cell)with
     |some (Cell.ins c' l)=>match pures l with
      |some m=>if c'=c∧m.length=n then .ok (.p (.obj c m)) (putCells (argRefs ws) (st'.drop 1) st)else .no
      |none=>.no
     |_=>.no
    else .no
   | .exc x st'=>if((st'.drop 1).take (argRefs ws).length).all zAx=true∧1+(argRefs ws).length≤st'.length then .exc x (putCells (argRefs ws) (st'.drop 1) st)else .no
   |_=>.no
  |none=>.no
 else .no
def zMe(c n:Nat) (F:FM) (a:AM):EM:=fun σ st=>(a σ st).bind fun ws st1=>zHI c n F ws st1
theorem zLI{c n:Nat}{C:Addr}{ns:List Str}{ws:List W}{vs:List V}{Q:VK}{Z:ZX} (hC:cl[c]?=some (C,ns)) (hn:ns.length=n) (R:(bs K cl E0).Rel ρ G st H) (r:RWs K cl ρ G ws vs) (h:Aft (bs K cl E0) (bs K cl E0).RW ρ G (zHI c n F ws st) Q Z)
  {x dx:Addr} (hx:H x=none) (hdx:H dx=none) (hne:dx≠x):spF K cl F (.ref x::vs) (upd (upd H dx (.own x)) x (.ins C dx [])) (fun v H2=>v=.non∧Q (.ref x) H2) Z:=by
 unfold zHI at h;split at h
 case isFalse=>exact h.elim
 rename_i nd
 split at h
 case h_2=>exact h.elim
 rename_i cs hc
 generalize hHm:upd (upd H dx (.own x)) x (.ins C dx [])=Hm
 have up:Sub H Hm:=fun a o e=>by
  rw[←hHm,JO (Yy e hx),JO (Yy e hdx)];exact e
 have nx:∀y∈[x],H y=none:=fun y m=>by
  have:y=x:=by simpa using m
  subst this;exact hx
 have lr:(rhos ρ (argRefs ws)).length=(argRefs ws).length:=Jc ..;refine⟨[x]++rhos ρ (argRefs ws),G,[.ins c []]++cs,.r 0::argIn 1 ws,Rel.enter R nd hc up nx (by simp) rfl (fun i d y e1 e2=>?_),.cons ⟨x,rfl,rfl⟩ (zEx 1 r fun j i e=>?_),?_⟩
 ·have hi:i=0:=by
   have:=(Jb.mp e1).1
   simpa using this
  subst hi;cases e1;cases e2;exact⟨C,dx,ns,[],hC,by rw[←hHm,JC];simp,J3 _,.nil⟩
 ·obtain⟨a,h1,h2⟩:=zGh R hc e;refine⟨a,h1,?_⟩;rw[Jq (by simp)]
  show(rhos ρ (argRefs ws))[1+j-1]?=some a;rw[show 1+j-1=j by omega];exact h2
 ·have e0:([.ins c []]++cs:List Cell)=.ins c []::cs:=rfl;rw[e0];generalize F (.r 0::argIn 1 ws) (.ins c []::cs)=res at h ⊢;split at h
  case h_3=>exact h.elim
  case h_2 =>
   rename_i xx st'
   intro ρ' G' H' cls d p s R' u
   by_cases hp:((st'.drop 1).take (argRefs ws).length).all zAx=true∧1+(argRefs ws).length≤st'.length
   case neg=>rw[Vh hp]at h;exact h.elim
   rw[JW hp]at h;exact h ρ G' H' cls d (Jh _) s (Rel.ret R nd hc up nx p s R' hp.1 (by simpa using hp.2)) u
  rename_i st'
  intro ρ' G' H' v p s R' u;cases u
  by_cases hp:((st'.drop 1).take (argRefs ws).length).all zAx=true∧1+(argRefs ws).length≤st'.length
  case neg=>rw[Vh hp]at h;exact h.elim
  rw[JW hp]at h;split at h
  case h_2=>exact h.elim
  rename_i c' l e1
  split at h
  case h_2=>exact h.elim
  rename_i m em
  split at h
  case isFalse=>exact h.elim
  rename_i hh
  obtain⟨rfl,hm⟩:=hh;have R2:=Rel.ret R nd hc up nx p s R' hp.1 (by simpa using hp.2)
  have px:ρ'[0]?=some x:=by
   obtain⟨tl,rfl⟩:=p;rfl
  obtain⟨C',dx',ns',us,k1,k2,k3,k4⟩:=R'.cell 0 _ x e1 px;rw[hC]at k1;cases k1;have gx:G' x=none:=(R'.sep 0 _ x e1 px).resolve_left (fun z=>by cases z)
  have q:=k4.pures em;have hl:ns.length=us.length:=by rw[←q.length,hm,hn]
  have R3:=Rel.adopt R2 k2 gx (fun i e=>by
   obtain⟨o,q⟩:=R.there e
   rw[hx]at q;cases q) (R.fresh0 hx)
  refine⟨rfl,h ρ (upd G' x _) H' (.ref x) (Jh _) (s.trans (Sub.new gx)) R3 ?_⟩;exact .obj hC JC hl (q.mono (Sub.new gx))
theorem makeXK{C:Addr}{ns:List Str}{c n:Nat} (h:Xk X.prog X.w X.K X.mg X.base cl k f ps F) (g:GX K X) (tk:Takes X Wx) (wi:WI Wx) (hr:Room (k+1) X.A) (hC:cl[c]?=some (C,ns)) (hn:ns.length=n) (M:Mk K C f) (hg:Gl X x) (hm:X.mg x=some (.ref C))
  (ha:SA K cl X Wx a (e::es)) (hdb:(x==("__debug__" : Str))=false) (he:starEach (e::es) X.env=(false,eval e X.env)::starEach es X.env:=by rfl) (hpl:(backTo pos (starEach es X.env)).any (·.1)=false:=by rfl) :
  SE K cl X Wx (zMe c n F a) (.Call (.Name x p) (e::es) [] pos):=by
 obtain⟨hK,_⟩:=g;subst hK;obtain⟨fd,h1,h2⟩:=h.ex;refine⟨fun E0 ρ G σ st τ H Q R S h=>T.of (pe_make (E:=fun c d H'=>Wx c d τ H') M h1 hr hg hm h2 .nil (bH tk fun c d σ H q=>wi c d τ σ H q) TA'.pa hdb he hpl) ?_⟩
 refine ha.run E0 ρ G σ st τ H _ R S (Aft.seq h fun ws st1 ρ1 G1 H1 vs e1 p1 s1 R1 u1 h1=>?_)
 intro y dx hy hdx hne;rw[Vt];exact zLI hC hn R1 u1 h1 hy hdx hne
end
section
open LamX
theorem zPF{H:Hp}{a:Addr}{u:HO} (h:Rd H a u) (nt:NT u):Rd (strip H) a u:=by
 rcases h with h|⟨o,h⟩
 ·exact .inl (strip_of h nt)
 ·exact .inr ⟨o,strip_of h fun _ z=>by cases z⟩
theorem zO3{K:PySem.W.Frag}{H:Hp}{a:Addr}{xs:List V} (h:SqL K H a xs):SqL K (strip H) a xs:=by
 rcases h with h|h
 ·exact .inl (zPF h fun _ z=>by cases z)
 ·exact .inr h
end
theorem zLO{P:Program}{w:World}{H:Hp}{h:Heap}{a:Addr}{oe:Obj} (hok:HOk P w H h) (e:H a=some (exq a oe)):h.get? a=some oe:=by
 have x:ObjOk P w H h a (.ext fun h=>h.get? a=some oe):=hok a _ e
 exact x.1
section
variable {X:Cx}{a:Addr}{oe:Obj}{cls:Value}{d:Option Addr}
theorem dec_str(T z:Str):decide (V.str T=V.str z)=(z==T):=by
 by_cases h:z=T
 ·subst h;simp
 ·rw[VB.mpr h];exact JM fun e=>h (V.str.inj e).symm
end
section
open LamX (CodeO ExtN TabB)
section
variable {K:PySem.W.Frag}{cl:Cls}{X:Cx}{Wx:WX}{E0:En}{ρ:List Addr}{G:Hp}{σ:Sg}{τ:L2.St}{st:List Cell}{H:Hp}
theorem zQx{a:Addr}{oe:Obj}:NT (exq a oe):=fun _ z=>by unfold exq at z;cases z
theorem exq_ok{P:Program}{w:World}{H:Hp}{h:Heap}{a:Addr}{oe:Obj} (e:h.get? a=some oe):ObjOk P w H h a (exq a oe):=⟨e,⟨oe,e⟩,fun _ _ p st=>st _ p⟩
end
end
section
open PySem.W (ksFn ksEnv)
theorem DefE.funD{K:PySem.W.Frag}{d:DefE} (e:fnE K (d.at_ K)=d.val) (c:d.okB K=true) (h:d.clo=[]):∃fd,FunD K d.name d.qual d.params d.body d.scope [] [] (d.at_ K) fd:=by
 obtain⟨oc,od,osl,clo,dV,kV,doc,pm,cdv,ct,an,k1,k2,k3,k4,k5,k6⟩:=DefE.ex e c;rw[h,Y3]at k2;subst k2;exact⟨_,⟨oc,od,dV,kV,doc,pm,an,cdv,ct,osl,rfl,k1,k4,k5,k6⟩,k3⟩
theorem SaysE.def_{fa:List He.Fa}{fn:List He.DefD}{ts:List He.Tab}{tf:List He.Defn}{ex:PySem.W.Frag→Bool}{es:List DefE}{w:World}{h:Heap}{K:PySem.W.Frag} (c:SaysE fa fn ts tf ex es w h K) (i:Nat){d:DefE} (hd:es[i]?=some d):fnE K (d.at_ K)=d.val∧d.okB K=true:=by
 have z:=congrArg (fun l=>l[i]?) c.e
 simp only[Jd,hd]at z;exact⟨Jk z,Jp.mp c.ok d (Ji hd)⟩
theorem zMi{K:PySem.W.Frag}{C:Addr} (h:oexB K C=true):OexC K C:=by
 unfold oexB at h;simp only[Js,Jz]at h;obtain⟨⟨⟨⟨h1,h2⟩,h3⟩,h4⟩,h5⟩:=h;refine⟨?_,YK h2,h3,h4,h5⟩;cases q:K.lookup C with
 |none=>rw[q]at h1;cases h1
 |some o =>
  rw[q]at h1;obtain⟨oc,od,dt,osl⟩:=o
  replace h1:oexD C oc dt osl.toList=true:=h1
  unfold oexD at h1;split at h1
  case h_2=>cases h1
  rename_i cd
  split at h1
  case h_2=>cases h1
  rename_i c bm k0 k1 k2 k3 n k5 hm hs
  simp only[Js,Jz,bx]at h1;obtain⟨⟨⟨⟨rfl,rfl⟩,g3⟩,g4⟩,g5⟩:=h1;obtain⟨c1,c2,c3,c4,c5,c6,c7,c8,c9,c10,c11⟩:=cd;dsimp only at hm g3 g4;subst hm g3 g4
  obtain rfl:osl = #[k0,k1,k2,k3,some (.builtin "ValueError.__new__"),k5]:=by
   obtain⟨l⟩:=osl;simp only at hs;rw[hs]
  exact⟨_,_,_,_,_,_,_,_,_,_,_,_,_,_,_,rfl,g5⟩
theorem zPq{K:PySem.W.Frag}{cc C:Addr} (h:zO6 K cc C=true):∃cl0 cd0 csl,K.lookup cc=some ⟨cl0,cd0,.cell (some (.ref C)),csl⟩:=by
 unfold zO6 at h;cases q:K.lookup cc with
 |none=>rw[q]at h;cases h
 |some o =>
  obtain⟨o1,o2,dt,o3⟩:=o;rw[q]at h
  replace h:zRj C dt=true:=h
  unfold zRj at h;split at h
  ·rw[JB h];exact⟨_,_,_,rfl⟩
  ·cases h
theorem zPe{K:PySem.W.Frag}{a:Addr}{z:Str} (h:zOu K a z=true):∃o1 o2 vs o3 tf,K.lookup a=some ⟨o1,o2,.fields vs,o3⟩∧vs[2]?=some (.str z tf):=by
 unfold zOu at h;cases q:K.lookup a with
 |none=>rw[q]at h;cases h
 |some o =>
  obtain⟨o1,o2,dt,o3⟩:=o;rw[q]at h
  replace h:fileD z dt=true:=h
  cases dt with
  |fields vs =>
   replace h:strIs z vs[2]?=true:=h
   cases e:vs[2]? with
   |none=>rw[e]at h;cases h
   |some v =>
    rw[e]at h;cases v with
    |str y t =>
     have e2:z=y:=eq_of_beq h;subst e2;exact⟨_,_,vs,_,t,rfl,e⟩
    |_=>cases h
  |_=>cases h
section
variable {P:Program}{w:World}{K:PySem.W.Frag}{mg:Str→Option Value}{base:Heap}{cl:Cls}{x z:Str}{g:Option Str}
theorem zLb(pf:FileOf P z) (h:excB K x z g=true){d:DefE} (hat:d.at_=fun K=>He.ma K (He.ga K x) "__init__") (hn:d.name = "__init__") (hclo:d.clo=[("__class__" : Str)]) (e:fnE K (d.at_ K)=d.val) (c:d.okB K=true) (hsup:mg "super" = none)
  (hpar:∃ar,(d.params.posonlyargs++d.params.args).head?=some ar∧ar.arg=("self" : Str)) :
  ∃(cc cda:Addr) (fd:FuncData),SayF P K mg (He.ga K x) (He.ma K (He.ga K x) "__init__") cc cda "__init__" d.qual d.params d.body d.scope fd∧∃kV doc pm an cdv ct,fd=ksFn "__init__" d.qual d.params d.body d.scope .none kV doc pm an cdv ct cc:=by
 unfold excB at h;simp only[Js,Jz]at h;obtain⟨⟨⟨⟨⟨⟨⟨⟨⟨⟨h1,h2⟩,h3⟩,h4⟩,h5⟩,h6⟩,h7⟩,h8⟩,h9⟩,h10⟩,h11⟩:=h;obtain⟨oc,od,osl,clo,dV,kV,doc,pm,cdv,ct,an,k1,k2,k3,k4,k5,k6⟩:=DefE.ex e c;rw[hclo]at k2;rw[hat]at k1 k3
 obtain⟨q,rfl,eq⟩:∃q:Str×Addr,clo=[q]∧q.1=("__class__" : Str):=by
  cases clo with
  |nil=>cases k2
  |cons q l =>
   cases l with
   |nil=>exact⟨q,rfl,by simpa using k2⟩
   |cons _ _=>simp at k2
 obtain⟨cn,cc⟩:=q;dsimp only at eq;subst eq;have k1:K.lookup (He.ma K (He.ga K x) "__init__")=_:=k1;unfold cloOf at h7;rw[k1]at h7;obtain⟨cda,rfl⟩:=He.codeIn_ref k4;have h7:(zO6 K cc (He.ga K x)&&zOu K cda z)=true:=h7;rw[Js]at h7;obtain⟨h13,h12⟩:=h7
 obtain rfl:dV=.none:=by
  rcases k5 with⟨_,q⟩|⟨q,_⟩
  ·exact q
  ·exact absurd rfl q
 refine⟨cc,cda,_,⟨zMi h1,⟨oc,od,.none,kV,doc,pm,an,ct,osl,rfl,?_⟩,k4,?_,hpar,?_,pf.top,hsup,YK h8,h9,h10,YK h11⟩,kV,doc,pm,an,.ref cda,ct,rfl⟩
 ·rw[k1,hn]
 ·exact zPq h13
 ·obtain⟨o1,o2,vs,o3,tf,e1,e2⟩:=zPe h12;exact⟨o1,o2,vs,o3,z,tf,e1,e2,pf.file⟩
end
end
section
open PySem.W (ksFn ksEnv)
section
variable {P:Program}{w:World}{K:PySem.W.Frag}{mg:Str→Option Value}{base:Heap}{cl:Cls}{x z:Str}{g:Option Str}
theorem zHP(h:excB K x z g=true):OexC K (He.ga K x)∧XfC K (He.ga K x)∧PySem.W.findIn K (.ref (He.ga K x)) "tag" = some none∧(∀f,g=some f→(f==("tag" : Str))=false∧PySem.W.findIn K (.ref (He.ga K x)) f=some none) ∧
  PySem.W.findIn K (.ref (He.ga K x)) "__init__" = some (some (.ref (He.ma K (He.ga K x) "__init__")))∧PySem.W.typeIn K (.ref (He.ma K (He.ga K x) "__init__"))=some (.type "function"):=by
 unfold excB at h;simp only[Js,Jz]at h;obtain⟨⟨⟨⟨⟨⟨⟨⟨⟨⟨h1,h2⟩,h3⟩,h4⟩,h5⟩,h6⟩,h7⟩,h8⟩,h9⟩,h10⟩,h11⟩:=h;refine⟨zMi h1,xfB_ok h2,YK h3,fun f hf=>?_,YK h5,h6⟩
 subst hf;have h4:(He.eqO (PySem.W.findIn K (.ref (He.ga K x)) f) (some none) && !(f==("tag" : Str)))=true:=h4;rw[Js,bx]at h4;exact⟨h4.2,YK h4.1⟩
abbrev zCk(m:Str) (j:Nat) (p0 p1 p2 p3 p4:Pos):Expr:=.Call (.Attribute (.Call (.Name "super" p0) [] [] p1) "__init__" p2) [.Constant (.str m) j p3] [] p4
def zQn(qual:Str) (scope:Scope) (m:Str) (j:Nat) (p0 p1 p2 p3 p4 p5:Pos):Prop:=∀(f cda cc:Addr),∃pl:Sem Bool,∀L,eval (zCk m j p0 p1 p2 p3 p4) (ksEnv qual scope L f (.ref cda) cc)=(do
   let ov ←attributeBase (.Call (.Name "super" p0) [] [] p1) "__init__" (ksEnv qual scope L f (.ref cda) cc) (eval (.Call (.Name "super" p0) [] [] p1) (ksEnv qual scope L f (.ref cda) cc))
   standAt p2.atName
   let (f',first) ←holding [ov] (getMethod ov "__init__" pl)
   callWith p4 f' first (backTo p4 (starEach [.Constant (.str m) j p3] (ksEnv qual scope L f (.ref cda) cc))) []) ∧
  interactive (ksEnv qual scope L f (.ref cda) cc)=false∧swapsWith (zCk m j p0 p1 p2 p3 p4) none p5.line (ksEnv qual scope L f (.ref cda) cc)=pure false
theorem zNI{c j j2:Nat}{T m:Str}{p0 p1 p2 p3 p4 p5 q1 q2 q3 q4:Pos}{qual:Str}{params:Arguments}{scope:Scope} (pf:FileOf P z) (h:excB K x z none=true) (hsup:mg "super" = none) (hC:cl[c]?=some (He.ga K x,[("tag" : Str)]))
  (dd:(⟨fun K=>He.ma K (He.ga K x) "__init__", "__init__",qual,params,[.Expr (zCk m j p0 p1 p2 p3 p4) p5,.Assign [.Attribute (.Name "self" q1) "tag" q2] (.Constant (.str T) j2 q3) q4],scope,[("__class__" : Str)]⟩:DefE).okB K=true)
  (de:fnE K (He.ma K (He.ga K x) "__init__")=(⟨fun K=>He.ma K (He.ga K x) "__init__", "__init__",qual,params,[.Expr (zCk m j p0 p1 p2 p3 p4) p5,.Assign [.Attribute (.Name "self" q1) "tag" q2] (.Constant (.str T) j2 q3) q4],scope,[("__class__" : Str)]⟩:DefE).val)
  (hpar:∃ar,(params.posonlyargs++params.args).head?=some ar∧ar.arg=("self" : Str)) (S:zLz ["self"] scope) (up:zQn qual scope m j p0 p1 p2 p3 p4 p5)
  (bd:∀(kV doc pm:Value) (an:Option Addr) (cdv ct:Value) (cc:Addr) (us:List Value),us.length=1→bindArgs (ksFn "__init__" qual params [.Expr (zCk m j p0 p1 p2 p3 p4) p5,.Assign [.Attribute (.Name "self" q1) "tag" q2] (.Constant (.str T) j2 q3) q4] scope .none kV doc pm an cdv ct cc) ⟨us,[]⟩=pure ([("self" : Str)].zip us))
  (hs:∀X:Cx,swapsWith (.Constant (.str T) j2 q3) (some (.Attribute (.Name "self" q1) "tag" q2)) q4.line X.env=pure false) :
  Exc0 P w K mg base cl 1 c (He.ga K x) T:=by
 obtain⟨cc,cda,fd,D,kV,doc,pm,an,cdv,ct,rfl⟩:=zLb (mg:=mg) pf h rfl rfl rfl de dd hsup hpar;obtain⟨e1,e2,e3,e4,e5,e6⟩:=zHP h;obtain⟨pl,hup⟩:=up (He.ma K (He.ga K x) "__init__") cda cc;refine⟨hC,e1,e3,_,_,e5,e6,zQf (k:=0) (pl:=pl) rfl D S (fun L=>(hup L).1) (fun L=>(hup L).2.1) (fun L=>(hup L).2.2) (fun A outer s H=>?_),.all fun us hl=>bd kV doc pm an cdv ct cc us hl⟩
 exact pss_one (ps_ost (pe_var (i:=0) rfl (.inl (S.par _ Jg)) ⋯ ⋯) pe_str (hs _))
theorem zHq{c j j2:Nat}{T m f pn:Str}{p0 p1 p2 p3 p4 p5 q1 q2 q3 q4 q5 q6 q7 q8:Pos}{qual:Str}{params:Arguments}{scope:Scope} (pf:FileOf P z) (h:excB K x z (some f)=true) (hsup:mg "super" = none) (hC:cl[c]?=some (He.ga K x,[f,("tag" : Str)]))
  (dd:(⟨fun K=>He.ma K (He.ga K x) "__init__", "__init__",qual,params,[.Expr (zCk m j p0 p1 p2 p3 p4) p5,.Assign [.Attribute (.Name "self" q1) "tag" q2] (.Constant (.str T) j2 q3) q4,.Assign [.Attribute (.Name "self" q5) f q6] (.Name pn q7) q8],scope,[("__class__" : Str)]⟩:DefE).okB K=true)
  (de:fnE K (He.ma K (He.ga K x) "__init__")=(⟨fun K=>He.ma K (He.ga K x) "__init__", "__init__",qual,params,[.Expr (zCk m j p0 p1 p2 p3 p4) p5,.Assign [.Attribute (.Name "self" q1) "tag" q2] (.Constant (.str T) j2 q3) q4,.Assign [.Attribute (.Name "self" q5) f q6] (.Name pn q7) q8],scope,[("__class__" : Str)]⟩:DefE).val)
  (hpar:∃ar,(params.posonlyargs++params.args).head?=some ar∧ar.arg=("self" : Str)) (S:zLz ["self",pn] scope) (up:zQn qual scope m j p0 p1 p2 p3 p4 p5) (d1:(pn==("__debug__" : Str))=false) (d2:(pn==("__classdict__" : Str))=false)
  (bd:∀(kV doc pm:Value) (an:Option Addr) (cdv ct:Value) (cc:Addr) (us:List Value),us.length=2→bindArgs (ksFn "__init__" qual params [.Expr (zCk m j p0 p1 p2 p3 p4) p5,.Assign [.Attribute (.Name "self" q1) "tag" q2] (.Constant (.str T) j2 q3) q4,.Assign [.Attribute (.Name "self" q5) f q6] (.Name pn q7) q8] scope .none kV doc pm an cdv ct cc) ⟨us,[]⟩=pure ([("self" : Str),pn].zip us))
  (hs:∀X:Cx,swapsWith (.Constant (.str T) j2 q3) (some (.Attribute (.Name "self" q1) "tag" q2)) q4.line X.env=pure false) (hs2:∀X:Cx,swapsWith (.Name pn q7) (some (.Attribute (.Name "self" q5) f q6)) q8.line X.env=pure false) :
  Exc1 P w K mg base cl 1 c (He.ga K x) T f pn:=by
 obtain⟨cc,cda,fd,D,kV,doc,pm,an,cdv,ct,rfl⟩:=zLb (mg:=mg) pf h rfl rfl rfl de dd hsup hpar;obtain⟨e1,e2,e3,e4,e5,e6⟩:=zHP h;obtain⟨pl,hup⟩:=up (He.ma K (He.ga K x) "__init__") cda cc;refine⟨hC,e1,e3,(e4 f rfl).2,_,_,e5,e6,zQf (k:=0) (pl:=pl) rfl D S (fun L=>(hup L).1) (fun L=>(hup L).2.1) (fun L=>(hup L).2.2) (fun A outer s H=>?_),.all fun us hl=>bd kV doc pm an cdv ct cc us hl⟩
 have v0:∀p,PE (ccx P w K mg base ["self",pn] qual scope (He.ma K (He.ga K x) "__init__") cc (.ref cda) A outer s H) (.Name "self" p) (tVar 0):=fun p=>pe_var (i:=0) rfl (.inl (S.par _ Jg)) ⋯ ⋯
 have v1:∀p,PE (ccx P w K mg base ["self",pn] qual scope (He.ma K (He.ga K x) "__init__") cc (.ref cda) A outer s H) (.Name pn p) (tVar 1):=fun p=>pe_var (i:=1) rfl (.inl (S.par _ (Jf _ Jg))) d1 d2
 exact pss_cons (ps_ost (v0 _) pe_str (hs _)) (pss_one (ps_ost (v0 _) (v1 _) (hs2 _)))
end
section
variable {K:PySem.W.Frag}{cl:Cls}{X:Cx}{Wx:WX}
theorem Xk.zero{P:Program}{w:World}{mg:Str→Option Value}{base:Heap}{N ps:List Str}{x qual:Str}{params:Arguments}{body:List Stmt}{scope:Scope}{f:Addr}{F':FM} (h:∀ws st,F' ws st=.no)
  (F:∃fd,FunD K x qual params body scope [] [] f fd) (bd:∀(kV doc pm:Value) (an:Option Addr) (cdv ct:Value) (us:List Value),us.length=ps.length→bindArgs (PySem.W.fnOf x qual params body scope .none kV doc pm an cdv ct) ⟨us,[]⟩=pure (ps.zip us)):Xk P w K mg base cl 0 f ps F':=by
 obtain⟨fd,F⟩:=F;refine⟨⟨fd,⟨fun vs H Q E q=>?_,fun A outer s H args us vs Q E hr he hb hv q=>?_⟩,F.bindsN bd⟩,F.kp⟩
 ·obtain⟨ρ0,G0,st0,ws,R,r,a⟩:=q;rw[h]at a;exact a.elim
 ·obtain⟨ρ0,G0,st0,ws,R,r,a⟩:=q;rw[h]at a;exact a.elim
theorem tk0:Takes X WF:=fun _ _ x=>by
 obtain⟨_,_,_,_,_,_,_,_,_,_,_,_,_,_,_,_,z⟩:=x;exact z.elim
theorem wi0:WI WF:=fun _ _ _ _ _ h=>h
theorem SE.weak{m:EM}{e:Expr} (h:SE K cl X WF m e):SE K cl X Wx (fun σ st=>(m σ st).nox) e:=by
 refine⟨fun E0 ρ G σ st τ H Q R S q=>h.run E0 ρ G σ st τ H Q R S ?_⟩
 have q:Aft (bs K cl E0) (bs K cl E0).RW ρ G (m σ st).nox Q _:=q;exact Aft.noxZ q
structure Pk (P:Program) (w:World) (K:PySem.W.Frag) (mg:Str→Option Value) (base:Heap) (cl:Cls) (k:Nat) (C:Addr) (f:Str) (F:FM):Prop where
 ex:∃p g fd ps,PropOf K C f p g∧FnOk P w K mg base CX0 k g fd ps (spF K cl F)∧Binds K fd ps []
def zPh(c:Nat) (F:FM) (o:EM):EM:=fun σ st=>(o σ st).bind fun w st1=>if clsOf st1 w=some c then(zAM F [w] st1).nox else .no
theorem propK{C:Addr}{ns:List Str}{c k:Nat}{F:FM}{o:EM}{eo:Expr}{f:Str}{pos:Pos} (h:Pk X.prog X.w X.K X.mg X.base cl k C f F) (g:GX K X) (hr:Room (k+1) X.A) (hC:cl[c]?=some (C,ns)) (kc:L2.Cls K C) (ho:SE K cl X Wx o eo) (hb:attributeBase eo f X.env (eval eo X.env)=eval eo X.env) :
  SE K cl X Wx (zPh c F o) (.Attribute eo f pos):=by
 obtain⟨hK,_⟩:=g;subst hK;obtain⟨p,gf,fd,ps,h1,h2,h3⟩:=h.ex;refine⟨fun E0 ρ G σ st τ H Q R S q=>T.of (pe_prop (E:=L2.E0) T.pe kc h1 h2 hr h3 .nil (fun _ _ _ _ _ _ _ z=>z.elim) hb) ?_⟩
 refine ho.run E0 ρ G σ st τ H _ R S (Aft.seq q fun w st1 ρ1 G1 H1 v e1 p1 s1 R1 u1 h1=>?_)
 split at h1
 case isFalse=>exact h1.elim
 rename_i ec
 obtain⟨b,dx,vs,rfl,hH⟩:=zIZ R1 u1 ec hC;exact⟨b,dx,_,rfl,hH,zDG R1 (.cons u1 .nil) (ws:=[w]) (vs:=[.ref b]) (Aft.noxZ h1)⟩
end
theorem zPc{K:PySem.W.Frag}{C:Addr}{f:Str} (h:zRx K C f=true):PropOf K C f (zBd K C f).1 (zBd K C f).2:=by
 unfold zRx at h;simp only[Js,Jz]at h;obtain⟨⟨⟨h1,h2⟩,h3⟩,h4⟩:=h;refine⟨YK h1,YK h2,h3,?_⟩;cases q:PySem.W.recIn K (zBd K C f).1 "property" with
 |none=>rw[q]at h4;cases h4
 |some l =>
  rw[q]at h4;cases l with
  |nil=>cases h4
  |cons u r =>
   cases u with
   |ref g =>
    have e:g=(zBd K C f).2:=JB h4;rw[e];exact⟨_,rfl⟩
   |_=>cases h4
theorem Pk.of{P:Program}{w:World}{K:PySem.W.Frag}{mg:Str→Option Value}{base:Heap}{cl:Cls}{k:Nat}{C:Addr}{f:Str}{F:FM}{ps:List Str} (h:PropOf K C f (zBd K C f).1 (zBd K C f).2) (hF:Fk P w K mg base cl k (zBd K C f).2 ps F):Pk P w K mg base cl k C f F:=by
 obtain⟨fd,h1,h2⟩:=hF.ex;exact⟨_,_,fd,ps,h,h1,h2⟩
end
section
variable {X:Cx}{C f:Addr}{fd:FuncData}{ps:List Str}{sp:Sp}{k:Nat}
theorem zSb{pins:List (Addr×Obj)}{σ:L2.St}{H:Hp}{s:Shared}{Q:VK}{E':Value→Shared→Prop}{us:List Value}{vs:List V} (Fk:FnOk X.prog X.w X.K X.mg X.base CX0 k f fd ps sp) (hr:Room (k+1) X.A) (hb:Binds X.K fd ps []) (I:Inv X pins σ H s) (r:Vals vs us) (h:sp vs H Q L2.E0) :
  wpAny (model X.prog X.w) X.A.in1 (call (.ref f) us) (EP X pins σ Q) E' s:=by
 have hl:(us++[]).length=ps.length:=by rw[Vt,←r.length];exact Fk.len _ _ _ _ h
 have b:=hb s us I.kIn hl;rw[Vt]at b;refine ja (YA (Fk.run X.A.in1 X.stack s H ⟨us,[]⟩ us vs Q L2.E0 hr.in1 I.env0.in1 b r h) fun r s' hq=>?_)
 cases r with
 |error er=>exact hq.elim
 |ok fl =>
  cases fl with
  |ret u=>exact I.after hq
  |next=>exact False.elim hq
  |brk=>exact False.elim hq
  |cont=>exact False.elim hq
end
section
variable {K:PySem.W.Frag}{cl:Cls}{X:Cx}{Wx:WX}{E0:En}{ρ ρ':List Addr}{G G':Hp}{σ:Sg}{τ:L2.St}{st:List Cell}{H:Hp}{D:Ends}
def rOwn1(C:Addr) (sp:Sp) (T:V→Prop):List V→Hp→VK→Prop:=fun xs H Q=>∃a dx fs,xs=[.ref a]∧H a=some (.ins C dx fs)∧sp [.ref a] H (fun v H'=>T v∧Q v H') L2.E0
section
variable {C f:Addr}{fd:FuncData}{ps:List Str}{sp:Sp}{k:Nat}
theorem zNC(hmt:Meth X.K C "__len__" f) (Fk:FnOk X.prog X.w X.K X.mg X.base CX0 k f fd ps sp) (hr:Room (k+1) X.A) (hb:L2.Binds X.K fd ps []):CallR X (.builtin "len") (rOwn1 C sp fun v=>∃n:Nat,n<2^63∧v=.int n):=by
 intro pins s σ H xs us Q I r h;obtain⟨a,dx,fs,rfl,eH,h⟩:=h
 obtain rfl:us=[.ref a]:=by
  cases r with
  |cons r1 r2 =>
   cases r2;have r1:_=Value.ref a:=r1;rw[r1]
 obtain⟨mA,O,_⟩:=ins_get I.hok eH;obtain⟨od,J,_⟩:=O.look;obtain⟨m,hF⟩:=I.fr;refine PySem.W.len_K hF I.ok.mod.kin J hmt.at_ hmt.fn ?_
 refine b8 (zSb (us:=[.ref a]) (vs:=[.ref a]) (E':=X.xe) Fk hr hb I (.cons rfl .nil) h) (fun w s' z=>?_) fun _ _ z=>z
 obtain⟨v,H',I',rv,⟨n,hn,ez⟩,q⟩:=z;subst ez;obtain⟨t,rfl⟩:=rv;exact⟨⟨∅,∅⟩,.int n,H',I'.tok _,⟨_,rfl⟩,q⟩
end
def zLA:Res W→Res W
 | .ok (.p (.int i)) st=>if 0≤i∧i≤1000000 then .ok (.p (.int i)) st else .no
 |_=>.no
def zEz(c:Nat) (F:FM) (ws:List W) (st:List Cell):Res W:=match ws with
 |[w]=>if clsOf st w=some c then zLA (zAM F [w] st)else .no
 |_=>.no
theorem zP8{c:Nat}{C:Addr}{ns:List Str}{F:FM} (hC:cl[c]?=some (C,ns)):zGK K cl (zEz c F) (rOwn1 C (spF K cl F) fun v=>∃n:Nat,n<2^63∧v=.int n):=by
 intro E0 ρ G st H ws vs Q Z R rs h;unfold zEz at h;split at h
 case h_2=>exact h.elim
 rename_i w
 split at h
 case isFalse=>exact h.elim
 rename_i hh
 obtain⟨v,rfl,rv⟩:=rs.one;obtain⟨a,dx,us,rfl,hH⟩:=zIZ R rv hh hC;refine⟨a,dx,_,rfl,hH,zDG R (.cons rv .nil) (ws:=[w]) (vs:=[.ref a]) ?_⟩;unfold zLA at h;split at h
 ·rename_i i st1 e
  rw[e];split at h
  case isFalse=>exact h.elim
  rename_i hi
  intro ρ' G' H' b p s R' u;cases u;exact⟨⟨i.toNat,∅,by rw[Yw hi.1]⟩,h ρ' G' H' _ p s R' (RP.int _)⟩
 ·exact h.elim
section
variable {C f:Addr}{ns ps:List Str}{c k:Nat}{F:FM}{a:EM}{pa:Expr}{p pos:Pos}
theorem zGx(h:Fk X.prog X.w X.K X.mg X.base cl k f ps F) (g:GX K X) (hr:Room (k+1) X.A) (hC:cl[c]?=some (C,ns)) (hmt:Meth K C "__len__" f) (hg:Gl X "len") (hm:X.mg "len" = none) (ha:SE K cl X Wx a pa)
  (he:starEach [pa] X.env=(false,eval pa X.env)::starEach [] X.env:=by rfl) (hpl:(backTo pos (starEach [] X.env)).any (·.1)=false:=by rfl):SE K cl X Wx (zAH (zEz c F) %[a|0]) (.Call (.Name "len" p) [pa] [] pos):=by
 obtain⟨hK,hc,hN,hu,hh⟩:=g;subst hK;obtain⟨fd,h1,h2⟩:=h.ex;exact zAJ (zNC hmt h1 hr h2) (zP8 hC) hg hm rfl (zAA ha zAC he) (!0) ⋯ he hpl
end
end
def noxF(F:FM):FM:=fun ws st=>(F ws st).nox
theorem fn_nox{P:Program}{w:World}{K:PySem.W.Frag}{mg:Str→Option Value}{base:Heap}{cl:Cls}{k:Nat}{f:Addr}{fd:FuncData}{ps:List Str}{F:FM} (h:FnOk P w K mg base (L2.CX P w) k f fd ps (spF K cl F)):FnOk P w K mg base CX0 k f fd ps (spF K cl (noxF F)):=by
 have cut:∀vs H Q E,spF K cl (noxF F) vs H Q E→spF K cl F vs H Q (fun _ _ _=>False):=fun vs H Q E ⟨ρ0,G0,st0,ws,R,r,a⟩=>⟨ρ0,G0,st0,ws,R,r,Aft.noxZ (B:=⟨K,cl,⟨strip H,ρ0.length,G0⟩⟩) (Z:=E) a⟩
 refine⟨fun vs H Q E q=>h.len _ _ _ _ (cut vs H Q E q),fun A outer s H args us vs Q E hr he hb hv q=>?_⟩
 refine YA (h.run A outer s H args us vs Q (fun _ _ _=>False) hr he hb hv (cut vs H Q E q)) fun r s' hq=>?_
 cases r with
 |error e =>
  obtain⟨_,_,_,_,_,_,_,_,_,_,_,_,z⟩:=hq;exact z.elim
 |ok fl =>
  cases fl with
  |ret u=>exact hq
  |next=>exact hq
  |brk=>exact hq
  |cont=>exact hq
structure Xk2 (Wk:FuncData→Prop) (P:Program) (w:World) (K:PySem.W.Frag) (mg:Str→Option Value) (base:Heap) (cl:Cls) (k:Nat) (f:Addr) (ps:List Str) (F:FM):Prop where
 ex:∃fd,FnOk P w K mg base (L2.CX P w) k f fd ps (spF K cl F)∧L2.Binds K fd ps []∧Wk fd
 kp:PySem.W.keepIn K (.ref f)=true
section
variable {K:PySem.W.Frag}{cl:Cls}{Wk:FuncData→Prop}{P:Program}{w:World}{mg:Str→Option Value}{base:Heap}{k:Nat}{f:Addr}{ps:List Str}{F:FM}
theorem Xk2.xk(h:Xk2 Wk P w K mg base cl k f ps F):Xk P w K mg base cl k f ps F:=⟨by obtain⟨fd,h1,h2,_⟩:=h.ex;exact⟨fd,h1,h2⟩,h.kp⟩
theorem Xk2.fk2(h:Xk2 Wk P w K mg base cl k f ps F):Fk2 Wk P w K mg base cl k f ps (noxF F):=⟨by obtain⟨fd,h1,h2,h3⟩:=h.ex;exact⟨fd,fn_nox h1,h2,h3⟩,h.kp⟩
theorem Xk2.of{N:List Str}{x qual:Str}{params:Arguments}{body:List Stmt}{scope:Scope}{m:SMm}
  (F:∃fd,FunD K x qual params body scope [] [] f fd) (S:FnScope N ps scope) (bd:∀(kV doc pm:Value) (an:Option Addr) (cdv ct:Value) (us:List Value),us.length=ps.length→bindArgs (PySem.W.fnOf x qual params body scope .none kV doc pm an cdv ct) ⟨us,[]⟩=pure (ps.zip us))
  (hw:∀fd,FunD K x qual params body scope [] [] f fd→Wk fd)
  (hb:∀(cd:Value) (A:Around) (outer:List Env) (s:Shared) (H:Hp) (E:XK),GX K (cxE P w K mg base N qual scope f cd A outer s H E)→Takes (cxE P w K mg base N qual scope f cd A outer s H E) (WE E)→Room k (A.deeper (envOfC qual scope s.heap.objs.size f cd))→SSs K cl (cxE P w K mg base N qual scope f cd A outer s H E) (WE E) m body) :
  Xk2 Wk P w K mg base cl (k+1) f ps (runX ps.length N.length m):=by
 obtain⟨fd,F⟩:=F;exact⟨⟨fd,zNw F S fun cd A outer s H E hr=>hb cd A outer s H E (zOQ S hr) zMz hr,F.bindsN bd,hw fd F⟩,F.kp⟩
end
end Y
namespace TS
theorem code_lex{B:Int}:∀(ns ms:List Int),ns.length=ms.length→Bd B ns→Bd B ms→PyProof.Rows.lexLt PyProof.Rows.itemOrd (ns.map Sum.inl) (ms.map Sum.inl)=false→code B ms≤code B ns
 |[],[],_,_,_,_=>jh _
 |[],_::_,h,_,_,_=>by simp at h
 |_::_,[],h,_,_,_=>by simp at h
 |a::ns,b::ms,h,h1,h2,q=>by
  have hl:ns.length=ms.length:=by simpa using h
  rw[Jl,Jl,PyProof.Rows.lex_cons]at q;simp only[Bool.or_eq_false_iff,YL]at q;obtain⟨q1,q2⟩:=q
  have q1:¬a<b:=by
   have z:decide (a<b)=false:=q1;exact of_decide_eq_false z
  rcases q2 with q2|q2
  ·have z:(!decide (b<a))=false:=q2;have z:b<a:=by simpa using z
   have:=code_lt (B:=B) (r:=ms) (q:=ns) hl.symm h2.tail h1.tail z
   omega
  ·have r:=code_lex ns ms hl h1.tail h2.tail q2
   by_cases e:b<a
   ·have:=code_lt (B:=B) (r:=ms) (q:=ns) hl.symm h2.tail h1.tail e
    omega
   ·obtain rfl:a=b:=by omega
    have:=code_same (B:=B) (d:=a) (r:=ns) (q:=ms) hl
    omega
theorem zQA{xs:List Value}{ns:List Int} (h:IntsAre xs ns):∀i,PyProof.Rows.tupItems (fun _=>false) i xs=some (ns.map Sum.inl):=by
 induction h with
 |nil=>intro i;rfl
 |cons n t h ih=>intro i;simp[PyProof.Rows.tupItems,ih]
theorem key_of{h:Heap}{v:Value}{ns:List Int} (t:TupInts h v ns):PyProof.Rows.G.tupKeyC h (fun _=>false) v=some (ns.map Sum.inl):=by
 obtain⟨a,xs,rfl,⟨o,ho,hc,n,hd⟩,i⟩:=t;have e:=zQA i 0;unfold PyProof.Rows.G.tupKeyC PyProof.Rows.tupKey
 have h1:PyProof.Rows.G.isTupObj h (.ref a)=true:=by
  unfold PyProof.Rows.G.isTupObj;simp only[ho,hc];rfl
 rw[JW h1];simp only[ho,hd];exact e
theorem zJq{h:Heap}{d:Nat}{B:Int} (hd:1≤d):∀vs:List Value,TupsOk h d B vs→∃fs,PyProof.Rows.TupsOf h (fun _=>false) vs fs
 |[],_=>⟨[],.nil⟩
 |v::vs,x=>by
  obtain⟨fs,r⟩:=zJq hd vs fun u hu=>x u (Jf _ hu)
  obtain⟨ns,⟨a,xs,rfl,⟨o,ho,hc,n,hdat⟩,i⟩,hl,_⟩:=x v Jg;cases hx:xs.toList with
  |nil=>rw[hx]at i;cases i;simp at hl;omega
  |cons f r' =>
   rw[hx]at i;cases i with
   |cons k t i =>
    have e0:xs[0]?=some (.int k t):=by rw[←J6,hx];rfl
    exact⟨.int k t::fs,.cons ⟨a,o,xs,n,rfl,ho,hc,hdat,e0,fun _=>⟨k,t,rfl⟩,fun z=>by cases z⟩ r⟩
section
variable {prog:Program}{w:World}{A:Around}{E:Value→Shared→Prop}{s:Shared}
theorem sorted_tupsL{l:Addr}{vs:List Value}{d:Nat}{B:Int}{Q:Value→Shared→Prop} (hl:s.heap.IsList l vs.toArray) (hL:vs.length≤sizeLine) (hd:1≤d) (x:TupsOk s.heap d B vs)
  (h:∀out:Array Value,out.toList.Perm vs→out.toList.Pairwise (fun u v=>code B (intsOf s.heap u)≤code B (intsOf s.heap v))→Q (.ref (s.heap.objs.size+1)) { s with heap:=sortedAll s.heap vs out }) :
  wpAny (model prog w) A (call (.builtin "sorted") [.ref l]) Q E s:=by
 obtain⟨fs,ht⟩:=zJq hd vs x;refine PyProof.Rows.G.sorted_tups (shape:=fun _=>false) hl ht (fun v hv=>by obtain⟨ns,t,_⟩:=x v hv;exact⟨_,key_of t⟩) hL fun st' p1 p2 p3=>?_
 have q1:(PyProof.Rows.arrOf st').toList.Perm (vs.zip vs):=by rw[←Y4];exact p1.toList
 have mem:∀p∈(PyProof.Rows.arrOf st').toList,p.1=p.2∧p.1∈vs:=fun p hp=>bp (q1.mem_iff.mp hp)
 refine h _ ?_ ?_
 ·rw[YR]
  have:=q1.map (·.2)
  rw[List.map_snd_zip (JH _)]at this;exact this
 ·rw[YR,J4,V0];intro i j hi hj hij;have hsz:(PyProof.Rows.arrOf st').size=(PyProof.Rows.pairsOf vs).size:=p1.size_eq;have hk:=p2 i j (Nat.le_of_lt hij) (by rw[←hsz];simpa using hj)
  have kk:∀m (hm:m<(PyProof.Rows.arrOf st').toList.length),∃ns,TupInts s.heap ((PyProof.Rows.arrOf st').toList[m]).2 ns∧ns.length=d∧Bd B ns∧PyProof.Rows.KK (PyProof.Rows.G.tupKindC s.heap fun _=>false) (PyProof.Rows.arrOf st') m=ns.map Sum.inl:=by
   intro m hm;obtain⟨e,hv⟩:=mem _ (JL hm);obtain⟨ns,t,l1,l2⟩:=x _ hv;refine⟨ns,e▸t,l1,l2,?_⟩;unfold PyProof.Rows.KK;rw[show(PyProof.Rows.arrOf st')[m]?=some ((PyProof.Rows.arrOf st').toList[m]) by rw[←J6,Ja hm]]
   show(PyProof.Rows.G.tupKeyC s.heap (fun _=>false) _).getD []=_
   rw[key_of t];rfl
  obtain⟨ns,t1,a1,b1,k1⟩:=kk i hi;obtain⟨ms,t2,a2,b2,k2⟩:=kk j hj;rw[k1,k2]at hk;rw[t1.ints,t2.ints];exact code_lex ms ns ∅ b2 b1 hk
end
section
variable {prog:Program}{w:World}{A:Around}{E:Value→Shared→Prop}{s:Shared}
theorem zIW{l:Addr}{vs:List Value}{Q:List Value→Shared→Prop} (hl:IsTup s.heap l vs.toArray)
  (h:Q vs { s with heap:=(s.heap.push (seqObj "list" #[] 0)).update s.heap.objs.size (Obj.mapSeq (· ++ vs.toArray)) }) (hsz:vs.length≤sizeLine:=by size_fits) :
  wpAny (model prog w) A (collect (.ref l)) Q E s:=by
 obtain⟨o,ho,hc,n,hd⟩:=id hl;unfold collect;refine Jr (je (V6 entry_proto_collect' ?_));show wpAny _ _ (do again (.builtin "list.__iadd__" ⟨[←newList [],.ref l],[]⟩)) _ _ s
 refine Jr (jl (JA ⟨YB _ ⋯,V6 entry_list_iadd' ?_⟩));show wpAny _ _ (Builtin.List.listExtendWith (.ref s.heap.objs.size) (.ref l) (.ref s.heap.objs.size)) _ _ { s with heap:=s.heap.push (seqObj "list" #[] 0) }
 unfold Builtin.List.listExtendWith;have ho':(s.heap.push (seqObj "list" #[] 0)).get? l=some o:=Jn _ ho;refine Jr (wpAny_typeOf (T := "tuple") ⟨o,ho',hc⟩ ?_);have ht:(Value.type "tuple" == Value.type "tuple")=true:=by rfl
 rw[JW (by rw[ht];simp)]
 refine Jr (listItems_at ho' hd ?_);refine Jr (listItems_at (xs := #[]) (n:=0) (JK _ rfl) rfl ?_);rw[Vh (by simp)]
 refine Jr (listUpdate_at (xs := #[]) (n:=0) (JK _ rfl) rfl ?_ (J3 _) (by show(#[]++vs.toArray).size≤sizeLine+1;simp only[Array.size_append,V4,bW];omega))
 refine JA ?_
 show wpAny (model prog w) A (do
   let o ←load s.heap.objs.size
   match o.data with
   | .seq xs _=>pure xs.toList
   |_=>unsupported "internal:collect") Q E { s with heap:=(s.heap.push (seqObj "list" #[] 0)).update s.heap.objs.size (Obj.mapSeq (· ++ vs.toArray)) }
 refine Jr (wpAny_load (get?_update_seq (JK _ rfl) _) ?_);show wpAny _ _ (pure ((#[]:Array Value)++vs.toArray).toList) Q E _;rw[show((#[]:Array Value)++vs.toArray).toList=vs by simp]
 exact JA h
theorem zMI{a:Addr}{vs:List Value}{n d:Nat}{B:Int}{P:PySem.Fin→Shared→Prop} (ho:s.heap.get? a=some (seqObj "list" vs.toArray n)) (hL:vs.length≤sizeLine) (hd:1≤d) (x:TupsOk s.heap d B vs)
  (r:Value→Int) (hr:∀v,v∈vs→∀ns,TupInts s.heap v ns→r v=code B ns)
  (h:∀out:Array Value,out.toList.Perm vs→out.toList.Pairwise (fun u v=>r u≤r v)→P (.done (.ret .none)) { s with heap:=sortedHeap s.heap a vs out }) :
  wpAny (model prog w) A (Builtin.«list.sort» ⟨[.ref a],[]⟩) P E s:=by
 obtain⟨fs,ht⟩:=zJq hd vs x;refine PyProof.Rows.G.list_sort_tups (shape:=fun _=>false) ho ht (fun v hv=>by obtain⟨ns,t,_⟩:=x v hv;exact⟨_,key_of t⟩) hL fun st' p1 p2 p3=>?_
 have q1:(PyProof.Rows.arrOf st').toList.Perm (vs.zip vs):=by rw[←Y4];exact p1.toList
 have mem:∀p∈(PyProof.Rows.arrOf st').toList,p.1=p.2∧p.1∈vs:=fun p hp=>bp (q1.mem_iff.mp hp)
 refine h _ ?_ ?_
 ·rw[YR]
  have:=q1.map (·.2)
  rw[List.map_snd_zip (JH _)]at this;exact this
 ·rw[YR,J4,V0];intro i j hi hj hij;have hsz:(PyProof.Rows.arrOf st').size=(PyProof.Rows.pairsOf vs).size:=p1.size_eq;have hk:=p2 i j (Nat.le_of_lt hij) (by rw[←hsz];simpa using hj)
  have kk:∀m (hm:m<(PyProof.Rows.arrOf st').toList.length),∃ns,TupInts s.heap ((PyProof.Rows.arrOf st').toList[m]).2 ns∧ns.length=d∧Bd B ns∧r ((PyProof.Rows.arrOf st').toList[m]).2=code B ns∧PyProof.Rows.KK (PyProof.Rows.G.tupKindC s.heap fun _=>false) (PyProof.Rows.arrOf st') m=ns.map Sum.inl:=by
   intro m hm;obtain⟨e,hv⟩:=mem _ (JL hm);obtain⟨ns,t,l1,l2⟩:=x _ hv;refine⟨ns,e▸t,l1,l2,hr _ (e▸hv) ns (e▸t),?_⟩;unfold PyProof.Rows.KK;rw[show(PyProof.Rows.arrOf st')[m]?=some ((PyProof.Rows.arrOf st').toList[m]) by rw[←J6,Ja hm]]
   show(PyProof.Rows.G.tupKeyC s.heap (fun _=>false) _).getD []=_
   rw[key_of t];rfl
  obtain⟨ns,t1,a1,b1,r1,k1⟩:=kk i hi;obtain⟨ms,t2,a2,b2,r2,k2⟩:=kk j hj;rw[k1,k2]at hk;rw[r1,r2];exact code_lex ms ns ∅ b2 b1 hk
theorem sorted_tupsT{l:Addr}{vs:List Value}{d:Nat}{B:Int}{Q:Value→Shared→Prop} (hl:IsTup s.heap l vs.toArray) (h64:vs.length<1000) (hd:1≤d) (x:TupsOk s.heap d B vs)
  (h:∀out:Array Value,out.toList.Perm vs→out.toList.Pairwise (fun u v=>code B (intsOf s.heap u)≤code B (intsOf s.heap v))→Q (.ref (s.heap.objs.size+1)) { s with heap:=sortedAll s.heap vs out }) :
  wpAny (model prog w) A (call (.builtin "sorted") [.ref l]) Q E s:=by
 refine bq kind_sorted plain_sorted entry_sorted (args_sorted1 _) ?_
 unfold Builtin.«sorted»;refine Jr (m:=checkCount "sorted" 1 1 _) (JA ?_);refine Jr (zIW hl ?_ (by rw[Vq];omega))
 refine Jr (jl ?_ (by rw[Vq];omega))
 have hsz:((s.heap.push (seqObj "list" #[] 0)).update s.heap.objs.size (Obj.mapSeq (· ++ vs.toArray))).objs.size=s.heap.objs.size+1:=by
  rw[Heap.size_update,size_push']
 have hoL:(((s.heap.push (seqObj "list" #[] 0)).update s.heap.objs.size (Obj.mapSeq (· ++ vs.toArray))).push (seqObj "list" vs.toArray 0)).get? (s.heap.objs.size+1)=some (seqObj "list" vs.toArray 0):=by
  rw[←hsz];exact JK _ rfl
 have keep:∀b o,s.heap.get? b=some o→o.cls=.type "tuple" → (((s.heap.push (seqObj "list" #[] 0)).update s.heap.objs.size (Obj.mapSeq (· ++ vs.toArray))).push (seqObj "list" vs.toArray 0)).get? b=some o:=fun b o q _=>by
  have hlt:b<s.heap.objs.size:=JP q;rw[Heap.get?_push_ne _ _ _ (by rw[hsz];exact Vd (VC hlt)),Heap.get?_update_ne _ _ _ _ (Vd hlt),Heap.get?_push_ne _ _ _ (Vd hlt)]
  exact q
 show wpAny _ _ _ _ _ { s with heap:=((s.heap.push (seqObj "list" #[] 0)).update s.heap.objs.size (Obj.mapSeq (· ++ vs.toArray))).push (seqObj "list" vs.toArray 0) }
 rw[hsz];refine Jr (YC (bO slot_list_sort ⟨_,hoL,rfl⟩ entry_list_sort (zMI hoL (by rw[Vq];omega) hd (x.keeps keep) (fun v=>code B (intsOf s.heap v)) (fun v hv ns t=>?_) fun out a1 a2=>⟨_,rfl,?_⟩) (args_list_sort _)))
 ·obtain⟨ns0,t0,_⟩:=x v hv;have e:ns=ns0:=t.ints.symm.trans (t0.keeps keep).ints;rw[e];show code B (intsOf s.heap v)=code B ns0;rw[t0.ints]
 ·exact JA ⟨_,rfl,h out a1 a2⟩
end
end TS
namespace L2
section
variable {X:Cx}
def zQz(K:PySem.W.Frag) (d:Nat) (B:Int):List V→Hp→VK→Prop:=fun vs H Q=>∃(a:Addr) (xs:List V),vs=[V.ref a]∧SqT K H a xs∧xs.length<1000∧(∀x∈xs,∃ns,TupI K H x ns∧ns.length=d∧TS.Bd B ns) ∧
 ∀(ys:List V) (p:Addr),ys.Perm xs→ys.Pairwise (fun x y=>∀n m,TupI K H x n→TupI K H y m→TS.code B n≤TS.code B m)→H p=none→Q (.ref p) (upd H p (.lst ys))
theorem zQM{d:Nat}{B:Int} (hd:1≤d):CallR X (.builtin "sorted") (zQz X.K d B):=by
 intro pins s σ H vs us Q I r h;obtain⟨a,xs,rfl,hs,h64,hx,q⟩:=h;obtain⟨its,rv,hl,hz⟩:=I.tuple hs;rw[jk r]
 obtain⟨e1,e2⟩:=bkV_refs rv fun x m=>by
  obtain⟨ns,⟨t,e,_⟩,_⟩:=hx x m;exact⟨t,e⟩
 refine TS.sorted_tupsT (d:=d) (B:=B) hl (by rw[←rv.length];exact h64) hd (fun v hv=>?_) fun out h1 h2=>?_
 ·obtain⟨t,rfl⟩:=e2 v hv
  have hm:V.ref t∈xs:=by
   rw[e1];exact Jj.mpr ⟨_,hv,rfl⟩
  obtain⟨ns,⟨t',e,ht⟩,hn,hb⟩:=hx _ hm;cases e;exact⟨ns,jm I ht,hn,hb⟩
 ·obtain⟨ep,he'⟩:=br s.heap its out;have h3:∀u∈out.toList,∃a,u=Value.ref a:=fun u hu=>e2 u (h1.mem_iff.mp hu)
  have hp:(out.toList.map bkV).Perm xs:=by
   rw[e1];exact h1.map bkV
  have hlen:(out.toList.map bkV).length≤sizeLine:=by
   rw[hp.length_eq];exact hz
  refine⟨.ref _,upd H (s.heap.objs.size+1) (.lst (out.toList.map bkV)),I.laid (t':=s.toks) (fun _ _=>Y9) (Y2 _) ⟨hlen,out.toList,ep,bkV_vals h3,he'⟩,rfl,q _ _ hp ?_ (I.hok.fresh (Y2 _))⟩
  rw[J4];refine V7 (fun{u v} huv n m hn hm=>?_) h2
  obtain⟨t,et,ht⟩:=hn;obtain⟨t',et',ht'⟩:=hm;have eu:=bkV_ref et;have ev:=bkV_ref et'
  have i1:TS.intsOf s.heap u=n:=by
   rw[eu];exact(jm I ht).ints
  have i2:TS.intsOf s.heap v=m:=by
   rw[ev];exact(jm I ht').ints
  rw[←i1,←i2];exact huv
def zQ1(K:PySem.W.Frag) (d:Nat) (B:Int):List V→Hp→VK→Prop:=fun vs H Q=>∃(a:Addr) (xs:List V),vs=[V.ref a]∧SqL K H a xs∧(∀x∈xs,∃ns,TupI K H x ns∧ns.length=d∧TS.Bd B ns) ∧
 ∀(ys:List V) (p:Addr),ys.Perm xs→ys.Pairwise (fun x y=>∀n m,TupI K H x n→TupI K H y m→TS.code B n≤TS.code B m)→H p=none→Q (.ref p) (upd H p (.lst ys))
theorem zQJ{d:Nat}{B:Int} (hd:1≤d):CallR X (.builtin "sorted") (zQ1 X.K d B):=by
 intro pins s σ H vs us Q I r h;obtain⟨a,xs,rfl,hs,hx,q⟩:=h;obtain⟨its,rv,hl,hz⟩:=I.list hs;rw[jk r]
 obtain⟨e1,e2⟩:=bkV_refs rv fun x m=>by
  obtain⟨ns,⟨t,e,_⟩,_⟩:=hx x m;exact⟨t,e⟩
 refine TS.sorted_tupsL (d:=d) (B:=B) hl.isList (by rw[←rv.length];exact hz) hd (fun v hv=>?_) fun out h1 h2=>?_
 ·obtain⟨t,rfl⟩:=e2 v hv
  have hm:V.ref t∈xs:=by
   rw[e1];exact Jj.mpr ⟨_,hv,rfl⟩
  obtain⟨ns,⟨t',e,ht⟩,hn,hb⟩:=hx _ hm;cases e;exact⟨ns,jm I ht,hn,hb⟩
 ·obtain⟨ep,he'⟩:=br s.heap its out;have h3:∀u∈out.toList,∃a,u=Value.ref a:=fun u hu=>e2 u (h1.mem_iff.mp hu)
  have hp:(out.toList.map bkV).Perm xs:=by
   rw[e1];exact h1.map bkV
  have hlen:(out.toList.map bkV).length≤sizeLine:=by
   rw[hp.length_eq];exact hz
  refine⟨.ref _,upd H (s.heap.objs.size+1) (.lst (out.toList.map bkV)),I.laid (t':=s.toks) (fun _ _=>Y9) (Y2 _) ⟨hlen,out.toList,ep,bkV_vals h3,he'⟩,rfl,q _ _ hp ?_ (I.hok.fresh (Y2 _))⟩
  rw[J4];refine V7 (fun{u v} huv n m hn hm=>?_) h2
  obtain⟨t,et,ht⟩:=hn;obtain⟨t',et',ht'⟩:=hm;have eu:=bkV_ref et;have ev:=bkV_ref et'
  have i1:TS.intsOf s.heap u=n:=by
   rw[eu];exact(jm I ht).ints
  have i2:TS.intsOf s.heap v=m:=by
   rw[ev];exact(jm I ht').ints
  rw[←i1,←i2];exact huv
theorem zNn:CallR X (.type "range") (fun vs H Q=>∃j,vs=[V.int j]∧∀p,H p=none→Q (.ref p) (upd H p (.rng 0 j))):=by
 intro pins s σ H vs us Q I r h;obtain⟨j,rfl,q⟩:=h;obtain⟨u1,rfl,rj⟩:=vals1 r;obtain⟨u,rfl⟩:=rj;refine call_range_1 ⟨.ref s.heap.objs.size,upd H s.heap.objs.size (.rng 0 j),I.laid (t':=s.toks+1+1) (fun b o e=>Jn _ e) (JH _) ?_,rfl,q _ (I.hok.fresh (JH _))⟩
 exact⟨s.toks,u,s.toks+1,JK _ rfl⟩
theorem zK3:∀(acc:List Value) (f:Nat→V),(∀j v,acc[j]?=some v→RelV (f j) v)→Vals ((List.range acc.length).map f) acc
 |[],f,_=>.nil
 |u::acc,f,h=>by
  rw[JJ,List.range_succ_eq_map,Jl,Jm];exact .cons (h 0 u rfl) (zK3 acc (f∘Nat.succ) fun j v e=>h (j+1) v (by simpa using e))
theorem zMU(hh:X.A.handled=none):CallR X (.type "list") (fun vs H Q=>∃(a:Addr) (n:Nat),vs=[V.ref a]∧H a=some (.rng 0 (n:Int))∧n≤1000000∧∀p,H p=none→Q (.ref p) (upd H p (.lst ((List.range n).map fun(i:Nat)=>V.int (i:Int))))):=by
 intro pins s σ H vs us Q I r h;obtain⟨a,n,rfl,ha,hn,q⟩:=h;rw[jk r];obtain⟨t,u,v,hr⟩:=I.hok a _ ha;refine call_list_range (n:=n) hh hr (small_one (!0) (!0) ∅ ∅) (by rw[rangeSize_one];split<;>omega) ∅ fun h' tk acc c hk hl hacc=>?_
 have hv:Vals ((List.range n).map fun(i:Nat)=>V.int (i:Int)) acc.toList:=by
  have z:=zK3 acc.toList (fun(i:Nat)=>V.int (i:Int)) fun j v e=>by
   obtain⟨t,rfl⟩:=hacc.2 j v (by simpa using e)
   exact⟨t,by rw[Int.mul_one,Int.zero_add]⟩
  rw[show acc.toList.length=n by simpa using hacc.1]at z
  exact z
 refine⟨.ref _,upd H s.heap.objs.size (.lst ((List.range n).map fun(i:Nat)=>V.int (i:Int))),I.laid (t':=tk) (fun b o e=>hk b o e) (JH _) ⟨by rw[Jc,JN,Vq];omega,acc.toList,c,hv,by simpa using hl⟩,rfl,q _ (I.hok.fresh (JH _))⟩
end
end L2
namespace Y
theorem zG1{α:Type}{r:α→α→Prop}:∀ {l m:List α},(∀a b,a∈l→b∈l→r a b→r b a→a=b)→l.Perm m→l.Pairwise r→m.Pairwise r→l=m
 |[],m,_,p,_,_=>by rw[p.nil_eq]
 |a::l,[],_,p,_,_=>by cases p.symm.nil_eq
 |a::l,b::m,anti,p,h1,h2=>by
  obtain⟨a1,a2⟩:=VI.mp h1;obtain⟨b1,b2⟩:=VI.mp h2
  have e:a=b:=by
   have ma:a∈b::m:=p.mem_iff.mp Jg;have mb:b∈a::l:=p.mem_iff.mpr Jg;rcases Jo.mp ma with e|ma
   ·exact e
   ·rcases Jo.mp mb with e|mb
    ·exact e.symm
    ·exact anti a b Jg (Jf _ mb) (a1 b mb) (b1 a ma)
  subst e;rw[zG1 (fun x y hx hy=>anti x y (Jf _ hx) (Jf _ hy)) (jf a |>.mp p) a2 b2]
def sortI(l:List Int):List Int:=l.mergeSort fun a b=>decide (a≤b)
theorem sortI_perm(l:List Int):(sortI l).Perm l:=J9 _ _
theorem zI2(l:List Int):(sortI l).Pairwise (· ≤ ·):=by
 refine V7 (fun{a b} h=>JB h) (bJ (le:=fun a b:Int=>decide (a≤b)) (fun a b c h1 h2=>?_) (fun a b=>?_) l)
 ·have:=JB h1;have:=JB h2;exact JD ∅
 ·rcases Int.le_total a b with h|h
  ·rw[JD h];rfl
  ·rw[JD h,Bool.or_true]
theorem zK1{l m:List Int} (p:m.Perm l) (s:m.Pairwise (· ≤ ·)):m=sortI l :=
 zG1 (fun a b _ _ h1 h2=>Int.le_antisymm h1 h2) (p.trans (sortI_perm l).symm) s (zI2 l)
def tupP(q:Int×Int):P:=.tup [.int q.1,.int q.2]
def pairsOf:List P→Option (List (Int×Int))
 |[]=>some []
 | .tup [.int i,.int j]::l=>if 0≤i∧i<1000∧0≤j∧j<1000 then(pairsOf l).map ((i,j) :: ·)else none
 |_=>none
def zCC(q:Int×Int):Prop:=0≤q.1∧q.1<1000∧0≤q.2∧q.2<1000
theorem zHR:∀ {l:List P}{m:List (Int×Int)},pairsOf l=some m→l=m.map tupP∧∀q∈m,zCC q:=by
 intro l
 induction l with
 |nil=>intro m e;rw[pairsOf]at e;cases e;exact⟨rfl,by simp⟩
 |cons x l ih =>
  intro m e;unfold pairsOf at e;split at e
  ·rename_i h;cases h
  ·rename_i i j l2 h
   cases h;split at e
   ·rename_i hb
    obtain⟨m2,e2,rfl⟩:=Jx.mp e;obtain⟨h1,h2⟩:=ih e2;refine⟨by rw[h1];rfl,fun q hq=>?_⟩
    rcases Jo.mp hq with rfl|hq
    ·exact hb
    ·exact h2 q hq
   ·cases e
  ·cases e
def cdP(q:Int×Int):Int:=q.1*1000+q.2
def zDd(l:List (Int×Int)):List (Int×Int):=l.mergeSort fun a b=>decide (cdP a≤cdP b)
theorem zHZ(l:List (Int×Int)):(zDd l).Perm l:=J9 _ _
theorem zFl(l:List (Int×Int)):(zDd l).Pairwise (fun a b=>cdP a≤cdP b):=by
 refine V7 (fun{a b} h=>JB h) (bJ (le:=fun a b=>decide (cdP a≤cdP b)) (fun a b c h1 h2=>?_) (fun a b=>?_) l)
 ·have:=JB h1;have:=JB h2;exact JD ∅
 ·rcases Int.le_total (cdP a) (cdP b)with h|h
  ·rw[JD h];rfl
  ·rw[JD h,Bool.or_true]
theorem zHr{l m:List (Int×Int)} (h:∀q∈l,zCC q) (p:m.Perm l) (s:m.Pairwise (fun a b=>cdP a≤cdP b)):m=zDd l :=
 zG1 (fun a b ha hb h1 h2=>by
  obtain⟨a1,a2,a3,a4⟩:=h a (p.mem_iff.mp ha);obtain⟨b1,b2,b3,b4⟩:=h b (p.mem_iff.mp hb);unfold cdP at h1 h2;obtain⟨x,y⟩:=a;obtain⟨u,v⟩:=b;simp only at *
  rw[VY]
  omega) (p.trans (zHZ l).symm) s (zFl l)
section
variable {K:PySem.W.Frag}{cl:Cls}{X:Cx}{Wx:WX}{E0:En}{ρ ρ':List Addr}{G G':Hp}{σ:Sg}{τ:L2.St}{st:List Cell}{H:Hp}{D:Ends}
theorem RPs.perm{f:Int×Int→P}{xs ys:List V} (p:xs.Perm ys):∀ {l:List (Int×Int)},RPs K cl G (l.map f) xs→∃m:List (Int×Int),m.Perm l∧RPs K cl G (m.map f) ys:=by
 induction p with
 |nil=>intro l r;exact⟨l,.refl _,r⟩
 |cons x p ih =>
  intro l r;cases l with
  |nil=>cases r
  |cons a l =>
   cases r with
   |cons h r =>
    obtain⟨m,q,r2⟩:=ih r;exact⟨a::m,q.cons a,.cons h r2⟩
 |swap x y p =>
  intro l r
  match l,r with
  |a::b::l,.cons h (.cons h2 r)=>exact⟨b::a::l,.swap a b l,.cons h2 (.cons h r)⟩
 |trans p1 p2 i1 i2 =>
  intro l r;obtain⟨m,q,r2⟩:=i1 r;obtain⟨m2,q2,r3⟩:=i2 r2;exact⟨m2,q2.trans q,r3⟩
theorem zMy(s:Sub G H){q:Int×Int}{v:V} (r:RP K cl G (tupP q) v):TupI K H v [q.1,q.2]:=by
 cases r with
 |tup h r =>
  cases r with
  |cons r1 r =>
   cases r1;cases r with
   |cons r2 r =>
    cases r2;cases r;exact⟨_,rfl,s.sqT h⟩
theorem code2(q:Int×Int):TS.code 1000 [q.1,q.2]=cdP q:=by
 unfold TS.code TS.code TS.code cdP;simp
theorem zEl(s:Sub G H):∀ {m:List (Int×Int)}{ys:List V},RPs K cl G (m.map tupP) ys→ys.Pairwise (fun x y=>∀n k,TupI K H x n→TupI K H y k→TS.code 1000 n≤TS.code 1000 k)→m.Pairwise (fun a b=>cdP a≤cdP b)
 |[],_,_,_=>.nil
 |a::m,_,.cons h r,p=>by
  obtain⟨p1,p2⟩:=VI.mp p;refine VI.mpr ⟨fun b hb=>?_,zEl s r p2⟩
  obtain⟨i,hi⟩:=JF hb;obtain⟨v,hv,rv⟩:=r.get (i:=i) (x:=tupP b) (by rw[Jd,hi];rfl)
  have:=p1 v (Ji hv) _ _ (zMy s h) (zMy s rv)
  rw[code2,code2]at this;exact this
theorem zNp(s:Sub G H){m:List (Int×Int)}{xs:List V} (r:RPs K cl G (m.map tupP) xs) (h:∀q∈m,zCC q):∀x∈xs,∃ns,TupI K H x ns∧ns.length=2∧TS.Bd 1000 ns:=by
 intro x hx;obtain⟨i,hi⟩:=JF hx;obtain⟨y,hy,ry⟩:=r.getV hi;rw[Jd]at hy;obtain⟨q,hq,rfl⟩:=Jx.mp hy;obtain⟨q1,q2,q3,q4⟩:=h q (Ji hq);refine⟨_,zMy s ry,rfl,fun k hk=>?_⟩
 simp only[Jo,VM,bC]at hk;rcases hk with rfl|rfl
 ·exact⟨q1,q2⟩
 ·exact⟨q3,q4⟩
def srtL(l:List P):Option (List P):=match intsOf l with
 |some m=>some ((sortI m).map P.int)
 |none=>match pairsOf l with
  |some m=>if m.length<1000 then some ((zDd m).map tupP)else none
  |none=>none
def zBY(ws:List W) (st:List Cell):Res W:=match ws with
 |[.p (.tup l)]=>(match pairsOf l with
  |some m=>if m.length<1000 then .ok (.p (.lst ((zDd m).map tupP))) st else .no
  |none=>.no)
 |[w]=>(match listOf st w with
  |some l=>(match srtL l with
   |some m=>.ok (.p (.lst m)) st
   |none=>.no)
  |none=>.no)
 |_=>.no
def zQb(K:PySem.W.Frag):List V→Hp→VK→Prop:=fun xs H Q=>(rSortedI K xs H Q∨zQ1 K 2 1000 xs H Q)∨zQz K 2 1000 xs H Q
theorem zCx:CallR X (.builtin "sorted") (zQb X.K):=(cr_sortedI.or (zQJ (!0))).or (zQM (!0))
theorem zEG{l:List P}{vs:List V}{p:Addr}{Q:VK}{Z:ZX} (R:(bs K cl E0).Rel ρ G st H) (hp:H p=none) (r:RPs K cl G l vs) (h:Aft (bs K cl E0) (bs K cl E0).RW ρ G (.ok (.p (.lst l)) st) Q Z):Q (.ref p) (upd H p (.lst vs)) :=
 h ρ _ _ (.ref p) (Jh _) (Sub.new (R.gnone hp)) (R.froze hp) (.lst JC (r.mono (Sub.new (R.gnone hp))))
theorem zCv:zGK K cl zBY (zQb K):=by
 intro E0 ρ G st H ws vs Q Z R rw' h;unfold zBY at h;split at h
 ·rename_i l
  obtain⟨v,rfl,r⟩:=rw'.one;split at h
  ·rename_i m em
   split at h
   ·rename_i hl
    obtain⟨rfl,hs⟩:=zHR em;cases r with
    |@tup a vs _ ht q =>
     refine .inr ⟨_,_,rfl,R.sub.sqT ht,by rw[←q.length,Jc];exact hl,zNp R.sub q hs,fun ys p py sy hp=>?_⟩
     obtain⟨m2,p2,q2⟩:=RPs.perm py.symm q;rw[←zHr hs p2 (zEl R.sub q2 sy)]at h;exact zEG R hp q2 h
   ·exact h.elim
  ·exact h.elim
 ·rename_i w _
  obtain⟨v,rfl,r⟩:=rw'.one;split at h
  ·rename_i l el
   obtain⟨a,us,rfl,ha,q⟩:=zED R r el;split at h
   ·rename_i k ek
    unfold srtL at ek;split at ek
    ·rename_i m em
     cases ek;rw[zFB em]at q;obtain rfl:=RPs.of_ints q;refine .inl (.inl ⟨_,m,rfl,.inl (.inl ha),fun ns p pn sn hp=>?_⟩)
     rw[←zK1 pn sn]at h;exact zEG R hp (RPs.ints _) h
    ·split at ek
     ·rename_i m em
      split at ek
      ·rename_i hl
       cases ek;obtain⟨rfl,hs⟩:=zHR em;refine .inl (.inr ⟨_,_,rfl,(.inl (.inl ha)),zNp R.sub q hs,fun ys p py sy hp=>?_⟩)
       obtain⟨m2,p2,q2⟩:=RPs.perm py.symm q;rw[←zHr hs p2 (zEl R.sub q2 sy)]at h;exact zEG R hp q2 h
      ·cases ek
     ·cases ek
   ·exact h.elim
  ·exact h.elim
 ·exact h.elim
end
section
variable {K:PySem.W.Frag}{cl:Cls}{X:Cx}{Wx:WX}{E0:En}{ρ ρ':List Addr}{G G':Hp}{σ:Sg}{τ:L2.St}{st:List Cell}{H:Hp}{D:Ends}
def zCe(a:EM):EM:=fun σ st=>(a σ st).bind fun w st1=>match w with
 | .p (.int n)=>if 0≤n∧n≤1000000 then .ok (.p (.lst ((List.range n.toNat).map fun(i:Nat)=>P.int (i:Int)))) st1 else .no
 |_=>.no
theorem RPs.rng(n:Nat):RPs K cl G ((List.range n).map fun(i:Nat)=>P.int (i:Int)) ((List.range n).map fun(i:Nat)=>V.int (i:Int)):=by
 have e:=RPs.ints (K:=K) (cl:=cl) (G:=G) ((List.range n).map fun(i:Nat)=>(i:Int))
 rw[Jm,Jm]at e;exact e
theorem zEW{a:EM}{e:Expr}{p p2 pos pos2:Pos} (g:GX K X) (hgl:Gl X "list") (hml:X.mg "list" = none) (hgr:Gl X "range") (hmr:X.mg "range" = none) (ha:SE K cl X Wx a e)
  (hs:starEach [e] X.env=(false,eval e X.env)::starEach [] X.env:=by rfl) (hpl:(backTo pos2 (starEach [] X.env)).any (·.1)=false:=by rfl)
  (hs2:starEach [.Call (.Name "range" p2) [e] [] pos2] X.env=(false,eval (.Call (.Name "range" p2) [e] [] pos2) X.env)::starEach [] X.env:=by rfl) (hpl2:(backTo pos (starEach [] X.env)).any (·.1)=false:=by rfl) :
  SE K cl X Wx (zCe a) (.Call (.Name "list" p) [.Call (.Name "range" p2) [e] [] pos2] [] pos):=by
 obtain⟨hK,_,_,hu,hh⟩:=g;subst hK;refine⟨fun E0 ρ G σ st τ H Q R S h=>T.of (pe_callTy (zMU hh) hgl hml rfl (jp (pe_callTy zNn hgr hmr rfl (T.pa1 hs) (!0) ⋯ hs hpl) pa_nil hs2) (!0) ⋯ hs2 hpl2) ?_⟩
 refine ha.run E0 ρ G σ st τ H _ R S (Aft.seq h fun w st1 ρ1 G1 H1 v e1 p1 s1 R1 u1 h1=>?_)
 split at h1
 ·rename_i n
  split at h1
  ·rename_i hn
   cases u1;refine⟨n,rfl,fun p hp=>⟨p,n.toNat,rfl,by rw[JC,Yw hn.1],∅,fun l hl=>?_⟩⟩
   exact zEG (R1.froze hp) hl (RPs.rng _) (Aft.mono (Jh _) (Sub.new (R1.gnone hp)) h1)
  ·exact h1.elim
 ·exact h1.elim
def zLD(x:W) (ws:List W) (st:List Cell):Res W:=match x,ws with
 | .p (.str a),[.p (.str b)]=>.ok (.p (.int (Txt.count a b))) st
 |_,_=>.no
theorem zNW:VMt K cl zLD (fun x xs H Q=>∃a b,x=.str a∧xs=[.str b]∧Q (.int (Txt.count a b)) H):=by
 intro E0 ρ G st H x v ws vs Q Z R rx rw' h;unfold zLD at h;split at h
 ·obtain⟨u,rfl,r⟩:=rw'.one;cases rx;cases r;exact⟨_,_,rfl,rfl,h.here R (RP.int _)⟩
 ·exact h.elim
structure HdO (K:PySem.W.Frag) (cl:Cls) (E0:En) (D:Addr) (ρ:List Addr) (G:Hp) (st:List Cell) (H:Hp) (Gh:Hp) (o:HO):Prop where
 gD:Gh D=none
 gr:∀a u,Gh a=some u→E0.G0 a=some u∨E0.H0 a=none∨∃i:Nat,i<E0.n0∧ρ[i]?=some a
 hn:∀i:Nat,i<E0.n0→ρ[i]?≠some D
 l0:E0.n0≤ρ.length
 h0:E0.H0 D=none
 R:(bs K cl (E0.hold Gh D o)).Rel ρ G st H
theorem HdO.start{Dd:Addr}{o:HO} (R:(bs K cl E0).Rel ρ G st H) (h:H Dd=none) (nt:NT o:=by intro _ z;cases z):HdO K cl E0 Dd ρ G st (upd H Dd o) G o :=
 ⟨R.gnone h,R.grow,fun i _=>R.apart h i,R.n0,R.fresh0 h,R.hold h nt⟩
section
variable {Dd:Addr}{Gh:Hp}{o o':HO}{st':List Cell}{H':Hp}
theorem HdO.held(h:HdO K cl E0 Dd ρ G st H Gh o):H Dd=some o∧G Dd=none∧∀i:Nat,ρ[i]?≠some Dd:=Rel.held h.R h.hn h.gD
theorem HdO.next(h:HdO K cl E0 Dd ρ G st H Gh o) (p:ρ <+: ρ') (s:Sub G G') (R:(bs K cl (E0.hold Gh Dd o)).Rel ρ' G' st' H'):HdO K cl E0 Dd ρ' G' st' H' Gh o:=by
 have keep:∀i:Nat,i<E0.n0→ρ'[i]?=ρ[i]?:=fun i hi=>by
  obtain⟨t,rfl⟩:=p;exact Je (Vb hi h.l0)
 refine⟨h.gD,fun a u e=>?_,fun i hi=>by rw[keep i hi];exact h.hn i hi,Vs h.l0 p.length_le,h.h0,R⟩
 rcases h.gr a u e with q|q|⟨i,hi,q⟩
 ·exact .inl q
 ·exact .inr (.inl q)
 ·exact .inr (.inr ⟨i,hi,by rw[keep i hi];exact q⟩)
theorem HdO.back(h:HdO K cl E0 Dd ρ G st H Gh o):(bs K cl E0).Rel ρ G st H:=Rel.unhold h.R h.h0 h.gr (Jh _) h.l0
theorem HdO.put(h:HdO K cl E0 Dd ρ G st H Gh o) (po:PlO o) (nt:NT o':=by intro _ z;cases z):HdO K cl E0 Dd ρ G st (upd H Dd o') G o' :=
 ⟨h.held.2.1,h.back.grow,h.hn,h.l0,h.h0,Rel.rehold h.R po h.hn h.gD nt⟩
theorem HdO.cell{c:Cell} (h:HdO K cl E0 Dd ρ G st H Gh o) (hc:c≠.dead) (x:CA K cl (ρ++[Dd]) G H Dd c):(bs K cl E0).Rel (ρ++[Dd]) G (st++[c]) H :=
 Rel.adoptC h.back hc h.held.2.1 h.held.2.2 h.h0 x
theorem HdO.data(h:HdO K cl E0 Dd ρ G st H Gh o) (nt:NT o:=by intro _ z;cases z):(bs K cl E0).Rel ρ (upd G Dd o) st H :=
 Rel.adopt h.back h.held.1 h.held.2.1 h.held.2.2 h.h0 nt
end
def zHU(mk mv:EM):EM:=fun σ st=>(mk σ st).nox.bind fun x st1=>(mv σ st1).nox.bind fun y st2=>match x with
 | .p z=>match keyP z with
  |some k=>.ok (.r st2.length) (st2++[.dk [k] [y]])
  |none=>.no
 |_=>.no
theorem zQQ{mk mv:EM}{k v:Expr}{pos:Pos} (hk:SE K cl X Wx mk k) (hv:SE K cl X Wx mv v):SE K cl X Wx (zHU mk mv) (.Dict [some k] [v] pos):=by
 refine⟨fun E0 ρ G σ st τ H Q R S h=>T.of (pe_disp (pps_cons T.pe T.pe pps_nil) rfl rfl (by simp) (by simp)) ?_⟩
 intro p hp;have hd:=HdO.start (o:=.dK []) R hp;refine hk.run _ ρ G σ st τ _ _ hd.R S (Aft.seqH h fun x st1 ρ1 G1 H1 u e1 p1 s1 R1 u1 q1=>?_)
 have hd1:=hd.next p1 s1 R1;refine hv.run _ ρ1 G1 σ st1 τ H1 _ hd1.R (S.mono p1 s1) (Aft.seqH q1 fun y st2 ρ2 G2 H2 u' e2 p2 s2 R2 u2 q2=>?_)
 have hd2:=hd1.next p2 s2 R2;split at q2
 ·rename_i z
  split at q2
  ·rename_i kk ek
   have hz:=zF8 u1 ek;subst hz;refine⟨hd2.held.1,[(kk,u')],rfl,by simp,?_⟩
   have e:mergeK [] [(kk,u')]=[kk].zip [u']:=rfl;rw[e];have hd3:=hd2.put (o':=.dK ([kk].zip [u'])) (zNg trivial);refine q2 (ρ2++[p]) G2 _ (.ref p) (Va _ _) (Sub.refl _) (hd3.cell (fun z=>by cases z) ⟨[u'],JC,rfl,.cons (u2.mono (Va _ _) (Sub.refl _)) .nil⟩) ⟨p,?_,rfl⟩
   rw[←hd2.R.len];simp
  ·exact q2.elim
 ·exact q2.elim
def hasK(ks:List Key) (k:Key):Bool:=ks.any fun j=>decide (j=k)
theorem zH5{α:Type}{k:Key}:∀ {ks:List Key}{vs:List α},ks.length=vs.length→((ks.zip vs).any fun kv=>decide (kv.1=k))=hasK ks k
 |[],[],_=>rfl
 |j::ks,v::vs,h=>by
  unfold hasK;rw[JY,Ym,Ym]
  have:=zH5 (k:=k) (ks:=ks) (vs:=vs) (by simpa using h)
  unfold hasK at this;rw[this]
theorem zP3{k:Key}{ks:List Key}{vs:List V} (h:ks.length=vs.length):(valV (ks.zip vs) k).isSome=hasK ks k:=by
 rw[←valV_any,zH5 h]
theorem zMY(hu:X.A.units+1<cLine):OpR X (compareOp .NotIn) (fun y x H Q=>∃a o,x=.ref a∧DGet H a y o∧Q (.bl (!o.isSome)) H):=by
 intro pins s σ H y x u v Q I ry rx h;obtain⟨a,o,rfl,g,q⟩:=h;obtain rfl:v=Value.ref a:=rx;exact d_notIn hu I g ry fun s3 I3=>⟨.bl (!o.isSome),H,I3,rfl,q⟩
def zJ6(st:List Cell):W→Option (List Key)
 | .p (.dk ks _)=>some ks
 | .r i=>(match st[i]? with
  |some (.dk ks _)=>some ks
  |_=>none)
 |_=>none
theorem zO7(R:(bs K cl E0).Rel ρ G st H){w:W}{v:V}{ks:List Key} (r:RW K cl ρ G w v) (e:zJ6 st w=some ks):∃a vs,v=.ref a∧H a=some (.dK (ks.zip vs))∧ks.length=vs.length:=by
 cases w with
 |p x =>
  cases r with
  |dk h z q=>cases e;exact⟨_,_,rfl,R.sub _ _ h,z⟩
  |_=>cases e
 |r i =>
  obtain⟨a,ha,rfl⟩:=r;have e:(match st[i]? with|some (.dk ks _)=>some ks|_=>none)=some ks:=e
  split at e
  ·rename_i ks l em
   cases e;obtain⟨b,hb,⟨vs,h1,z,h2⟩,_⟩:=R.at em;cases Jk (ha.symm.trans hb);exact⟨_,vs,rfl,h1,z⟩
  ·cases e
def vInK(neg:Bool) (x y:W) (st:List Cell):Res W:=match x with
 | .p z=>(match keyP z,zJ6 st y with
  |some k,some ks=>.ok (.p (.bl (hasK ks k != neg))) st
  |_,_=>.no)
 |_=>.no
theorem zMD:VOp K cl (vInK true) (fun y x H Q=>∃a o,x=.ref a∧DGet H a y o∧Q (.bl (!o.isSome)) H):=by
 intro E0 ρ G st H x y v u Q Z R rx ry h;unfold vInK at h;split at h
 ·split at h
  ·rename_i k ks ek eks
   obtain rfl:=zF8 rx ek;obtain⟨a,vs,rfl,ha,z⟩:=zO7 R ry eks;refine⟨a,_,rfl,DGet.k ha,?_⟩;rw[zP3 z];rw[show(hasK ks k != true) = !hasK ks k by simp]at h
   exact h.here R (RP.bl _)
  ·exact h.elim
 ·exact h.elim
theorem zGt{a b:EM}{pa pb:Expr}{pos:Pos} (g:GX K X) (ha:SE K cl X Wx a pa) (hb:SE K cl X Wx b pb) (hm:behindInMarks .NotIn pb=false:=by rfl):ST K cl X Wx (mTst (mBin (vInK true) a b)) (.Compare pa [.NotIn] [pb] pos):=by
 have hu:=g.hu;exact zEB (zMY ∅) hm zMD ha hb
def zEA(ks:List Key) (l:List W) (k:Key) (w:W):List Key×List W :=
 if hasK ks k=true then(ks,List.zipWith (fun j x=>if j=k then w else x) ks l)else(ks++[k],l++[w])
theorem zMk{k:Key}{w:W}{v:V} (h:RW K cl ρ G w v):∀ {ks:List Key}{l:List W}{vs:List V},RWs K cl ρ G l vs→RWs K cl ρ G (List.zipWith (fun j x=>if j=k then w else x) ks l) (List.zipWith (fun j x=>if j=k then v else x) ks vs)
 |[],_,_,_=>by simp;exact .nil
 |_::_,_,_,.nil=>by simp;exact .nil
 |j::ks,_,_,.cons r rs=>by
  simp only[List.zipWith_cons_cons];refine .cons ?_ (zMk h rs);split
  ·exact h
  ·exact r
theorem zMx{k:Key}{v:V}:∀ {ks:List Key}{vs:List V},(ks.zip vs).map (fun kv=>if kv.1=k then(kv.1,v)else kv)=ks.zip (List.zipWith (fun j x=>if j=k then v else x) ks vs)
 |[],_=>by simp
 |_::_,[]=>by simp
 |j::ks,x::vs=>by
  simp only[JY,Jl,List.zipWith_cons_cons];rw[zMx];split<;>rfl
theorem zOz{ks:List Key}{l:List W}{vs:List V}{k:Key}{w:W}{v:V} (z:ks.length=vs.length) (r:RWs K cl ρ G l vs) (h:RW K cl ρ G w v) :
  ∃us,putK (ks.zip vs) k v=(zEA ks l k w).1.zip us∧(zEA ks l k w).1.length=us.length∧RWs K cl ρ G (zEA ks l k w).2 us:=by
 unfold putK zEA;rw[zH5 z]
 by_cases hk:hasK ks k=true
 ·rw[JW hk,JW hk];exact⟨_,zMx,by simp[z],zMk h r⟩
 ·rw[Vh hk,Vh hk];refine⟨vs++[v],?_,by simp[z],r.append (.cons h .nil)⟩
  rw[List.zip_append z];rfl
def zFx(o ix m:EM):SMm:=fun σ st=>(m σ st).to σ fun x st1=>(o σ st1).to σ fun w st2=>(ix σ st2).to σ fun k st3=>match w,k with
 | .r i,.p z=>match st3[i]?,keyP z with
  |some (.dk ks l),some kk=>if ks.length<1000000 then .ok .nx σ (st3.set i (.dk (zEA ks l kk x).1 (zEA ks l kk x).2))else .no
  |_,_=>.no
 |_,_=>.no
theorem zIJ{o ix m:EM}{eo ei e:Expr}{pos pos':Pos} (g:GX K X) (ho:SE K cl X Wx o eo) (hi:SE K cl X Wx ix ei) (h:SE K cl X Wx m e)
  (hs:swapsWith e (some (.Subscript eo ei pos')) pos.line X.env=pure false:=by rfl):SS K cl X Wx (zFx o ix m) (.Assign [.Subscript eo ei pos'] e pos):=by
 have hu:=g.hu;refine⟨fun E0 ρ G σ st τ H D R S q=>TS'.of (ps_dput ∅ T.pe T.pe T.pe hs) ?_⟩
 refine h.run E0 ρ G σ st τ H _ R S (AftS.seq S q fun x st1 ρ1 G1 H1 v e1 p1 s1 R1 u1 h1=>?_)
 have S1:=RS.mono p1 s1 S;refine ho.run E0 ρ1 G1 σ st1 τ H1 _ R1 S1 (AftS.seq S1 h1 fun w st2 ρ2 G2 H2 ov e2 p2 s2 R2 u2 h2=>?_)
 have S2:=RS.mono p2 s2 S1;refine hi.run E0 ρ2 G2 σ st2 τ H2 _ R2 S2 (AftS.seq S2 h2 fun k st3 ρ3 G3 H3 iv e3 p3 s3 R3 u3 h3=>?_)
 split at h3
 ·rename_i i z
  split at h3
  ·rename_i ks l kk em ek
   split at h3
   ·rename_i hl
    obtain rfl:=zF8 u3 ek;obtain⟨a,ha,hov⟩:=RW.mono p3 s3 u2;subst hov;obtain⟨b,hb,⟨vs,c1,z,c2⟩,_⟩:=R3.at em;cases Jk (ha.symm.trans hb);obtain⟨us,d1,d2,d3⟩:=zOz (k:=kk) z c2 (RW.mono (p2.trans p3) (s2.trans s3) u1);refine⟨a,_,rfl,DPut.k c1 (by rw[zHz z,Vq];omega),?_⟩
    exact AftS.nx h3 (Rel.write (o:=.dK (putK (ks.zip vs) kk v)) R3 em (fun z=>by cases z) (fun z=>by cases z) ha ⟨us,by rw[JC,d1],d2,d3⟩) (RS.mono p3 s3 S2)
   ·exact h3.elim
  ·exact h3.elim
 ·exact h3.elim
theorem RWs.dkGet{l:List W}{vs:List V} (q:RWs K cl ρ G l vs):∀ {ks:List Key}{k:Key}{x:W},Y.dkGet ks l k=some x→∃v,valV (ks.zip vs) k=some v∧RW K cl ρ G x v:=by
 induction q with
 |nil=>intro ks k x e;cases ks<;>(unfold Y.dkGet at e;simp at e)
 |@cons w v l vs r rs ih =>
  intro ks k x e;cases ks with
  |nil=>unfold Y.dkGet at e;simp at e
  |cons j ks =>
   unfold Y.dkGet at e;rw[JY,VT]at e
   by_cases hj:j=k
   ·rw[show decide ((j,w).1=k)=true from JD hj]at e
    simp at e;subst e;exact⟨v,by rw[JY];exact valV_pos hj,r⟩
   ·rw[show decide ((j,w).1=k)=false from JM hj]at e
    obtain⟨v',e1,r1⟩:=ih (ks:=ks) (k:=k) (x:=x) e;exact⟨v',by rw[JY,valV_neg hj];exact e1,r1⟩
def zFK(o a:EM):EM:=fun σ st=>(o σ st).bind fun w st1=>(a σ st1).bind fun x st2=>match w,x with
 | .r i,.p y=>match st2[i]?,keyP y with
  |some (.dk ks l),some k=>(match dkGet ks l k with
   |some z=>.ok z st2
   |none=>.no)
  |_,_=>.no
 |_,_=>.no
theorem zIU{o a:EM}{eo e:Expr}{pos:Pos} (g:GX K X) (hs:NoSl e) (ho:SE K cl X Wx o eo) (ha:SE K cl X Wx a e):SE K cl X Wx (zFK o a) (.Subscript eo e pos):=by
 have hu:=g.hu;refine⟨fun E0 ρ G σ st τ H Q R S h=>T.of (pe_dget ∅ T.pe T.pe hs) ?_⟩
 refine ho.run E0 ρ G σ st τ H _ R S (Aft.seq h fun w st1 ρ1 G1 H1 v e1 p1 s1 R1 u1 h1=>?_)
 refine ha.run E0 ρ1 G1 σ st1 τ H1 _ R1 (S.mono p1 s1) (Aft.seq h1 fun x st2 ρ2 G2 H2 u e2 p2 s2 R2 u2 h2=>?_)
 replace u1:=RW.mono p2 s2 u1
 split at h2
 ·rename_i i y
  split at h2
  ·rename_i ks l k em ek
   split at h2
   ·rename_i z ez
    have hk:=zF8 u2 ek;subst hk;obtain⟨a,ha,rfl⟩:=u1;obtain⟨b,hb,⟨vs,c1,zz,c2⟩,_⟩:=R2.at em;cases Jk (ha.symm.trans hb);obtain⟨v,ev,rv⟩:=c2.dkGet ez;exact⟨_,v,rfl,.inl ⟨_,k,.inl c1,rfl,ev.symm⟩,h2.here R2 rv⟩
   ·exact h2.elim
  ·exact h2.elim
 ·exact h2.elim
end
def zCL(a:Str) (n:Nat):Str:=⟨(List.replicate n a.cps.toList).flatten.toArray⟩
theorem zJG:∀(n:Nat) (a acc:Array Nat),(List.replicate n a).foldl (· ++ ·) acc=acc++(List.replicate n a.toList).flatten.toArray
 |0,a,acc=>by simp
 |n+1,a,acc=>by
  rw[Yx,List.foldl_cons,zJG n a,Yx,List.flatten_cons];apply Array.ext';simp
theorem zOL(a:Str) (n:Nat):(⟨(List.replicate n a.cps).foldl (· ++ ·) #[]⟩:Str)=zCL a n:=by
 unfold zCL;rw[zJG];simp
theorem zHc(a:Str) (n:Nat):(zCL a n).length=n*a.length:=by
 show(List.replicate n a.cps.toList).flatten.toArray.size=n*a.cps.size;simp
theorem zKB{a:Str}{n:Nat} (h:n=1∨a.length=0):zCL a n=a:=by
 unfold zCL;rcases h with rfl|h
 ·simp
 ·obtain⟨c⟩:=a;have h:c.size=0:=h
  have:c = #[]:=Array.eq_empty_of_size_eq_zero h
  subst this;simp
section
variable {K:PySem.W.Frag}{cl:Cls}{X:Cx}{Wx:WX}{E0:En}{ρ ρ':List Addr}{G G':Hp}{σ:Sg}{τ:L2.St}{st:List Cell}{H:Hp}{D:Ends}
def rMulS:R2:=fun x y H Q=>∃a n,x=.str a∧y=.int n∧0≤n∧n≤1000∧a.length≤1000∧Q (.str (zCL a n.toNat)) H
theorem zRe:OpR X (binaryOp .Mult) rMulS:=by
 intro pins s σ H x y v u Q I rx ry h;obtain⟨a,n,rfl,rfl,n0,n1,al,q⟩:=h;obtain⟨t,rfl⟩:=rx;obtain⟨t2,rfl⟩:=ry;refine P.mul_str ?_ (fun _ _=>?_) (fun _ _=>?_) ?_
 ·rw[JM ∅,JM ∅];rfl
 ·have hm:(a.length:Int)*n≤1000*1000:=Int.mul_le_mul ∅ n1 n0 (!0)
  have:=Int.le_ediv_of_mul_le (a:=(a.length:Int)) (b:=2^63-1) (c:=n) ∅ ∅
  omega
 ·have hm:=VQ al (show n.toNat≤1000 by omega)
  unfold Builtin.Str.tooLong;rw[Vq];exact JM ∅
 ·split
  ·obtain rfl:n=0:=by omega
   exact⟨!0,.str (zCL a 0),H,I.tok _,⟨s.toks,by unfold zCL;simp;rfl⟩,q⟩
  ·split
   ·rename_i h1
    rw[bX,jb,jb]at h1;have e:=zKB (a:=a) (n:=n.toNat) ∅;exact⟨.str (zCL a n.toNat),H,I,⟨t,by rw[e]⟩,q⟩
   ·rw[zOL];have hm:=VQ (show n.toNat≤1000 by omega) al
    exact⟨by rw[zHc,Vq];omega,.str (zCL a n.toNat),H,I.tok _,⟨_,rfl⟩,q⟩
def zIe(x y:W) (st:List Cell):Res W:=match x,y with
 | .p (.str a),.p (.int n)=>if 0≤n∧n≤1000∧a.length≤1000 then .ok (.p (.str (zCL a n.toNat))) st else .no
 |_,_=>.no
theorem zPL:VOp K cl zIe rMulS:=by
 intro E0 ρ G st H x y v u Q Z R rx ry h;unfold zIe at h;split at h
 ·cases rx;cases ry;split at h
  ·rename_i hn
   exact⟨_,_,rfl,rfl,hn.1,hn.2.1,hn.2.2,h.here R (RP.str _)⟩
  ·exact h.elim
 ·exact h.elim
theorem zOF{a b:EM}{pa pb:Expr}{pos:Pos} (ha:SE K cl X Wx a pa) (hb:SE K cl X Wx b pb):SE K cl X Wx (mBin zIe a b) (.BinOp pa .Mult pb pos):=zGV zRe zPL ha hb
end
section
variable {K:PySem.W.Frag}{cl:Cls}{X:Cx}{Wx:WX}{E0:En}{ρ:List Addr}{G:Hp}{σ:Sg}{st:List Cell}{τ:L2.St}{H:Hp}
def zFn(w:W) (ws:List W) (st:List Cell):Res W:=match(listOf st w).bind intsOf,ws with
 |some l,[.p (.int i)]=>match l.findIdx? (· == i)with
  |some j=>.ok (.p (.int (j:Nat))) st
  |none=>.no
 |_,_=>.no
theorem zIy:VMt K cl zFn (rIndex K):=by
 intro E0 ρ G st H w v ws vs Q Z R r rs h;unfold zFn at h;split at h
 ·rename_i l i el
  obtain⟨a,rfl,hs⟩:=zGw R r el;obtain⟨u,rfl,ru⟩:=rs.one;cases ru;split at h
  ·rename_i j ej
   obtain⟨hj,hp,hn⟩:=YD.mp ej;have e:l[j]=i:=by simpa using hp
   refine⟨a,_,_,j,.int i,rfl,rfl,hs,rfl,?_,?_,?_,?_,h.here R (RP.int _)⟩
   ·rw[VR];exact Jp.mpr fun x _=>rfl
   ·rw[Jd,Ja hj,e];rfl
   ·show(i==i)=true;simp
   ·intro m z' hm hz;rw[Jd,Ja ∅]at hz;cases hz
    have:=hn m hm
    simpa[eqV]using this
  ·exact h.elim
 ·exact h.elim
end
section
variable {X:Cx}{CX:CXT}{k i:Nat}{C f:Addr}{fd:FuncData}{ps:List Str}{sp:Sp}{E:XK}{x:Str}{p pos:Pos}{e:Expr}{es:List Expr}{t:TA}{ds:List Value}{dvs:List V}
theorem zPQ(M:Mk X.K C f) (F:FnOk X.prog X.w X.K X.mg X.base CX k f fd ps sp) (hr:Room (k+1) X.A) (hb:L2.Binds X.K fd ps ds) (hdv:Vals dvs ds) (hx:Passes CX X E) (ha:PA X (e::es) t)
  (hN:X.N[i]?=some x) (hv:Vis X.env.scope x) (hd:(x==("__debug__" : Str))=false) (hcd:(x==("__classdict__" : Str))=false)
  (he:starEach (e::es) X.env=(false,eval e X.env)::starEach es X.env:=by rfl) (hpl:(backTo pos (starEach es X.env)).any (·.1)=false:=by rfl) :
  PE X (.Call (.Name x p) (e::es) [] pos) (fun σ H Q=>σ[i]?=some (some (.ref C))∧tMake C sp dvs E t σ H Q):=by
 refine⟨fun pins s σ H Q I ⟨hs,h⟩=>?_⟩
 refine bh (thn ((pe_var (pos:=p) (i:=i) hN hv hd hcd).run pins s σ H (fun v H1=>v=.ref C∧H1=H) I ⟨.ref C,hs,rfl,rfl⟩) fun u s1 ⟨v,H1,I1,r1,q1⟩=>?_)
 obtain⟨rfl,rfl⟩:=q1;obtain rfl:u=Value.ref C:=r1;refine PySem.W.callWith_K (h₀:=X.base) I1.ok.mod.kin M.kp (thn (ha.run pos pins s1 σ H1 _ I1 h) fun us s2 ⟨vs,H2,I2,r,q⟩=>⟨I2.kIn,?_⟩) he hpl
 exact run_make M F hr hb hdv hx I2 r q
end
structure Dk (P:Program) (w:World) (K:PySem.W.Frag) (mg:Str→Option Value) (base:Heap) (cl:Cls) (k:Nat) (f:Addr) (ps:List Str) (F:FM) (dvs:List V):Prop where
 ex:∃fd ds,FnOk P w K mg base (L2.CX P w) k f fd ps (spF K cl F)∧L2.Binds K fd ps ds∧Vals dvs ds
section
variable {K:PySem.W.Frag}{cl:Cls}{X:Cx}{Wx:WX}{E0:En}{ρ ρ':List Addr}{G G':Hp}{σ:Sg}{τ:L2.St}{st:List Cell}{H:Hp}{D:Ends}
variable {f:Addr}{fd:FuncData}{ps:List Str}{F:FM}{a:AM}{k:Nat}{x m:Str}{p pos apos:Pos}{e:Expr}{es:List Expr}
theorem Xk.dk{P:Program}{w:World}{mg:Str→Option Value}{base:Heap} (h:Xk P w K mg base cl k f ps F):Dk P w K mg base cl k f ps F []:=by
 obtain⟨fd,h1,h2⟩:=h.ex;exact⟨fd,[],h1,h2,.nil⟩
def zPr(i c:Nat) (σ:Sg):Bool:=match σ[i]? with
 |some (some (.p (.cls d)))=>d==c
 |_=>false
def zKu(i c n:Nat) (F:FM) (a:AM):EM:=fun σ st=>if zPr i c σ=true then(a σ st).bind fun ws st1=>zHI c n F ws st1 else .no
theorem makeLK{C:Addr}{ns:List Str}{c n i:Nat} (h:Xk X.prog X.w X.K X.mg X.base cl k f ps F) (g:GX K X) (tk:Takes X Wx) (wi:WI Wx) (hr:Room (k+1) X.A) (hC:cl[c]?=some (C,ns)) (hn:ns.length=n) (M:Mk K C f)
  (ha:SA K cl X Wx a (e::es)) (hN:X.N[i]?=some x) (hv:Vis X.env.scope x) (hd:(x==("__debug__" : Str))=false) (hcd:(x==("__classdict__" : Str))=false)
  (he:starEach (e::es) X.env=(false,eval e X.env)::starEach es X.env:=by rfl) (hpl:(backTo pos (starEach es X.env)).any (·.1)=false:=by rfl) :
  SE K cl X Wx (zKu i c n F a) (.Call (.Name x p) (e::es) [] pos):=by
 obtain⟨hK,_⟩:=g;subst hK;obtain⟨fd,h1,h2⟩:=h.ex;refine⟨fun E0 ρ G σ st τ H Q R S h=>T.of (zPQ (E:=fun c d H'=>Wx c d τ H') M h1 hr h2 .nil (bH tk fun c d σ H q=>wi c d τ σ H q) TA'.pa hN hv hd hcd he hpl) ?_⟩
 unfold zKu at h;split at h
 case isFalse=>exact h.elim
 rename_i hi
 unfold zPr at hi;split at hi
 case h_2=>cases hi
 rename_i d ed
 obtain rfl:d=c:=by simpa using hi
 obtain⟨v,e1,r1⟩:=S.2 i _ ed;have r1:RP X.K cl G (.cls d) v:=r1
 have hv:v=.ref C:=by
  cases r1 with
  |cls hc=>rw[hC]at hc;cases hc;rfl
 subst hv;refine⟨e1,?_⟩;refine ha.run E0 ρ G σ st τ H _ R S (Aft.seq h fun ws st1 ρ1 G1 H1 vs e1 p1 s1 R1 u1 h1=>?_)
 intro y dx hy hdx hne;rw[Vt];exact zLI hC hn R1 u1 h1 hy hdx hne
def zHb(c:Nat) (F:FM) (dfl:List P) (a:AM):EM:=fun σ st=>(a σ st).bind fun ws st1=>zAM F (.p (.cls c)::(ws++dfl.map W.p)) st1
theorem zM7{C q:Addr}{ns:List Str}{c:Nat}{dvs:List V}{dfl:List P}{pl:Sem Bool}{p1:Pos} (h:Dk X.prog X.w X.K X.mg X.base cl k f ps F dvs) (hdf:∀G,RPs K cl G dfl dvs) (g:GX K X) (tk:Takes X Wx) (wi:WI Wx) (hr:Room k X.A) (hC:cl[c]?=some (C,ns))
  (r:ClX.CRead K C (.type "type")) (cm:ClX.CMet K C (.type "type") m q f) (hg:Gl X x) (hm:X.mg x=some (.ref C)) (hdb:(x==("__debug__" : Str))=false)
  (ha:SA K cl X Wx a (e::es))
  (hst:starEach (e::es) X.env=(false,eval e X.env)::starEach es X.env:=by rfl) (hpl:(backTo pos (starEach es X.env)).any (·.1)=false:=by rfl)
  (ht:eval (.Call (.Attribute (.Name x p1) m apos) (e::es) [] pos) X.env=(do
   let ov ←eval (.Name x p1) X.env
   standAt apos.atName
   let (f,first) ←holding [ov] (getMethod ov m pl)
   callWith pos f first (backTo pos (starEach (e::es) X.env)) (backToKw pos (keywordEach [] X.env))):=by rfl):SE K cl X Wx (zHb c F dfl a) (.Call (.Attribute (.Name x p1) m apos) (e::es) [] pos):=by
 obtain⟨hK,_⟩:=g;subst hK;obtain⟨fd,ds,h1,h2,h3⟩:=h.ex;refine⟨fun E0 ρ G σ st τ H Q R S h=>T.of (ClX.pe_cmeth (E:=fun c d H'=>Wx c d τ H') (pe_glob (v:=.ref C) hg hm rfl hdb) r cm (h1.raw h2 h3) hr (bH tk fun c d σ H q=>wi c d τ σ H q) TA'.pa hst hpl ht) ?_⟩
 refine⟨rfl,?_⟩;refine ha.run E0 ρ G σ st τ H _ R S (Aft.seq h fun ws st1 ρ1 G1 H1 vs e1 p1 s1 R1 u1 h1=>?_)
 exact zDG R1 (.cons (show RW X.K cl ρ1 G1 (.p (.cls c)) (.ref C)from RP.cls hC) (RWs.append u1 (.of_pures (hdf G1)))) h1
end
structure ClsM (K:PySem.W.Frag) (C:Addr) (m:Str):Prop where
 rd:ClX.CRead K C (.type "type")
 cm:ClX.CMet K C (.type "type") m (He.ma K C m) (He5.wf K C "classmethod" m)
theorem cmB_ok{K:PySem.W.Frag}{C:Addr}{m:Str} (h:cmB K C m=true):ClsM K C m:=by
 unfold cmB at h;simp only[Js]at h;obtain⟨⟨⟨h1,h2⟩,h3⟩,h4⟩:=h;exact⟨⟨h1,YK h2⟩,He5.cmet_of h3 h4⟩
section
variable {K:PySem.W.Frag}{x qual:Str}{params:Arguments}{body:List Stmt}{scope:Scope}{f:Addr}{fd:FuncData}{ps ks:List Str}{dvs:List V}{kws kws':List (Str×V)}
theorem FunD.kwd(F:FunD K x qual params body scope dvs kws' f fd) (h:zQP K f kws=true):FunD K x qual params body scope dvs kws f fd:=by
 obtain⟨oc,od,dV,kV,doc,pm,an,cdv,ct,osl,e,lk,hcd,hD,hK⟩:=F.ex;subst e;unfold zQP at h;rw[lk]at h;exact⟨⟨oc,od,dV,kV,doc,pm,an,cdv,ct,osl,rfl,lk,hcd,hD,He.kwdB_ok h⟩,F.kp⟩
end
structure XkW (Wk:FuncData→Prop) (P:Program) (w:World) (K:PySem.W.Frag) (mg:Str→Option Value) (base:Heap) (cl:Cls) (k:Nat) (f:Addr) (ps:List Str) (F:FM):Prop where
 ex:∃fd,FnOk P w K mg base (L2.CX P w) k f fd ps (spF K cl F)∧Wk fd
 kp:PySem.W.keepIn K (.ref f)=true
section
variable {K:PySem.W.Frag}{cl:Cls}{Wk:FuncData→Prop}{P:Program}{w:World}{mg:Str→Option Value}{base:Heap}{k:Nat}{f:Addr}{ps:List Str}{F:FM}{dvs:List V}{kws:List (Str×V)}
theorem XkW.of{N:List Str}{x qual:Str}{params:Arguments}{body:List Stmt}{scope:Scope}{m:SMm}
  (F:∃fd,FunD K x qual params body scope dvs kws f fd) (S:FnScope N ps scope) (hw:∀fd,FunD K x qual params body scope dvs kws f fd→Wk fd)
  (hb:∀(cd:Value) (A:Around) (outer:List Env) (s:Shared) (H:Hp) (E:XK),GX K (cxE P w K mg base N qual scope f cd A outer s H E)→Takes (cxE P w K mg base N qual scope f cd A outer s H E) (WE E)→Room k (A.deeper (envOfC qual scope s.heap.objs.size f cd))→SSs K cl (cxE P w K mg base N qual scope f cd A outer s H E) (WE E) m body) :
  XkW Wk P w K mg base cl (k+1) f ps (runX ps.length N.length m):=by
 obtain⟨fd,F⟩:=F;exact⟨⟨fd,zNw F S fun cd A outer s H E hr=>hb cd A outer s H E (zOQ S hr) zMz hr,hw fd F⟩,F.kp⟩
theorem XkW.dk(h:XkW Wk P w K mg base cl k f ps F) (hw:∀fd,Wk fd→∃ds,Vals dvs ds∧L2.Binds K fd ps ds):Dk P w K mg base cl k f ps F dvs:=by
 obtain⟨fd,h1,h2⟩:=h.ex;obtain⟨ds,h3,h4⟩:=hw fd h2;exact⟨fd,ds,h1,h4,h3⟩
end
section
variable {K:PySem.W.Frag}{cl:Cls}{X:Cx}{Wx:WX}{E0:En}{ρ ρ':List Addr}{G G':Hp}{σ:Sg}{τ:L2.St}{st:List Cell}{H H':Hp}{D:Ends}
theorem Rel.freezeX(R:Rel K cl E0 ρ G st H){i:Nat}{c:Cell}{a:Addr}{o:HO} (h:st[i]?=some c) (hc:c≠.dead) (ha:ρ[i]?=some a) (nt:NT o:=by intro _ z;cases z) :
  Rel K cl E0 ρ (upd G a o) (st.set i .dead) (upd H a o):=by
 have hi:i<st.length:=(Jb.mp h).1;have ga:G a=none:=(R.sep i c a h ha).resolve_left hc
 have same:∀(j:Nat) b,ρ[j]?=some b→b=a→j=i:=fun j b e z=>by
  subst z;have h1:=Jb.mp e;have h2:=Jb.mp ha;exact(Yb (h₀:=h1.1) (h₁:=h2.1) R.nd).mp (h1.2.trans h2.2.symm)
 obtain⟨u0,hu0,pu0⟩:=(R.cell i c a h ha).po hc;refine⟨by rw[J5];exact R.len,R.nd,fun j e b e1 e2=>?_,fun j e b e1 e2=>?_,fun b u e=>?_,fun b u e q=>?_,R.new,R.n0,fun b u e=>?_,R.ent,fun b u e=>?_,fun q hq=>(zHx (R.tabs q hq) hu0 pu0).sub (Sub.new ga)⟩
 ·by_cases hj:j=i
  ·subst hj;rw[Jw hi]at e1;rw[ha]at e2;cases e1;cases e2;exact⟨_,JC⟩
  ·rw[Jv (bo hj)]at e1;exact(R.cell j e b e1 e2).mono (Jh _) (Sub.new ga) (JO fun z=>hj (same j b e2 z))
 ·by_cases hj:j=i
  ·subst hj;rw[Jw hi]at e1;cases e1;exact .inl rfl
  ·rw[Jv (bo hj)]at e1;rw[JO fun z=>hj (same j b e2 z)]
   exact R.sep j e b e1 e2
 ·by_cases z:b=a
  ·subst z;rw[JC]at e ⊢;exact e
  ·rw[JO z]at e ⊢;exact R.sub b u e
 ·have ne:b≠a:=fun z=>by
   subst z
   by_cases hn:i<E0.n0
   ·exact q i hn ha
   ·rw[R.new i b ∅ ha]at e;cases e
  rw[JO ne];exact R.old b u e q
 ·by_cases z:b=a
  ·subst z
   by_cases hn:i<E0.n0
   ·exact .inr (.inr ⟨i,hn,ha⟩)
   ·exact .inr (.inl (R.new i b ∅ ha))
  ·rw[JO z]at e;exact R.grow b u e
 ·by_cases z:b=a
  ·subst z;rw[JC]at e;cases e;exact nt
  ·rw[JO z]at e;exact R.gnt b u e
def keyD:Key→P
 | .inl i=>.int i
 | .inr z=>.str z
theorem zRy(k:Key):RP K cl G (keyD k) (kV k):=by
 cases k with
 |inl i=>exact .int i
 |inr z=>exact .str z
def vSrcD:W→Option Src
 | .p (.fd ks _)=>some (srcL (ks.map fun k=>.p (keyD k)))
 |_=>none
def zPy(m:EM):IM:=fun σ st=>(m σ st).bind fun w st1=>match vSrcD w with
 |some s=>.ok s st1
 |none=>.no
theorem zip_get{α β:Type}{l:List α}{m:List β} (h:l.length=m.length){i:Nat}{x:α} (e:l[i]?=some x):∃y,m[i]?=some y∧(l.zip m)[i]?=some (x,y):=by
 have hi:=(Jb.mp e).1;refine⟨m[i],by rw[Ja],?_⟩
 rw[Yr];exact⟨e,by rw[Ja]⟩
theorem zPm{a:Addr}{od:Obj}{ks:List Key}{vs:List V} (hh:G a=some (.frz od (.dK (ks.zip vs)))) (hz:ks.length=vs.length):WOk K cl ρ G (Itk a od (ks.zip vs)) (srcL (ks.map fun k=>.p (keyD k))):=by
 intro E0 ρ' G' st H i p s R;have hH:=R.sub _ _ (s _ _ hh);show match some (ks.map fun k=>W.p (keyD k))[i]? with|none=>True|some none=>_|some (some w)=>_
 rw[Jd];cases e:ks[i]? with
 |none=>exact⟨hH,by rw[zHz hz];exact JR.mp e⟩
 |some k =>
  obtain⟨v,ev,ez⟩:=zip_get hz e;refine⟨⟨hH,(Jb.mp ez).1⟩,fun y H' yl=>?_⟩
  obtain⟨rfl,k',v',e',rfl⟩:=yl;rw[ez]at e';cases e';exact⟨G',Sub.refl _,R,zRy k⟩
theorem zSu{m:EM}{tg e:Expr} (g:GX K X) (h:SE K cl X Wx m e):SI K cl X Wx tg (zPy m) e:=by
 obtain⟨hK,_⟩:=g;subst hK;refine⟨fun E0 ρ G σ st τ H R Rl S q=>TIc.of (pi_keys T.pe) ?_⟩
 refine h.run E0 ρ G σ st τ H _ Rl S (Aft.seq q fun w st1 ρ1 G1 H1 v e1 p1 s1 R1 u1 h1=>?_)
 cases w with
 |r j=>exact h1.elim
 |p x =>
  cases x with
  |fd ks l =>
   cases u1 with
   |fd hh z qq=>exact⟨_,_,rfl,.inl ⟨_,R1.sub _ _ hh,h1 ρ1 G1 H1 _ (Jh _) (Sub.refl _) R1 (zPm hh z)⟩⟩
  |_=>exact h1.elim
def zL2(w x:W) (st:List Cell):Res W:=match w,x with
 | .p (.fd ks l),.p y=>match(keyP y).bind fun k=>dkGet ks l k with
  |some z=>.ok (.p z) st
  |none=>.no
 |_,_=>.no
def zJB(o a:EM):EM:=fun σ st=>(o σ st).bind fun w st1=>(a σ st1).bind fun x st2=>zL2 w x st2
theorem zPf{o a:EM}{eo e:Expr}{pos:Pos} (g:GX K X) (hs:NoSl e) (ho:SE K cl X Wx o eo) (ha:SE K cl X Wx a e):SE K cl X Wx (zJB o a) (.Subscript eo e pos):=by
 have hu:=g.hu;refine⟨fun E0 ρ G σ st τ H Q R S h=>T.of (pe_dget ∅ T.pe T.pe hs) ?_⟩
 refine ho.run E0 ρ G σ st τ H _ R S (Aft.seq h fun w st1 ρ1 G1 H1 v e1 p1 s1 R1 u1 h1=>?_)
 refine ha.run E0 ρ1 G1 σ st1 τ H1 _ R1 (S.mono p1 s1) (Aft.seq h1 fun x st2 ρ2 G2 H2 u e2 p2 s2 R2 u2 h2=>?_)
 replace u1:=RW.mono p2 s2 u1
 unfold zL2 at h2;split at h2
 ·rename_i ks l y
  split at h2
  ·rename_i z ez
   obtain⟨k,ek,ez⟩:=Option.bind_eq_some_iff.mp ez;have hk:=zF8 u2 ek;subst hk;cases u1 with
   |fd hh zz q =>
    obtain⟨v,ev,rv⟩:=q.dkGet ez;exact⟨_,v,rfl,.inl ⟨_,k,.inr ⟨_,R2.sub _ _ hh⟩,rfl,ev.symm⟩,h2.here R2 rv⟩
  ·exact h2.elim
 ·exact h2.elim
end
section
variable {K:PySem.W.Frag}{cl:Cls}{X:Cx}{Wx:WX}{E0:En}{ρ ρ':List Addr}{G G':Hp}{σ:Sg}{τ:L2.St}{st st':List Cell}{H H':Hp}
theorem Rel.reenter(R:Rel K cl E0 ρ G st H):Rel K cl ⟨strip H,ρ.length,G⟩ ρ G st H :=
 ⟨R.len,R.nd,R.cell,R.sep,R.sub,fun a u e _=>(zCf e).1,fun i a hi e=>absurd (Jb.mp e).1 (Nat.not_lt.mpr hi),JH _,fun a o e=>.inl e,fun a u e=>(zCf e).2,R.gnt,R.tabs⟩
theorem Rel.leave(R:Rel K cl E0 ρ G st H) (p:ρ <+: ρ') (s:Sub G G') (R':Rel K cl ⟨strip H,ρ.length,G⟩ ρ' G' st' H'):Rel K cl E0 ρ' G' st' H':=by
 have keep:∀i:Nat,i<ρ.length→ρ'[i]?=ρ[i]?:=fun i hi=>by
  obtain⟨t,rfl⟩:=p;exact Je hi
 refine⟨R'.len,R'.nd,R'.cell,R'.sep,R'.sub,fun a u e q=>?_,fun i a hi e=>?_,Vs R.n0 p.length_le,fun a o e=>?_,R.ent,R'.gnt,R'.tabs⟩
 ·have no:∀i:Nat,ρ[i]?≠some a:=fun i z=>by
   have hi:=(Jb.mp z).1
   by_cases hn:i<E0.n0
   ·exact q i hn (by rw[keep i hi];exact z)
   ·rw[R.new i a ∅ z]at e;cases e
  have h1:=R.old a u e fun i _=>no i
  exact R'.old a u (strip_of h1 (R.ent a u e)) fun i hi z=>no i (by rw[←keep i hi];exact z)
 ·by_cases hi2:i<ρ.length
  ·rw[keep i hi2]at e;exact R.new i a hi e
  ·exact(R.offF (R'.new i a (by show ρ.length≤i;omega) e)).2
 ·rcases R'.grow a o e with g|hn|⟨i,hi,ha⟩
  ·rcases R.grow a o g with g|g|⟨i,hi,ha⟩
   ·exact .inl g
   ·exact .inr (.inl g)
   ·exact .inr (.inr ⟨i,hi,by rw[keep i (Vb hi R.n0)];exact ha⟩)
  ·exact .inr (.inl (R.offF hn).2)
  ·have hi:i<ρ.length:=hi
   by_cases h0:i<E0.n0
   ·exact .inr (.inr ⟨i,h0,ha⟩)
   ·rw[keep i hi]at ha;exact .inr (.inl (R.new i a ∅ ha))
def zKq(F:FM) (a:AM):EM:=fun σ st=>(a σ st).bind fun ws st1=>(F ws st1).nox
theorem callWK{f:Addr}{ps:List Str}{F:FM}{a:AM}{k:Nat}{x:Str}{p pos:Pos}{e:Expr}{es:List Expr} (h:Fk X.prog X.w X.K X.mg X.base cl k f ps F) (g:GX K X) (hr:Room k X.A) (hg:Gl X x) (hm:X.mg x=some (.ref f))
  (ha:SA K cl X Wx a (e::es)) (hdb:(x==("__debug__" : Str))=false) (he:starEach (e::es) X.env=(false,eval e X.env)::starEach es X.env:=by rfl) (hpl:(backTo pos (starEach es X.env)).any (·.1)=false:=by rfl) :
  SE K cl X Wx (zKq F a) (.Call (.Name x p) (e::es) [] pos):=by
 obtain⟨hK,_⟩:=g;subst hK;obtain⟨fd,h1,h2⟩:=h.ex;refine⟨fun E0 ρ G σ st τ H Q R S hh=>T.of (pe_call (E:=L2.E0) h1 hr hg hm h.kp h2 .nil pass0 TA'.pa hdb he hpl) ?_⟩
 refine ha.run E0 ρ G σ st τ H _ R S (Aft.seq hh fun ws st1 ρ1 G1 H1 vs e1 p1 s1 R1 u1 h1=>?_)
 rw[Vt];refine⟨ρ1,G1,st1,ws,Rel.reenter R1,u1,?_⟩;have h1:=h1.noxZ (Z':=L2.E0);cases er:F ws st1 with
 |no=>rw[er]at h1;exact h1.elim
 |exc x st' =>
  rw[er]at h1;intro ρ' G' H' cls d p s R' u;exact h1 ρ' G' H' cls d p s (Rel.leave R1 p s R') u
 |ok w st' =>
  rw[er]at h1;intro ρ' G' H' v p s R' u;exact h1 ρ' G' H' v p s (Rel.leave R1 p s R') u
end
section
variable {α β γ δ:Type}
def stG(xs:List (NestedKey×α×β)) (k:NestedKey) (a:α) (v:β):List (NestedKey×α×β) :=
 if(xs.any fun x=>decide (x.1=k))=true then xs.map (fun x=>if x.1=k then(x.1,x.2.1,v)else x)else xs++[(k,a,v)]
def zEJ(xs ps:List (NestedKey×α×β)):List (NestedKey×α×β):=ps.foldl (fun acc p=>stG acc p.1 p.2.1 p.2.2) xs
def Ent(r:α→γ→Prop) (t:β→δ→Prop) (x:NestedKey×α×β) (y:NestedKey×γ×δ):Prop:=x.1=y.1∧r x.2.1 y.2.1∧t x.2.2 y.2.2
variable {r:α→γ→Prop}{t:β→δ→Prop}
theorem Ent.any{k:NestedKey}:∀ {xs:List (NestedKey×α×β)}{ys:List (NestedKey×γ×δ)},Paired (Ent r t) xs ys→(xs.any fun x=>decide (x.1=k))=ys.any fun x=>decide (x.1=k)
 |_,_,.nil=>rfl
 |_,_,.cons h q=>by rw[Ym,Ym,h.1,Ent.any q]
theorem Ent.put{k:NestedKey}{v:β}{u:δ} (hv:t v u):∀ {xs:List (NestedKey×α×β)}{ys:List (NestedKey×γ×δ)},Paired (Ent r t) xs ys →
  Paired (Ent r t) (xs.map fun x=>if x.1=k then(x.1,x.2.1,v)else x) (ys.map fun x=>if x.1=k then(x.1,x.2.1,u)else x)
 |_,_,.nil=>.nil
 |x::_,y::_,.cons h q=>by
  refine .cons ?_ (Ent.put hv q);show Ent r t (if x.1=k then(x.1,x.2.1,v)else x) (if y.1=k then(y.1,y.2.1,u)else y)
  by_cases e:x.1=k
  ·rw[JW e,JW (h.1▸e)];exact⟨h.1,h.2.1,hv⟩
  ·rw[Vh e,Vh (h.1▸e)];exact h
theorem Paired.snoc{R:α→γ→Prop}{a:α}{c:γ} (h:R a c):∀ {xs:List α}{ys:List γ},Paired R xs ys→Paired R (xs++[a]) (ys++[c])
 |_,_,.nil=>.cons h .nil
 |_,_,.cons h2 q=>.cons h2 (Paired.snoc h q)
theorem Ent.st{k:NestedKey}{a:α}{c:γ}{v:β}{u:δ} (ha:r a c) (hv:t v u){xs:List (NestedKey×α×β)}{ys:List (NestedKey×γ×δ)} (h:Paired (Ent r t) xs ys):Paired (Ent r t) (stG xs k a v) (stG ys k c u):=by
 unfold stG;rw[Ent.any h];split
 ·exact Ent.put hv h
 ·exact Paired.snoc ⟨rfl,ha,hv⟩ h
theorem Ent.all:∀ {ps:List (NestedKey×α×β)}{qs:List (NestedKey×γ×δ)}{xs:List (NestedKey×α×β)}{ys:List (NestedKey×γ×δ)},Paired (Ent r t) ps qs→Paired (Ent r t) xs ys→Paired (Ent r t) (zEJ xs ps) (zEJ ys qs)
 |_,_,_,_,.nil,h=>h
 |p::ps,q::qs,xs,ys,.cons h q',hx=>by
  show Paired _ (zEJ (stG xs p.1 p.2.1 p.2.2) ps) (zEJ (stG ys q.1 q.2.1 q.2.2) qs);rw[h.1];exact Ent.all q' (Ent.st h.2.1 h.2.2 hx)
end
theorem zNU(xs:List (NestedKey×Addr×Value)) (k:NestedKey) (a:Addr) (v:Value):storedH xs k a v=stG xs k a v:=by
 have e:(atKey xs k).isSome=xs.any fun x=>decide (x.1=k):=by
  unfold atKey;rw[Option.isSome_map,Vu,List.find?_isSome,Yc]
 unfold storedH stG;rw[e];rfl
mutual
inductive NK (K:PySem.W.Frag) (H:Hp):NestedKey→V→Prop
 |non:NK K H .none .non
 |int (i:Int):NK K H (.num i) (.int i)
 |text (x:Str):NK K H (.text x) (.str x)
 |tup {a:Addr}{vs:List V}{ks:List NestedKey}:SqT K H a vs→NKs K H ks vs→NK K H (.tup ks) (.ref a)
inductive NKs (K:PySem.W.Frag) (H:Hp):List NestedKey→List V→Prop
 |nil:NKs K H [] []
 |cons {k:NestedKey}{v:V}{ks:List NestedKey}{vs:List V}:NK K H k v→NKs K H ks vs→NKs K H (k::ks) (v::vs)
end
section
variable {K:PySem.W.Frag}{cl:Cls}{X:Cx}{Wx:WX}{E0:En}{ρ:List Addr}{G:Hp}{σ:Sg}{st:List Cell}{τ:L2.St}{H:Hp}
mutual
theorem NK.of(s:Sub G H):∀ {x:P}{v:V}{k:NestedKey},RP K cl G x v→nkP x=some k→NK K H k v
 | .non,_,_,.non,e=>by rw[nkP]at e;cases e;exact .non
 | .int i,_,_,.int _,e=>by rw[nkP]at e;cases e;exact .int i
 | .str z,_,_,.str _,e=>by rw[nkP]at e;cases e;exact .text z
 | .tup l,_,k,.tup h q,e=>by
  rw[nkP]at e;obtain⟨ks,e1,rfl⟩:=Jx.mp e;exact .tup (s.sqT h) (NKs.of s q e1)
theorem NKs.of(s:Sub G H):∀ {l:List P}{vs:List V}{ks:List NestedKey},RPs K cl G l vs→nkPs l=some ks→NKs K H ks vs
 |[],_,_,.nil,e=>by rw[nkPs]at e;cases e;exact .nil
 |x::l,_,ks,.cons r q,e=>by
  rw[nkPs]at e;split at e
  ·rename_i k ks' e1 e2
   cases e;exact .cons (NK.of s r e1) (NKs.of s q e2)
  ·cases e
end
theorem zCn{x:P}{k:NestedKey} (e:nkT x=some k):∃l,x=.tup l∧nkP x=some k∧k.depth≤8:=by
 unfold nkT at e;split at e
 ·split at e
  ·split at e
   ·rename_i e1 hd
    cases e;exact⟨_,rfl,e1,hd⟩
   ·cases e
  ·cases e
 ·cases e
theorem NK.ofT(s:Sub G H){x:P}{v:V}{k:NestedKey} (r:RP K cl G x v) (e:nkT x=some k):∃a,v=.ref a∧NK K H k (.ref a)∧k.depth≤8:=by
 obtain⟨l,rfl,e1,hd⟩:=zCn e;have n:=NK.of s r e1;cases r with
 |tup h q=>exact⟨_,rfl,n,hd⟩
end
section
variable {X:Cx}{pins:List (Addr×Obj)}{σ:L2.St}{H:Hp}{s:Shared}
mutual
theorem NK.is(I:Inv X pins σ H s):∀ {k:NestedKey}{v:V}{u:Value},NK X.K H k v→RelV v u→NestedIs s.heap k u
 |_,_,_,.non,r=>by cases(show _=Value.none from r);exact .none
 |_,_,_,.int i,r=>by obtain⟨t,rfl⟩:=(show ∃t,_=Value.int i t from r);exact .int i t
 |_,_,_,.text x,r=>by obtain⟨t,rfl⟩:=(show ∃t,_=Value.str x t from r);exact .text x t
 |_,_,_,.tup (a:=a) h q,r=>by
  cases(show _=Value.ref a from r)
  obtain⟨its,rv,⟨o,ho,hc,n,hd⟩,hz⟩:=I.tuple h;exact .tup ho hc hd (NKs.is I q rv)
theorem NKs.is(I:Inv X pins σ H s):∀ {ks:List NestedKey}{vs:List V}{us:List Value},NKs X.K H ks vs→Vals vs us→NestedAll s.heap ks us
 |_,_,_,.nil,.nil=>.nil
 |_,_,_,.cons h q,.cons r rv=>.cons (NK.is I h r) (NKs.is I q rv)
end
end
section
variable {X:Cx}
theorem zIG{w:World}{P:Program}:∀ {es:List (NestedKey×Addr×V)}{qs:List (NestedKey×Addr×Value)},Paired (Ent Eq RelV) es qs →
  Vals (es.map (·.2.2)) (qs.map (·.2.2))∧qs.map (entryOfKey (nestedKind P w))=zJ1 w (es.map (·.1)) (es.map (·.2.1)) (qs.map (·.2.2))∧qs.map (·.1)=es.map (·.1)
 |_,_,.nil=>⟨.nil,rfl,rfl⟩
 |(k,a,v)::es,(k',a',u)::qs,.cons h t=>by
  obtain⟨h1,h2,h3⟩:=h;cases h1;cases h2;obtain⟨i1,i2,i3⟩:=zIG (w:=w) (P:=P) t;exact⟨.cons h3 i1,by rw[Jl,i2];rfl,by rw[Jl,i3];rfl⟩
end
def nGet:List NestedKey→List V→NestedKey→Option V
 |x::ks,v::vs,k=>if x=k then some v else nGet ks vs k
 |_,_,_=>none
theorem zKY{w:World}{P:Program}:∀ {nks:List NestedKey}{as:List Addr}{vals:List Value},(z3 nks as vals).map (entryOfKey (nestedKind P w))=zJ1 w nks as vals
 |[],_,_=>rfl
 |_::_,[],_=>rfl
 |_::_,_::_,[]=>rfl
 |k::ks,a::as,v::vs=>by
  show _::_=_::_;rw[zKY];rfl
theorem zKE:∀ {nks:List NestedKey}{as:List Addr}{vals:List Value},nks.length=as.length→nks.length=vals.length→(z3 nks as vals).map (·.1)=nks
 |[],_,_,_,_=>rfl
 |_::_,[],_,h,_=>by simp at h
 |_::_,_::_,[],_,h=>by simp at h
 |k::ks,a::as,v::vs,h,h'=>by
  show k::_=_;rw[zKE (by simpa using h) (by simpa using h')]
theorem zQu{R:NestedKey→Addr→Prop}:∀ {nks:List NestedKey}{as:List Addr}{vals:List Value},Paired R nks as→∀x∈z3 nks as vals,R x.1 x.2.1
 |_,_,_,.nil,x,m=>nomatch m
 |_,_,[],.cons _ _,x,m=>nomatch m
 |_,_,v::vs,.cons h q,x,m=>by
  rcases Jo.mp m with rfl|m
  ·exact h
  ·exact zQu q x m
theorem zOr:∀ {nks:List NestedKey}{as:List Addr}{vals:List Value} (k:NestedKey),nks.length=as.length→nks.length=vals.length→(atKey (z3 nks as vals) k).isSome=decide (k∈nks)
 |[],_,_,k,_,_=>by simp[z3,atKey]
 |_::_,[],_,_,h,_=>by simp at h
 |_::_,_::_,[],_,_,h=>by simp at h
 |x::ks,a::as,v::vs,k,h,h'=>by
  have ih:=zOr (nks:=ks) (as:=as) (vals:=vs) k (by simpa using h) (by simpa using h')
  by_cases e:x=k
  ·simp[z3,atKey,e]
  ·have e':¬k=x:=fun z=>e z.symm
   simp only[z3,atKey,VT,JM e,Jo,e',false_or];exact ih
theorem zQj:∀ {nks:List NestedKey}{as:List Addr}{vs:List V}{vals:List Value}{k:NestedKey}{v:V},nks.length=as.length→Vals vs vals→nGet nks vs k=some v→∃p,atKey (z3 nks as vals) k=some p∧RelV v p.2
 |[],_,_,_,_,_,_,_,e=>by cases e
 |_::_,_,_,_,_,_,_,.nil,e=>by cases e
 |_::_,[],_,_,_,_,h,.cons _ _,_=>by simp at h
 |x::ks,a::as,v::vs,u::us,k,y,h,.cons r q,e=>by
  rw[nGet]at e
  by_cases c:x=k
  ·rw[JW c]at e;cases e;exact⟨(a,u),by simp[z3,atKey,c],r⟩
  ·rw[Vh c]at e;obtain⟨p,h1,h2⟩:=zQj (nks:=ks) (as:=as) (by simpa using h) q e
   refine⟨p,?_,h2⟩;simp only[z3,atKey,VT,JM c];exact h1
def NKA(K:PySem.W.Frag) (H:Hp) (nks:List NestedKey) (as:List Addr):Prop:=Paired (fun k a=>NK K H k (.ref a)∧k.depth≤8) nks as
section
variable {X:Cx}
theorem zRF{pins:List (Addr×Obj)}{σ:L2.St}{H:Hp}{s:Shared} (I:Inv X pins σ H s){a:Addr}{od:Obj}{nks:List NestedKey}{as:List Addr}{vs:List V} (ha:H a=some (exq a od)) (hn:NDat (some X.w) od nks as vs) (hk:NKA X.K H nks as) :
  ∃xs,s.heap.DictOfH (nestedKind X.prog X.w) a xs∧(∀k,(atKey xs k).isSome=decide (k∈nks))∧∀k v,nGet nks vs k=some v→∃p,atKey xs k=some p∧RelV v p.2:=by
 obtain⟨w0,vals,es,ep,hw,h1,h2,h3,h4,h5,h6,h7⟩:=hn;cases hw;have hl:nks.length=vals.length:=by rw[h6];exact h3.length
 refine⟨z3 nks as vals,⟨od,es,ep,zLO I.hok ha,h1,h2,by rw[h4,zKY],fun x m=>?_,by rw[zKE h5 hl];exact h7⟩,fun k=>zOr k h5 hl,fun k v e=>zQj h5 h3 e⟩
 have:=zQu hk x m
 exact⟨NK.is I this.1 rfl,this.2⟩
def rNk(K:PySem.W.Frag) (w:World) (q:V→V→List NestedKey→List V→NestedKey→Prop) (x y:V) (H:Hp):Prop:=∃(a:Addr) (od:Obj) (nks:List NestedKey) (as:List Addr) (vs:List V) (k:NestedKey) (b:Addr),x=.ref a∧y=.ref b∧H a=some (exq a od)∧(a==sysModules)=false∧NDat (some w) od nks as vs∧NKA K H nks as∧NK K H k (.ref b)∧k.depth≤8∧q x y nks vs k
theorem op_inN(hu:X.A.units+65<cLine):OpR X (compareOp .In) (fun y x H Q=>rNk X.K X.w (fun _ _ nks _ k=>Q (.bl (decide (k∈nks))) H) x y H):=by
 intro pins s σ H y x v u Q I ry rx h;obtain⟨a,od,nks,as,vs,k,b,rfl,rfl,ha,hd,hn,hk,nk,dp,q⟩:=h;cases(show u=Value.ref a from rx)
 cases(show v=Value.ref b from ry)
 obtain⟨xs,h1,h2,_⟩:=zRF I ha hn hk;refine wpAny_in_heap (knd:=nestedKind X.prog X.w) (by show _+8<_;simp only[Around.in1];omega) ⟨NK.is I nk rfl,dp⟩ hd h1 ?_
 rw[h2];exact⟨.bl _,H,I.tok _,rfl,q⟩
end
def inN(ks:List P) (k:NestedKey):Bool:=ks.any fun x=>decide (nkT x=some k)
def vInN(neg:Bool) (x y:W) (st:List Cell):Res W:=match x,y with
 | .p z,.p (.fn ks _)=>(match nkT z with
  |some k=>.ok (.p (.bl (inN ks k != neg))) st
  |none=>.no)
 |_,_=>.no
section
variable {K:PySem.W.Frag}{cl:Cls}{X:Cx}{Wx:WX}{E0:En}{ρ:List Addr}{G:Hp}{σ:Sg}{st:List Cell}{τ:L2.St}{H:Hp}{w:World}
def EntP(K:PySem.W.Frag) (cl:Cls) (G:Hp):NestedKey×P×P→NestedKey×Addr×V→Prop:=Ent (fun x a=>RP K cl G x (.ref a)) (fun y v=>RP K cl G y v)
theorem zN3{α:Type}{f:NestedKey×P×α→Prop} (hf:∀k x v u,f (k,x,v)→f (k,x,u)):∀ {pp xs:List (NestedKey×P×α)},(∀q∈pp,f q)→(∀q∈xs,f q)→∀q∈zEJ xs pp,f q:=by
 intro pp
 induction pp with
 |nil=>intro xs _ h;exact h
 |cons p pp ih =>
  intro xs h1 h2;refine ih (xs:=stG xs p.1 p.2.1 p.2.2) (fun q m=>h1 q (Jf _ m)) fun q m=>?_
  unfold stG at m;split at m
  ·obtain⟨x,mx,e⟩:=Jj.mp m;subst e;split
   ·exact hf _ _ x.2.2 _ (h2 x mx)
   ·exact h2 x mx
  ·rcases JI.mp m with m|m
   ·exact h2 q m
   ·rw[JS]at m;subst m;exact h1 p Jg
theorem zLN:∀ {pp:List (NestedKey×P×P)}{es:List (NestedKey×Addr×V)},Paired (EntP K cl G) pp es→(∀q∈pp,nkT q.2.1=some q.1) →
  (pp.map (·.2.1)).map nkT=(es.map (·.1)).map some∧RPs K cl G (pp.map (·.2.1)) ((es.map (·.2.1)).map V.ref)∧RPs K cl G (pp.map (·.2.2)) (es.map (·.2.2))
 |_,_,.nil,_=>⟨rfl,.nil,.nil⟩
 |(k,x,y)::pp,(k',a,v)::es,.cons h q,hk=>by
  obtain⟨i1,i2,i3⟩:=zLN q fun z m=>hk z (Jf _ m)
  have e:=hk (k,x,y) Jg;obtain⟨h1,h2,h3⟩:=h;cases h1;refine⟨?_,.cons h2 i2,.cons h3 i3⟩;rw[Jl,Jl,Jl,Jl,i1];exact congrArg (· :: _) e
theorem zQ0(s:Sub G H):∀ {ks:List P}{nks:List NestedKey}{as:List Addr},RPs K cl G ks (as.map V.ref)→ks.map nkT=nks.map some→NKA K H nks as
 |[],[],[],_,_=>.nil
 |[],_::_,_,_,e=>by simp at e
 |_::_,[],_,_,e=>by simp at e
 |[],[],_::_,r,_=>nomatch r
 |_::_,_::_,[],r,_=>nomatch r
 |x::ks,k::nks,a::as,.cons r q,e=>by
  rw[Jl,Jl]at e;obtain⟨e1,e2⟩:=VP e;obtain⟨a',ea,n1,n2⟩:=NK.ofT s r e1;cases ea;exact .cons ⟨n1,n2⟩ (zQ0 s q e2)
theorem zNe{k:NestedKey}:∀ {ks:List P}{nks:List NestedKey},ks.map nkT=nks.map some→inN ks k=decide (k∈nks)
 |[],[],_=>by simp[inN]
 |[],_::_,e=>by simp at e
 |_::_,[],e=>by simp at e
 |x::ks,y::nks,e=>by
  rw[Jl,Jl]at e;obtain⟨e1,e2⟩:=VP e;have ih:=zNe (k:=k) e2;unfold inN at ih ⊢;rw[Ym,ih,e1]
  by_cases c:y=k
  ·simp[c]
  ·have c':¬k=y:=fun z=>c z.symm
   simp[c,c']
theorem zR3(hw:cl.wd=some w):VOp K cl (vInN false) (fun y x H Q=>rNk K w (fun _ _ nks _ k=>Q (.bl (decide (k∈nks))) H) x y H):=by
 intro E0 ρ G st H x y v u Q Z R rx ry h;unfold vInN at h;split at h
 ·rename_i z ks l
  split at h
  ·rename_i k ek
   obtain⟨b,rfl,n1,n2⟩:=NK.ofT R.sub rx ek;cases ry with
   |fn hs hh hn hk hu q1 q2 =>
    subst hu;refine⟨_,_,_,_,_,k,b,rfl,rfl,R.sub _ _ hh,hs,hw▸hn,zQ0 R.sub q1 hk,n1,n2,?_⟩;have e0:∀c:Bool,(c != false)=c:=by decide
    rw[zNe hk,e0]at h;exact h.here R (RP.bl _)
  ·exact h.elim
 ·exact h.elim
variable {a b:EM}{pa pb:Expr}{pos:Pos}
theorem st_inN(g:GX K X) (hw:cl.wd=some X.w) (ha:SE K cl X Wx a pa) (hb:SE K cl X Wx b pb) (hm:behindInMarks .In pb=false:=by rfl):ST K cl X Wx (mTst (mBin (vInN false) a b)) (.Compare pa [.In] [pb] pos):=by
 have hu:=g.hu;obtain⟨hK,_⟩:=g;subst hK;exact zEB (op_inN hu) hm (zR3 hw) ha hb
end
theorem zQk{w:World}{P:Program}:∀ {es:List (NestedKey×Addr×V)}{vals:List Value},Vals (es.map (·.2.2)) vals→Paired (Ent Eq RelV) es (z3 (es.map (·.1)) (es.map (·.2.1)) vals)
 |[],_,h=>by cases h;exact .nil
 |(k,a,v)::es,_,h=>by
  rw[Jl]at h;cases h with
  |cons r q=>exact .cons ⟨rfl,rfl,r⟩ (zQk (w:=w) (P:=P) q)
def ND(w:World) (a:Addr) (es:List (NestedKey×Addr×V)):HO:=zPR (some w) a (es.map (·.1)) (es.map (·.2.1)) (es.map (·.2.2))
theorem zQE{wd:Option World}{a:Addr}{nks:List NestedKey}{as:List Addr}{vs:List V}:NT (zPR wd a nks as vs):=fun _ z=>by unfold zPR at z;cases z
def NKE(K:PySem.W.Frag) (H:Hp) (es:List (NestedKey×Addr×V)):Prop:=∀e∈es,NK K H e.1 (.ref e.2.1)∧e.1.depth≤8
section
variable {P:Program}{w:World}
theorem nd_ok{H:Hp}{h:Heap}{a:Addr}{es:List (NestedKey×Addr×V)}{qs:List (NestedKey×Addr×Value)} (d:h.DictOfH (nestedKind P w) a qs) (r:Paired (Ent Eq RelV) es qs):ObjOk P w H h a (ND w a es):=by
 obtain⟨od,es',ep,h1,h2,h3,h4,h5,h6⟩:=d;obtain⟨i1,i2,i3⟩:=zIG (w:=w) (P:=P) r;rw[i2]at h4;rw[i3]at h6;exact⟨⟨od,h1,w,_,es',ep,rfl,h2,h3,i1,h4,by simp,by simp,h6⟩,⟨od,h1⟩,fun h1 h2 ⟨o,e,n⟩ st=>⟨o,st o e,n⟩⟩
end
section
variable {X:Cx}{pins:List (Addr×Obj)}{σ:L2.St}{H:Hp}{s:Shared}
theorem zOm(I:Inv X pins σ H s){a:Addr}{es:List (NestedKey×Addr×V)} (ha:H a=some (ND X.w a es)) (hk:NKE X.K H es) :
  ∃qs,Paired (Ent Eq RelV) es qs∧s.heap.DictOfH (nestedKind X.prog X.w) a qs:=by
 obtain⟨⟨od,ho,w0,vals,es',ep,hw,h1,h2,h3,h4,h5,h6,h7⟩,_,_⟩:=(show(∃od,s.heap.get? a=some od∧NDat (some X.w) od _ _ _)∧_∧_ from I.hok a _ ha)
 cases hw;have r:=zQk (w:=X.w) (P:=X.prog) h3;have hl:(es.map (·.1)).length=vals.length:=by rw[h6];exact h3.length
 refine⟨_,r,od,es',ep,ho,h1,h2,by rw[h4,zKY],fun x m=>?_,by rw[zKE h5 hl];exact h7⟩
 obtain⟨i1,i2,i3⟩:=zIG (w:=X.w) (P:=X.prog) r
 have go:∀ {es:List (NestedKey×Addr×V)}{qs:List (NestedKey×Addr×Value)},Paired (Ent Eq RelV) es qs→∀x∈qs,∃e∈es,e.1=x.1∧e.2.1=x.2.1:=by
  intro es qs q
  induction q with
  |nil=>intro x m;nomatch m
  |cons h t ih =>
   intro x m;rcases Jo.mp m with rfl|m
   ·exact⟨_,Jg,h.1,h.2.1⟩
   ·obtain⟨e,me,e1⟩:=ih x m;exact⟨e,Jf _ me,e1⟩
 obtain⟨e,me,e1,e2⟩:=go r x m;obtain⟨n1,n2⟩:=hk e me;rw[e1,e2]at n1;rw[e1]at n2;exact⟨NK.is I n1 rfl,n2⟩
end
theorem zMN{X:Cx}{pins:List (Addr×Obj)}{σ:L2.St}{H:Hp}{s:Shared}{E:Value→Shared→Prop}{D b:Addr}{es:List (NestedKey×Addr×V)}{k:NestedKey}{v:V}{u r:Value}{Q:Unit→Shared→Prop} (hu:X.A.units+65<cLine) (I:L2.Inv X pins σ H s) (hD:H D=some (ND X.w D es)) (hk:NKE X.K H es)
  (nk:NK X.K H k (.ref b)) (dp:k.depth≤8) (hz:es.length<sizeLine) (ry:RelV (.ref b) u) (rv:RelV v r) (h:∀s',L2.Inv X pins σ (upd H D (ND X.w D (stG es k b v))) s'→Q () s'):wpAny (model X.prog X.w) X.A (dictSet D u r) Q E s:=by
 cases(show u=Value.ref b from ry)
 obtain⟨qs,rel,d⟩:=zOm I hD hk;refine wpAny_dictSet_heap (knd:=nestedKind X.prog X.w) (hsz:=by rw[←rel.length];omega) (by show _+8<_;omega) ⟨NK.is I nk rfl,dp⟩ d fun h' dd' hs'=>h _ ?_
 rw[zNU]at dd';have he:∃q,h'.get? D=some q:=let ⟨q,_,_,hq,_⟩:=dd';⟨q,hq⟩;exact d_write I (by rw[hD];exact True.intro) hs' he (nd_ok dd' (Ent.st rfl rv rel))
section
variable {X:Cx}
def tDcN(K:PySem.W.Frag) (w:World) (wi:TI) (g:TG) (tt:TT) (tk tv:TE) (vs:List Nat):TE:=fun σ H Q=>wi σ H fun J H1=>∀D,H1 D=none→(D==sysModules)=false→∃W:Nat→Nat→Hp→Prop,(∃m,W 0 m (upd H1 D (ND w D [])))∧∀i m H,W i m H →
 (J.stop i H∧Q (.ref D) H)∨(J.go i H∧∃Nx:Hp→Prop,(∀H',Nx H'→∃m',m'<m∧W (i+1) m' H')∧∀x H',J.yld i H x H'→g x (wipe σ vs) H' fun σ2 H2=>wipe σ2 vs=wipe σ vs∧tt σ2 H2 fun b H3 =>
  if b=true then tk σ2 H3 fun y H4=>tv σ2 H4 fun z H5=>∃es k b,y=.ref b∧H5 D=some (ND w D es)∧NKE K H5 es∧NK K H5 k (.ref b)∧k.depth≤8∧es.length<sizeLine∧Nx (upd H5 D (ND w D (stG es k b z)))else Nx H3)
end
end Y
namespace L2
open Y
section
variable {X:Cx}
theorem zQN{pins:List (Addr×Obj)}{s:Shared}{σ:St}{H:Hp}{Q:VK}{kx vx tg iter:Expr}{ifs:List Expr}{scope:Scope}{own:List (Str×Nat)}{pos pos':Pos}{wi:TI}{g:TG}{tt:TT}{tk tv:TE}{use:Option (Value→Sem Unit)}{Qf:Value→Shared→Prop}
  (hu:X.A.units+65<cLine) (hc:X.calm=true) (hN:X.N.Nodup) (I:Inv X pins σ H s) (hi:PI X tg iter wi) (ok:BlkOk X.N X.env.scope scope own)
  (hg:∀(s:Shared) (H:Hp) (C:Addr) (cl:List (Str×Addr)) (fp:List Addr),PG (X.blk s H scope (compEnvC scope cl C X.env) fp) tg g) (ht:∀(s:Shared) (H:Hp) (C:Addr) (cl:List (Str×Addr)) (fp:List Addr),PTs (X.blk s H scope (compEnvC scope cl C X.env) fp) ifs tt)
  (hk:∀(s:Shared) (H:Hp) (C:Addr) (cl:List (Str×Addr)) (fp:List Addr),PE (X.blk s H scope (compEnvC scope cl C X.env) fp) kx tk)
  (he:∀(s:Shared) (H:Hp) (C:Addr) (cl:List (Str×Addr)) (fp:List Addr),PE (X.blk s H scope (compEnvC scope cl C X.env) fp) vx tv) (hs:∀x,foldedSetIterable iter X.env x=pure x)
  (h:tDcN X.K X.w wi g tt tk tv (own.map (·.2)) σ H Q)
  (hRR:∀D C s' m H',Inv X pins σ H' s'→Q (.ref D) H'→s'.heap.Ns C m→FpOk X pins H' C→compPost (model X.prog X.w) X.A X.xe use Qf (.ref D) C (.ok .next) s') :
  wpAny (model X.prog X.w) X.A (comprehension (.DictComp kx vx [⟨tg,iter,ifs,0⟩] scope pos) scope X.env pos' newDict false (eval iter X.env) use) Qf X.xe s:=by
 have hfree:∀y∈scope.names,y.2=.free→∃c,X.env.cells.lookup y.1=some c:=fun y hy e=>by
  rcases ok.free y hy e with k|k
  ·exact I.ok.has _ (.inl k)
  ·exact I.ok.has _ (.inr k)
 refine bz (use:=use) rfl hs (closure_ok hfree) ok.kind (fun y hy e=>by rw[ok.uniq y hy,e])
  (thn (hi.run pins s σ H _ I h) fun xv s1 hx=>thn hx fun itv s2 h2=>?_)
 obtain⟨it,fp,tn,J,H2,e,I2,T,st2,f2,q⟩:=h2;subst e;refine wpAny_newObj_type (newEnv_comp ?_);generalize hD:s2.heap.objs.size=D;have hDn:H2 D=none:=I2.hok.fresh (bY hD);obtain⟨W,⟨m0,w0⟩,turn⟩:=q D hDn (VB.mpr (by rw[←hD];exact bU I2.big))
 -- the new list
 generalize hs3:({ s2 with heap:=s2.heap.push { cls:=.type "dict",data:=.dict #[] } }:Shared)=s3
 have I3:Inv X pins σ (upd H2 D (ND X.w D [])) s3:=by
  rw[←hs3];refine I2.laid (t':=s2.toks) (fun b o e=>Jn _ e) (bY hD) ?_
  rw[←hD];exact nd_ok (P:=X.prog) (Heap.DictOfH.new s2.heap) .nil
 have h3:s3.heap=s2.heap.push { cls:=.type "dict",data:=.dict #[] }:=by rw[←hs3]
 have sz:∀b∈fp,b<s2.heap.objs.size:=fun b hb=>by
  obtain⟨o,e,_⟩:=T.obj _ _ st2 b hb;exact JP e
 have f3:∀b∈fp,FpOk X pins (upd H2 D (ND X.w D [])) b∧b<s3.heap.objs.size:=fun b hb=>by
  have hlt:=sz b hb;refine⟨⟨?_,(f2 b hb).2⟩,by rw[h3,bt];exact VC hlt⟩
  rw[JO (by rw[←hD];exact Vd hlt)]
  exact(f2 b hb).1
 have st3:tn 0 s3.heap:=T.keep _ _ _ st2 fun b _ o e=>by rw[h3];exact Jn _ e
 have I4:=block_start I3 ok hN f3;have pg:=hg s3 (upd H2 D (ND X.w D [])) s3.heap.objs.size (cellsFrom (s3.heap.objs.size+1) scope.names (cloFrom X.env.cells scope.names [])) fp;have pt:=ht s3 (upd H2 D (ND X.w D [])) s3.heap.objs.size (cellsFrom (s3.heap.objs.size+1) scope.names (cloFrom X.env.cells scope.names [])) fp;have pk:=hk s3 (upd H2 D (ND X.w D [])) s3.heap.objs.size (cellsFrom (s3.heap.objs.size+1) scope.names (cloFrom X.env.cells scope.names [])) fp;have pe:=he s3 (upd H2 D (ND X.w D [])) s3.heap.objs.size (cellsFrom (s3.heap.objs.size+1) scope.names (cloFrom X.env.cells scope.names [])) fp;show codeAny _ _ (.compStart (.DictComp kx vx [⟨tg,iter,ifs,0⟩] scope pos) 0 (.ref it) (.ref D) (compEnvC scope (cellsFrom (s3.heap.objs.size+1) scope.names (cloFrom X.env.cells scope.names [])) s3.heap.objs.size X.env)) (compPost (model X.prog X.w) X.A X.xe use Qf (.ref D) s3.heap.objs.size) { s3 with heap:=pushCells (s3.heap.push { cls:=.type "dict",data:=.dict #[] }) scope.names }
 have nfp:∀b∈fp,(upd H2 D (ND X.w D [])) b=none:=fun b hb=>(f3 b hb).1.1
 generalize hce:compEnvC scope (cellsFrom (s3.heap.objs.size+1) scope.names (cloFrom X.env.cells scope.names [])) s3.heap.objs.size X.env=ce at I4 pg pt pk pe ⊢;have cL:ce.locals=s3.heap.objs.size:=by subst hce;rfl
 generalize hH3:upd H2 D (ND X.w D [])=H3 at I3 I4 pg pt pk pe w0 nfp f3;generalize hs4:({ s3 with heap:=pushCells (s3.heap.push { cls:=.type "dict",data:=.dict #[] }) scope.names }:Shared)=s4 at I4 ⊢
 have st4:tn 0 s4.heap:=T.keep _ _ _ st3 fun b _ o e=>by rw[←hs4];exact pushCells_keeps _ _ _ _ (Jn _ e)
 have stat:∀ {σ':St}{H':Hp}{s':Shared},Inv (X.blk s3 H3 scope ce fp) [] σ' H' s'→(∀b∈fp,H' b=none)→∀b∈fp,FpOk (X.blk s3 H3 scope ce fp) [] H' b:=fun{σ' H' s'} I' hn b hb =>
  ⟨hn b hb,(I'.ok.exf b hb).1,I'.ok.exfs b hb,.inl hb,fun x c e=>(I'.ok.exf b hb).2 x c e,fun p hp=>absurd (show p∈([]:List (Addr×Obj))++[]from hp) (by simp)⟩
 have loop:codeAny (model X.prog X.w) X.A (.compLoop (.DictComp kx vx [⟨tg,iter,ifs,0⟩] scope pos) 0 (.ref it) (.ref D) ce) (compPost (model X.prog X.w) X.A X.xe use Qf (.ref D) s3.heap.objs.size) s4:=by
  refine compLoop_anyD (fun n s'=>∃i H',Inv (X.blk s3 H3 scope ce fp) [] (wipe σ (own.map (·.2))) H' s'∧tn i s'.heap∧(∀b∈fp,H' b=none)∧W i n H') ?_ m0 ⟨0,H3,I4,st4,nfp,w0⟩
  rintro n s5 ⟨i,H5,I5,st5,n5,w5⟩;rcases turn i n H5 w5 with⟨stop,qq⟩|⟨go,Nx,hNx,step⟩
  ·have td:=T.done (X.blk s3 H3 scope ce fp) rfl rfl rfl hc i [] s5 _ H5 (fun _ _=>False) I5 (stat I5 n5) st5 stop
   refine thnF td fun r s6 ⟨hr,I6⟩=>?_
   subst hr
   -- back in the def's context
   have I7:Inv X pins σ H5 s6:=I3.call' (ch:=fp) I6.os I6.base I6.hok I6.bare fun b hb=>⟨(f3 b hb).1.2.2.2.1,(f3 b hb).1.2.1,(f3 b hb).1.2.2.2.2.1,(f3 b hb).1.2.2.2.2.2⟩
   have nC:H5 s3.heap.objs.size=none:=by
    have z:H5 ce.locals=none:=I6.free;rw[cL]at z;exact z
   obtain⟨m,hn,_⟩:=I6.loc;have hn:s6.heap.Ns ce.locals m:=hn;rw[cL]at hn;exact hRR D s3.heap.objs.size s6 m H5 I7 qq hn (I3.fpOk (JH _) nC)
  ·have ti:=T.item (X.blk s3 H3 scope ce fp) rfl rfl rfl hc i [] s5 _ H5 (fun _ _=>False) I5 (stat I5 n5) st5 go
   refine thnF ti fun r s6 ⟨u,hr,h6⟩=>?_
   subst hr;refine thnF h6 fun _ s7 ⟨x,H7,I7,r7,y7,st7,n7⟩=>?_
   have I7':=I7.pinned (stat I7 n7) (T.obj _ _ st7);refine thnF (pg.run _ s7 _ H7 x u _ I7' r7 (step x H7 y7)) fun _ s8 ⟨σ8,H8,I8,hw8,q8⟩=>?_
   refine thnF (pt.run _ s8 σ8 H8 _ I8 q8) fun b s9 ⟨H9,I9,q9⟩=>?_
   -- the turn's end
   have fin:∀ {s':Shared}{H':Hp},Inv (X.blk s3 H3 scope ce fp) ([]++pinsAt fp s7.heap) σ8 H' s'→Nx H'→∃m,m<n∧∃i H',Inv (X.blk s3 H3 scope ce fp) [] (wipe σ (own.map (·.2))) H' s'∧tn i s'.heap∧(∀b∈fp,H' b=none)∧W i m H':=fun{s' H'} I' nx=>by
    obtain⟨m',hm,w'⟩:=hNx H' nx
    have pin':∀b∈fp,∀o,s7.heap.get? b=some o→s'.heap.get? b=some o∧H' b=none:=fun b hb o e =>
     let z:=I'.pin (b,o) (VG _ (VG _ (mem_pinsAt hb e)))
     ⟨z.1,z.2.1⟩
    have hl:(wipe σ (own.map (·.2))).length=σ8.length:=by rw[←hw8,bD]
    refine⟨m',hm,i+1,H',(I'.unpinned (pins:=[])).weak hl (fun j v e=>?_),T.keep _ _ _ st7 fun b hb o e=>(pin' b hb o e).1,fun b hb=>?_,w'⟩
    ·rw[←hw8]at e;exact(wipe_some e).1
    ·obtain⟨o,e,_⟩:=T.obj _ _ st7 b hb;exact(pin' b hb o e).2
   cases b with
   |false =>
    simp only[Vc,YE]at q9 ⊢;exact fin I9 q9
   |true =>
    simp only[Ye]at q9 ⊢;refine thnF (pk.run _ s9 σ8 H9 _ I9 q9) fun z s10 ⟨yk,H10,I10,r10,q10⟩=>?_
    refine thnF (pe.run _ s10 σ8 H10 _ I10 q10) fun z2 s11 ⟨yv,H11,I11,r11,es,k,b,ek,hD11,hk11,nk,dp,hz11,nx⟩=>?_
    subst ek;exact zMN (X:=X.blk s3 H3 scope ce fp) hu I11 hD11 hk11 nk dp hz11 r10 r11 fun s12 I12=>fin I12 nx
 exact codeAny_compStart_dict loop (T.self X.A 0 _ _ _ st4 loop)
end
end L2
namespace Y
def dcFN(src:Src) (t:Tg) (c:TM) (mk mv:EM) (σ0:Sg):Nat→Nat→List (NestedKey×P×P)→List Cell→Res W
 |0,_,_,_=>.no
 |n+1,i,pp,st=>match src.get st i with
  |none=>.no
  |some none=>.ok (.p (.fn (pp.map (·.2.1)) (pp.map (·.2.2)))) st
  |some (some w)=>match t.put w σ0 with
   |none=>.no
   |some σ1=>(c σ1 st).nox.bind fun b st1=>if b=true then(mk σ1 st1).nox.bind fun x st2=>(mv σ1 st2).nox.bind fun y st3=>match x,y with
     | .p z,.p v=>match nkT z with
      |some k=>dcFN src t c mk mv σ0 n (i+1) (stG pp k z v) st3
      |none=>.no
     |_,_=>.no
    else dcFN src t c mk mv σ0 n (i+1) pp st1
def mDcN(m:IM) (t:Tg) (vs:List Nat) (c:TM) (mk mv:EM):EM:=fun σ st=>(m σ st).bind fun src st1=>if src.n≤LIM then dcFN src t c mk mv (zAv σ vs) (src.n+1) 0 [] st1 else .no
theorem zNB{α β:Type}{xs:List (NestedKey×α×β)}{k:NestedKey}{a:α}{v:β}:(stG xs k a v).length≤xs.length+1:=by
 unfold stG;split<;>simp
section
variable {K:PySem.W.Frag}{cl:Cls}{X:Cx}{Wx:WX}{E0:En}{ρ:List Addr}{G G':Hp}{σ:Sg}{st:List Cell}{τ:L2.St}{H:Hp}{w wo:World}
theorem EntP.mono(s:Sub G G'):∀ {pp:List (NestedKey×P×P)}{es:List (NestedKey×Addr×V)},Paired (EntP K cl G) pp es→Paired (EntP K cl G') pp es
 |_,_,.nil=>.nil
 |_,_,.cons h q=>.cons ⟨h.1,RP.mono s h.2.1,RP.mono s h.2.2⟩ (EntP.mono s q)
theorem zKs(s:Sub G H):∀ {pp:List (NestedKey×P×P)}{es:List (NestedKey×Addr×V)},Paired (EntP K cl G) pp es→(∀q∈pp,nkT q.2.1=some q.1)→NKE K H es
 |_,_,.nil,_,e,m=>nomatch m
 |p::_,x::_,.cons h q,hk,e,m=>by
  rcases Jo.mp m with rfl|m
  ·have k1:=hk p Jg;obtain⟨a,ea,n1,n2⟩:=NK.ofT s h.2.1 k1;cases ea;rw[h.1]at n1 n2;exact⟨n1,n2⟩
  ·exact zKs s q (fun z mz=>hk z (Jf _ mz)) e m
theorem zOq{m:IM}{t:Tg}{vs:List Nat}{c:TM}{mk mv:EM}{tg iter kx vx:Expr}{ifs:List Expr}{Y1:BJ→Cx}{Q:VK}
  (hi:SI K cl X Wx tg m iter) (ht:∀j,SG K cl (Y1 j) t tg) (hv:∀i∈t.slots,i∈vs) (hc:∀j,STs K cl (Y1 j) WF c ifs) (hk:∀j,SE K cl (Y1 j) WF mk kx) (he:∀j,SE K cl (Y1 j) WF mv vx)
  (hw:cl.wd=some wo) (R:(bs K cl E0).Rel ρ G st H) (S:RS K cl ρ G σ τ) (h:Aft (bs K cl E0) (bs K cl E0).RW ρ G (mDcN m t vs c mk mv σ st) Q (fun c d H'=>Wx c d τ H')) :
  tDcN K wo (TIc X tg iter) (fun v σ H Q=>∀j,TGc (Y1 j) tg v σ H Q) (fun σ H Q=>∀j,TTs' (Y1 j) ifs σ H Q) (fun σ H Q=>∀j,T (Y1 j) kx σ H Q) (fun σ H Q=>∀j,T (Y1 j) vx σ H Q) vs τ H (fun v H'=>∃D es,v=.ref D∧H' D=some (ND wo D es)∧∀od,NDat (some wo) od (es.map (·.1)) (es.map (·.2.1)) (es.map (·.2.2))→Q v (upd H' D (exq D od))):=by
 refine hi.run E0 ρ G σ st τ H _ R S (Aft.seq h fun src st1 ρ1 G1 H1 J e1 p1 s1 R1 wok h1=>?_)
 intro Dd hD hsys;split at h1
 case isFalse=>exact h1.elim
 rename_i hn
 refine⟨fun i k H'=>∃ρ' G' st' Gh pp es,ρ1 <+: ρ'∧Sub G1 G'∧HdO K cl E0 Dd ρ' G' st' H' Gh (ND wo Dd es)∧Paired (EntP K cl G') pp es∧(∀q∈pp,nkT q.2.1=some q.1)∧es.length≤i∧i+k≤src.n+1 ∧
  Aft (bs K cl E0) (bs K cl E0).RW ρ' G' (dcFN src t c mk mv (zAv σ vs) k i pp st') Q (fun c d H'=>Wx c d τ H'),⟨src.n+1,ρ1,G1,st1,G1,[],[],Jh _,Sub.refl _,HdO.start R1 hD zQE,.nil,(fun q m=>nomatch m),JH _,∅,h1⟩,?_⟩
 rintro i k H2 ⟨ρ2,G2,st2,Gh,pp,es,p2,s2,hd,hr,hg,ha,hk2,q2⟩;cases k with
 |zero=>exact q2.elim
 |succ k =>
  have w2:=wok _ ρ2 G2 st2 H2 i p2 s2 hd.R;unfold dcFN at q2;cases eg:src.get st2 i with
  |none=>rw[eg]at q2;exact q2.elim
  |some ow =>
   rw[eg]at q2 w2;cases ow with
   |none =>
    refine .inl ⟨w2,Dd,es,rfl,hd.held.1,fun od hn=>?_⟩
    obtain⟨i1,i2,i3⟩:=zLN hr hg;have hd3:=hd.put (o':=exq Dd od) ⟨zQE,trivial⟩ zQx;have R3:=hd3.data zQx;have sn:Sub G2 (upd G2 Dd (exq Dd od)):=Sub.new hd.held.2.1;exact q2 ρ2 (upd G2 Dd (exq Dd od)) _ (.ref Dd) (Jh _) sn R3 (RP.fn hsys JC (hw▸hn) i1 rfl (RPs.mono sn i2) (RPs.mono sn i3))
   |some w =>
    dsimp only at q2 w2
    refine .inr ⟨w2.1,fun H'=>∃ρ' G' st' Gh pp es,ρ1 <+: ρ'∧Sub G1 G'∧HdO K cl E0 Dd ρ' G' st' H' Gh (ND wo Dd es)∧Paired (EntP K cl G') pp es∧(∀q∈pp,nkT q.2.1=some q.1)∧es.length≤i+1∧i+1+k≤src.n+1 ∧
     Aft (bs K cl E0) (bs K cl E0).RW ρ' G' (dcFN src t c mk mv (zAv σ vs) k (i+1) pp st') Q (fun c d H'=>Wx c d τ H'),fun H' z=>⟨k,Vz k,z⟩,fun x H3 y=>?_⟩
    obtain⟨G3,s3,R3,r3⟩:=w2.2 x H3 y;have hd3:=hd.next (Jh _) s3 R3;have hr3:=EntP.mono s3 hr;cases ep:t.put w (zAv σ vs)with
    |none=>rw[ep]at q2;exact q2.elim
    |some σ3 =>
     rw[ep]at q2;dsimp only at q2;intro j;have S0:=(S.mono (p1.trans p2) (s1.trans (s2.trans s3)));refine(ht j).run ρ2 G3 H3 w x (zAv σ vs) σ3 _ _ R3.sub (S0.wipe vs) r3 ep fun τ3 S3 w3=>⟨(w3 vs hv).trans zGr,?_⟩
     intro j;have q3:=Aft.mono (Jh _) s3 q2;refine(hc j).run _ ρ2 G3 σ3 st2 τ3 H3 _ hd3.R S3 (Aft.seqH q3 fun b st4 ρ4 G4 H4 b' e4 p4 s4 R4 u4 q4=>?_)
     obtain rfl:b=b':=u4;have hd4:=hd3.next p4 s4 R4;have hr4:=EntP.mono s4 hr3;cases b with
     |false=>exact⟨ρ4,G4,st4,_,pp,es,p2.trans p4,s2.trans (s3.trans s4),hd4,hr4,hg,∅,∅,q4⟩
     |true =>
      simp only[Ye]at q4 ⊢;intro j;refine(hk j).run _ ρ4 G4 σ3 st4 τ3 H4 _ hd4.R (S3.mono p4 s4) (Aft.seqH q4 fun x5 st5 ρ5 G5 H5 y5 e5 p5 s5 R5 u5 q5=>?_)
      have hd5:=hd4.next p5 s5 R5;have hr5:=EntP.mono s5 hr4;intro j;refine(he j).run _ ρ5 G5 σ3 st5 τ3 H5 _ hd5.R (S3.mono (p4.trans p5) (s4.trans s5)) (Aft.seqH q5 fun x6 st6 ρ6 G6 H6 y6 e6 p6 s6 R6 u6 q6=>?_)
      have hd6:=hd5.next p6 s6 R6;have hr6:=EntP.mono s6 hr5;split at q6
      case h_2=>exact q6.elim
      rename_i z v
      split at q6
      case h_2=>exact q6.elim
      rename_i kk ek
      obtain⟨b,rfl,n1,n2⟩:=NK.ofT R6.sub (RP.mono s6 u5) ek;have nke:=zKs R6.sub hr6 hg;refine⟨es,kk,b,rfl,hd6.held.1,nke,n1,n2,zQ3 ∅,?_⟩;have hd7:=hd6.put (o':=ND wo Dd (stG es kk b y6)) ⟨zQE,trivial⟩ zQE;have zz:Paired (EntP K cl G6) (stG pp kk z v) (stG es kk b y6):=Ent.st (r:=fun x a=>RP K cl G6 x (.ref a)) (t:=fun y v=>RP K cl G6 y v) (RP.mono s6 u5) u6 hr6
      have gg:∀q∈stG pp kk z v,nkT q.2.1=some q.1:=zN3 (f:=fun q=>nkT q.2.1=some q.1) (fun _ _ _ _ h=>h) (pp:=[(kk,z,v)]) (fun q m=>by rw[JS]at m;subst m;exact ek) hg
      exact⟨ρ6,G6,st6,_,_,_,p2.trans (p4.trans (p5.trans p6)),s2.trans (s3.trans (s4.trans (s5.trans s6))),hd7,zz,gg,by have:=zNB (xs:=es) (k:=kk) (a:=b) (v:=y6);omega,∅,q6⟩
end
end Y
namespace L2
open Y
def ItKN(d:Addr) (o:Obj) (as:List Addr):It :=
 ⟨fun i H=>H d=some (exq d o)∧i<as.length,fun i H x H'=>H'=H∧∃q,as[i]?=some q∧x=.ref q,fun i H=>H d=some (exq d o)∧as.length≤i⟩
theorem zJQ{w:World}:∀ {nks:List NestedKey}{as:List Addr}{vals:List Value},nks.length=as.length→nks.length=vals.length→(zJ1 w nks as vals).length=as.length∧∀(i:Nat) (q:Addr),as[i]?=some q→∃en,(zJ1 w nks as vals)[i]?=some en∧en.key=.ref q
 |[],[],[],_,_=>⟨rfl,fun i q e=>by simp at e⟩
 |[],_::_,_,h,_=>by simp at h
 |[],[],_::_,_,h=>by simp at h
 |_::_,[],_,h,_=>by simp at h
 |_::_,_::_,[],_,h=>by simp at h
 |k::ks,a::as,v::vs,h,h'=>by
  obtain⟨i1,i2⟩:=zJQ (w:=w) (nks:=ks) (as:=as) (vals:=vs) (by simpa using h) (by simpa using h')
  refine⟨by show(zJ1 w ks as vs).length+1=_;rw[i1];rfl,fun i q e=>?_⟩
  cases i with
  |zero=>cases e;exact⟨_,rfl,rfl⟩
  |succ i=>exact i2 i q (by simpa using e)
def NRaw(o:Obj) (as:List Addr) (es:Array DictEntry) (ep:Nat):Prop:=o.ExactDict∧o.data=.dict es ep∧es.size=as.length∧∀(i:Nat) (q:Addr),as[i]?=some q→∃en,es[i]?=some en∧en.key=.ref q
theorem NDat.raw{wd:Option World}{o:Obj}{nks:List NestedKey}{as:List Addr}{vs:List V} (h:NDat wd o nks as vs):∃es ep,NRaw o as es ep:=by
 obtain⟨w0,vals,es,ep,_,h1,h2,h3,h4,h5,h6,_⟩:=h;obtain⟨i1,i2⟩:=zJQ (w:=w0) (nks:=nks) (as:=as) (vals:=vals) h5 (by rw[h6];exact h3.length)
 refine⟨es,ep,h1,h2,by rw[←Vf,h4,i1],fun i q e=>?_⟩
 obtain⟨en,e1,e2⟩:=i2 i q e;exact⟨en,by rw[←J6,h4];exact e1,e2⟩
section
variable {P:Program}{w:World}{K:PySem.W.Frag}{tg:Expr}{d:Addr}{o:Obj}{es:Array DictEntry}{ep:Nat}{as:List Addr}
theorem zMV(it:Addr) (r:NRaw o as es ep):Turn P w K tg (ItKN d o as) [it] it (fun i h=>h.IsKeyIter it d i as.length ep) where
 mem:=by simp
 obj:=fun i h st b hb=>by
  have e:b=it:=by simpa using hb
  subst e;obtain⟨oi,e,c,dd⟩:=st;exact⟨oi,e,fun v z=>by rw[dd]at z;cases z⟩
 keep:=fun i h h' st k=>st.at fun oi e=>k it (by simp) oi e
 item:=by
  intro X hP hw hK hc i pins s σ H E I hf st hg;subst hP hw hK;obtain⟨hd,hi⟩:=hg;obtain⟨f0,f1,f2,f3,f4,f5⟩:=hf it (by simp)
  obtain⟨_,r2,r3,r4⟩:=r;have ha:as[i]?=some as[i]:=Ja hi;obtain⟨en,e1,e2⟩:=r4 i _ ha;refine next_key_item st (zLO I.hok hd) r2 r3 e1 fun h' st' sb=>?_
  have I1:Inv X pins σ H { s with heap:=h' }:=I.turned (t':=s.toks) (fun b ob hb e=>(sb.2 b hb).trans e) f0 f1 f3 f4 f5
  obtain⟨oi,e,c,dd⟩:=id st';exact⟨en.key,rfl,go_of (s := { s with heap:=h' }) e c dd (!0) ⟨.ref as[i],H,I1,e2,⟨rfl,as[i],ha,rfl⟩,st',fun b hb=>(hf b hb).1⟩⟩
 done:=by
  intro X hP hw hK hc i pins s σ H E I hf st hg;subst hP hw hK;obtain⟨hd,hi⟩:=hg;obtain⟨f0,f1,f2,f3,f4,f5⟩:=hf it (by simp)
  obtain⟨_,r2,r3,r4⟩:=r;exact next_key_end (I.ok.hd hc) st (zLO I.hok hd) r2 r3 hi fun h' eb=>⟨rfl,I.turned (t':=s.toks) (fun b ob hb e=>eb b ob hb e) f0 f1 f3 f4 f5⟩
 self:=fun A i s Q E st h=>by
  refine wpAny_pyIter_slot st.typeIs YY (bO YY st.typeIs F.entry_dict_keyiterator_iter ?_ (F.args_dict_keyiterator_iter_1 _));show wpAny _ _ (ret (.ref it)) _ _ s;exact JA ⟨_,rfl, "dict_keyiterator",_,st.typeIs,F.slot_dict_keyiterator_next.lookup,h⟩
end
section
variable {X:Cx}{tg e:Expr}{td:TE}
def iKeysN(td:TE):TI:=fun σ H R=>td σ H fun x H1=>∃d o as nks vs wd,x=.ref d∧(d==sysModules)=false∧H1 d=some (exq d o)∧NDat wd o nks as vs∧R (ItKN d o as) H1
theorem zO2(he:PE X e td):PI X tg e (iKeysN td):=by
 refine⟨fun pins s σ H R I h=>?_⟩
 refine thn (he.run pins s σ H _ I h) fun u s1 ⟨x,H1,I1,rx,d,o,as,nks,vs,wd,ex,hs,hd,hn,q⟩=>?_
 subst ex;obtain rfl:u=Value.ref d:=rx;obtain⟨es,ep,r⟩:=NDat.raw hn;have r':=r;obtain⟨r1,r2,r3,r4⟩:=r';refine iter_keys hs (zLO I1.hok hd) r1 r2 (pi_one (tk:=s1.toks) I1 _ (zMV _ r) ⟨_,JK _ rfl,rfl,?_⟩ q);rw[r3]<;>rfl
end
end L2
namespace Y
section
variable {K:PySem.W.Frag}{cl:Cls}{X:Cx}{Wx:WX}{E0:En}{ρ:List Addr}{G:Hp}{σ:Sg}{st:List Cell}{τ:L2.St}{H:Hp}
def vSrcN:W→Option Src
 | .p (.fn ks _)=>some (srcL (ks.map W.p))
 |_=>none
def zHD(m:EM):IM:=fun σ st=>(m σ st).bind fun w st1=>match vSrcN w with
 |some s=>.ok s st1
 |none=>.no
theorem zLS:∀ {ks:List P}{as:List Addr}{i:Nat}{x:P},RPs K cl G ks (as.map V.ref)→ks[i]?=some x→∃a,as[i]?=some a∧RP K cl G x (.ref a)
 |[],_,_,_,_,e=>by simp at e
 |_::_,[],_,_,r,_=>nomatch r
 |x::ks,a::as,0,y,.cons r q,e=>by cases e;exact⟨a,rfl,r⟩
 |x::ks,a::as,i+1,y,.cons r q,e=>by
  obtain⟨b,e1,r1⟩:=zLS (i:=i) q (by simpa using e)
  exact⟨b,by simpa using e1,r1⟩
theorem zNN{a:Addr}{od:Obj}{ks:List P}{as:List Addr} (hh:G a=some (exq a od)) (r:RPs K cl G ks (as.map V.ref)):WOk K cl ρ G (ItKN a od as) (srcL (ks.map W.p)):=by
 intro E0 ρ' G' st H i p s R;have hH:=R.sub _ _ (s _ _ hh);have hl:ks.length=as.length:=by have:=RPs.length r;simpa using this
 show match some (ks.map W.p)[i]? with|none=>True|some none=>_|some (some w)=>_
 rw[Jd];cases e:ks[i]? with
 |none=>exact⟨hH,by rw[←hl];exact JR.mp e⟩
 |some x =>
  obtain⟨b,e1,r1⟩:=zLS r e;refine⟨⟨hH,(Jb.mp e1).1⟩,fun y H' yl=>?_⟩
  obtain⟨rfl,q,e',rfl⟩:=yl;rw[e1]at e';cases e';exact⟨G',Sub.refl _,R,RP.mono s r1⟩
theorem zHn{m:EM}{tg e:Expr} (g:GX K X) (h:SE K cl X Wx m e):SI K cl X Wx tg (zHD m) e:=by
 obtain⟨hK,_⟩:=g;subst hK;refine⟨fun E0 ρ G σ st τ H R Rl S q=>TIc.of (zO2 (X:=X) (tg:=tg) (e:=e) (T.pe (X:=X) (e:=e))) ?_⟩
 refine h.run E0 ρ G σ st τ H _ Rl S (Aft.seq q fun w st1 ρ1 G1 H1 v e1 p1 s1 R1 u1 h1=>?_)
 cases w with
 |r j=>exact h1.elim
 |p x =>
  cases x with
  |fn ks l =>
   cases u1 with
   |fn hs hh hn hk hu q1 q2 =>
    subst hu;exact⟨_,_,_,_,_,_,rfl,hs,R1.sub _ _ hh,hn,h1 ρ1 G1 H1 _ (Jh _) (Sub.refl _) R1 (zNN hh q1)⟩
  |_=>exact h1.elim
end
section
open GenW
inductive GR where
 |ok (f:Fl) (σ:Sg) (st:List Cell) (ys:List P)|exc (x:Exn) (σ:Sg) (st:List Cell)|no
def GR.then(r:GR) (k:Sg→List Cell→List P→GR):GR:=match r with
 | .ok .nx σ st ys=>k σ st ys
 |r=>r
def SR.gr(r:SR) (ys:List P):GR:=match r with
 | .ok f σ st=>.ok f σ st ys
 | .exc x σ st=>.exc x σ st
 | .no=>.no
def Res.gto{α:Type} (r:Res α) (σ:Sg) (k:α→List Cell→GR):GR:=match r with
 | .ok a st=>k a st
 | .exc x st=>.exc x σ st
 | .no=>.no
def Pjk.pj:Pjk→P→Option P
 | .id,x=>some x
 | .fst,.tup [a,_]=>some a
 | .fst,_=>none
end
section
open GenW
def lsE(l:List Nat) (r:Res W):Res W:=match r with
 | .exc x st=>if l.contains x.c=true then .exc x st else .no
 |r=>r
def NoSt(K:PySem.W.Frag) (cl:Cls) (l:List Nat):Prop:=∀c,l.contains c=true→∀C ns,cl[c]?=some (C,ns)→PySem.W.subIn K (.ref C) (.type "StopIteration")=some false
section
variable {K:PySem.W.Frag}{cl:Cls}{X:Cx}{Wx:WX}{k:Nat}{f:Addr}{ps:List Str}{F:Pjk→FM}{x m nm:Str}{p p2 pos pos2 apos:Pos}{e:Expr}{es:List Expr}{pk:Pjk}{elt tg:Expr}{sc:Scope}{a:AM}{o:EM}{eo:Expr}
theorem Aft.ls{B:Bs}{ρ:List Addr}{G:Hp}{R:Res W}{Q:VK}{Z:ZX}{l:List Nat} (n:NoSt B.K B.cl l) (h:Aft B B.RW ρ G (lsE l R) Q Z):Aft B B.RW ρ G R Q (fun c d H=>Z c d H∧PySem.W.subIn B.K c (.type "StopIteration")=some false):=by
 cases R with
 |ok a st=>exact h
 |no=>exact h
 |exc x st =>
  have h:Aft B B.RW ρ G (if l.contains x.c=true then .exc x st else .no) Q Z:=h
  by_cases hc:l.contains x.c=true
  ·rw[JW hc]at h;refine fun ρ2 G2 H2 cls d p2 s2 r u=>⟨h ρ2 G2 H2 cls d p2 s2 r u,?_⟩
   obtain⟨C,ns,dd,vs,e1,e2,_⟩:=u;rw[e2];exact n _ hc C ns e1
  ·rw[Vh hc]at h;exact h.elim
end
end
end Y
namespace TS
open PySem.W
section
variable {prog:Program}{w:World}{A:Around}{E:Value→Shared→Prop}{s:Shared}
theorem sorted_gen{x:Value}{C:List Value→Shared→Prop}{Q:Value→Shared→Prop} (hc:∀(E':Value→Shared→Prop) (Q':List Value→Shared→Prop),(∀vs s1,C vs s1→Q' vs s1)→wpAny (model prog w) A.in1 (collect x) Q' E' s)
  (hf:∀vs s1,C vs s1→∃bs:List (V×PyData),EachIs (fun u b=>RelV b.1 u) vs bs∧EachIs (fun u b=>∃as,Reads s1.heap u b.2 as) vs bs∧AllAlike (bs.map Prod.snd)∧Sortable (bs.map Prod.snd)∧bs.length≤sizeLine∧(∀b,b∈bs→A.units+2+b.2.depth<cLine) ∧
   ∀(out:List Value) (c:Nat) (h':Heap),EachIs (fun u b=>RelV b.1 u) out (bs.mergeSort (dataLe false Prod.snd))→h'.get? s1.heap.objs.size=some (seqObj "list" out.toArray c)→(∀b o,s1.heap.get? b=some o→h'.get? b=some o)→Q (.ref s1.heap.objs.size) { s1 with heap:=h' }) :
  wpAny (model prog w) A (call (.builtin "sorted") [x]) Q E s:=by
 refine bq kind_sorted plain_sorted entry_sorted (args_sorted1 _) ?_
 unfold Builtin.«sorted»;refine Jr (m:=checkCount "sorted" 1 1 _) (JA ?_);refine Jr (hc _ _ fun vs s1 h1=>?_)
 obtain⟨bs,e,er,hal,hk,hL,hu,fin⟩:=hf vs s1 h1;have hlen:=e.length;refine Jr (jl ?_ (by rw[hlen];exact hL))
 have hoL:(s1.heap.push (seqObj "list" vs.toArray 0)).get? s1.heap.objs.size=some (seqObj "list" vs.toArray 0):=JK _ rfl;have old:∀b o,s1.heap.get? b=some o→(sortingHeap (s1.heap.push (seqObj "list" vs.toArray 0)) s1.heap.objs.size vs).get? b=some o:=fun b o q=>sortingHeap_old (Vd (JP q)) (Jn _ q)
 have er':EachIs (fun u b=>∃as,Reads (sortingHeap (s1.heap.push (seqObj "list" vs.toArray 0)) s1.heap.objs.size vs) u b.2 as) vs bs:=er.mono fun _ _ ⟨as,r⟩=>⟨as,PyProof.Rows.Reads.keeps old r⟩
 refine Jr (YC (bO slot_list_sort ⟨_,hoL,rfl⟩ entry_list_sort (list_sort_vals (κ:=dataKind (sortingHeap (s1.heap.push (seqObj "list" vs.toArray 0)) s1.heap.objs.size vs) (bs.map Prod.snd)) hoL
  (SortsAt.data (s := { s1 with heap:=sortingHeap (s1.heap.push (seqObj "list" vs.toArray 0)) s1.heap.objs.size vs }) (each_map (R:=fun v d=>∃as,Reads (sortingHeap (s1.heap.push (seqObj "list" vs.toArray 0)) s1.heap.objs.size vs) v d as) Prod.snd er') hal hk (bound_map (enc:=Prod.snd) hu)) (by rw[hlen];exact hL) ⟨_,rfl,?_⟩) (args_list_sort _)))
 have ev:=sortVals_data false e er' hal;obtain⟨c,hc'⟩:=sortedHeap_at (vs:=vs) (out:=(sortVals (dataKind (sortingHeap (s1.heap.push (seqObj "list" vs.toArray 0)) s1.heap.objs.size vs) (bs.map Prod.snd)) false vs vs).toArray) hoL;refine JA ⟨_,rfl,fin _ c _ ev hc' fun b o q=>?_⟩
 have hlt:=JP q;rw[sortedHeap_old (Vd hlt) (by rw[size_push'];exact VC hlt)]
 exact Jn _ q
end
end TS
namespace L2
open PySem.W
theorem zJf:∀ {us:List Value}{bs:List (V×PyData)},EachIs (fun u (b:V×PyData)=>RelV b.1 u) us bs→Vals (bs.map Prod.fst) us
 |_,_,.nil=>.nil
 |_,_,.cons h t=>.cons h (zJf t)
end L2
namespace Y
open PySem.W
def zNr:PyData→Bool
 | .tuple (_::_)=>true
 |_=>false
def zOS:PyData→Bool
 | .none=>false
 | .tuple _=>false
 |_=>true
def zIu(ds:List PyData):Bool:=ds.all (fun d=>ds.all fun e=>alike d e)&&((ds.all zNr||ds.all zOS)&&ds.all fun d=>decide (d.depth≤8))
def encD(x:P):PyData:=(toD x).getD .none
def zMJ(l:List P):Bool:=match toDs l with
 |some ds=>zIu ds
 |none=>false
def srtD(l:List P):List P:=l.mergeSort (dataLe false encD)
theorem zOl{ds:List PyData} (h:zIu ds=true):AllAlike ds∧Sortable ds∧∀d,d∈ds→d.depth≤8:=by
 unfold zIu at h;rw[Js,Js]at h;obtain⟨h1,h2,h3⟩:=h;refine⟨fun d hd e he=>Jp.mp (Jp.mp h1 d hd) e he,?_,fun d hd=>JB (Jp.mp h3 d hd)⟩
 rw[bX]at h2;rcases h2 with h2|h2
 ·refine .inl fun d hd=>?_
  have:=Jp.mp h2 d hd
  unfold zNr at this;split at this
  ·exact⟨_,_,rfl⟩
  ·cases this
 ·refine .inr fun d hd=>?_
  have:=Jp.mp h2 d hd
  unfold zOS at this;split at this
  ·cases this
  ·cases this
  ·rename_i n1 n2
   exact⟨n1,n2⟩
theorem zLf:∀ {l:List P}{ds:List PyData},toDs l=some ds→ds=l.map encD
 |[],ds,h=>by rw[toDs]at h;cases h;rfl
 |x::l,ds,h=>by
  rw[toDs]at h;split at h
  ·rename_i d ds' e1 e2
   cases h;rw[Jl,←zLf e2,encD,e1];rfl
  ·cases h
def ZK.has(K:PySem.W.Frag) (H:Hp) (xs:List V):ZK→Prop
 | .L a=>SqL K H a xs
 | .T a=>SqT K H a xs
 | .S x=>xs=x.cps.toList.map fun c=>V.str ⟨#[c]⟩
section
variable {K:PySem.W.Frag}{cl:Cls}{X:Cx}{Wx:WX}{E0:En}{ρ ρ':List Addr}{G G':Hp}{σ:Sg}{τ:L2.St}{st:List Cell}{H:Hp}{D:Ends}
theorem zQW:∀ {l:List P}{vs:List V},l.length=vs.length→(∀(i:Nat) (x:P) (v:V),l[i]?=some x→vs[i]?=some v→RP K cl G x v)→RPs K cl G l vs
 |[],[],_,_=>.nil
 |[],_::_,h,_=>by simp at h
 |_::_,[],h,_=>by simp at h
 |x::l,v::vs,h,f=>.cons (f 0 x v rfl rfl) (zQW (by simpa using h) fun i y u e1 e2=>f (i+1) y u (by simpa using e1) (by simpa using e2))
end
end Y
namespace NS
section
variable {P:Program}{w:World}{A:Around}{E:Value→Shared→Prop}{s:Shared}
def Says(P:Program) (w:World) (s:Shared) (t:Sem Bool) (b:Bool):Prop:=∀(A:Around) (E:Value→Shared→Prop) (Q:Bool→Shared→Prop),Q b s→wpAny (model P w) A t Q E s
theorem Says.pure{b:Bool}:Says P w s (Pure.pure b) b:=fun A E Q h=>JA h
mutual
/-- its hash is told by its numbers alone -/
def zEo:NestedKey→Bool
 | .none=>true
 | .num _=>true
 | .text _=>false
 | .tup ks=>zIF ks
def zIF:List NestedKey→Bool
 |[]=>true
 |k::ks=>zEo k&&zIF ks
end
theorem zJD{σ:Type}{r0:σ}{f:Value→Sem Bool}{b:Bool}{body:Value→σ→Sem (ForInStep σ)}{Q:σ→Shared→Prop} (hb:∀v Q',Q' (ForInStep.yield r0) s→Says P w s (f v) b→wpAny (model P w) A (body v r0) Q' E s) :
  ∀ {vs:List Value},(∀v∈vs,Says P w s (f v) b)→Q r0 s→wpAny (model P w) A (forIn vs r0 body) Q E s
 |[],_,hq=>by
  rw[jg];exact JA hq
 |v::vs,hv,hq=>by
  rw[bZ];refine Jr (hb v _ ?_ (hv v Jg));exact zJD hb (fun u hu=>hv u (Jf _ hu)) hq
theorem zMs{n:Nat}{a:Addr}{o:Obj}{vs:Array Value}{m:Nat} (ho:s.heap.get? a=some o) (hc:o.cls=.type "tuple") (hd:o.data=.seq vs m) (h:∀v∈vs.toList,Says P w s (ofAClassStatement n v) false):Says P w s (ofAClassStatement (n+1) (.ref a)) false:=fun A E Q hq=>by
 have hT:s.TypeIs (.ref a) "tuple" := ⟨o,ho,hc⟩;unfold ofAClassStatement;refine Jr (wpAny_typeOf hT ?_);dsimp only;have e:(("tuple" : String) == "tuple")=true:=by decide
 simp only[e,Ye,Y0,Vc,YE]
 try refine Jr (JA ?_)
 try simp only[Y0,Vc,YE]
 show wpAny _ _ (seqItems? (.ref a) >>= _) _ _ s;refine Jr (wpAny_seqItems ho hd ?_);dsimp only;refine Jr ?_
 show wpAny _ _ (forIn vs _ _) _ _ s;rw[←Array.forIn_toList];refine zJD (f:=ofAClassStatement n) (b:=false) (fun v Q' q hs=>?_) h ?_
 ·refine Jr (hs _ _ _ ?_);simp only[Vc,YE];exact JA q
 ·exact JA hq
end
section
variable {P:Program}{w:World}{s:Shared}
mutual
theorem zKQ:∀(k:NestedKey) (v:Value) (n:Nat),NestedIs s.heap k v→k.depth≤n→Says P w s (ofAClassStatement n v) false
 | .none,_,n,x,_=>by cases x;cases n<;>exact .pure
 | .num _,_,n,x,_=>by cases x<;>cases n<;>exact .pure
 | .text _,_,n,x,_=>by cases x;cases n<;>exact .pure
 | .tup ks,_,n,x,hn=>by
  cases x with
  |tup hg hc hd hk =>
   rw[NestedKey.depth]at hn;obtain⟨m,rfl⟩:∃m,n=m+1:=⟨n-1,∅⟩;exact zMs hg hc hd (zLq ks _ m hk ∅)
theorem zLq:∀(ks:List NestedKey) (vs:List Value) (n:Nat),NestedAll s.heap ks vs→NestedKey.depthAll ks≤n→∀v∈vs,Says P w s (ofAClassStatement n v) false
 |[],_,n,x,_,v,hv=>by cases x;cases hv
 |k::ks,_,n,x,hn,v,hv=>by
  cases x with
  |cons x1 x2 =>
   rw[NestedKey.depthAll]at hn;rcases Jo.mp hv with e|hv
   ·rw[e];exact zKQ k _ n x1 ∅
   ·exact zLq ks _ n x2 ∅ v hv
end
end
section
variable {P:Program}{w:World}{A:Around}{E:Value→Shared→Prop}{s:Shared}
inductive zMB (P:Program) (w:World) (s:Shared) (f:Value→Sem Bool):List Value→List Bool→Prop
 |nil:zMB P w s f [] []
 |cons {v b vs bs}:Says P w s (f v) b→zMB P w s f vs bs→zMB P w s f (v::vs) (b::bs)
theorem zLF{σ:Type}{r0 r1:σ}{f:Value→Sem Bool}{body:Value→σ→Sem (ForInStep σ)}{Q:σ→Shared→Prop} (hy:∀v Q',Q' (ForInStep.yield r0) s→Says P w s (f v) true→wpAny (model P w) A (body v r0) Q' E s)
  (hn:∀v Q',Q' (ForInStep.done r1) s→Says P w s (f v) false→wpAny (model P w) A (body v r0) Q' E s):∀ {vs:List Value}{bs:List Bool},zMB P w s f vs bs→Q (if bs.all id=true then r0 else r1) s→wpAny (model P w) A (forIn vs r0 body) Q E s
 |[],_,.nil,hq=>by
  rw[jg];exact JA hq
 |v::vs,_,.cons (b:=b) h1 h2,hq=>by
  rw[bZ];cases b with
  |true=>exact Jr (hy v _ (zLF hy hn h2 hq) h1)
  |false=>exact Jr (hn v _ (JA hq) h1)
theorem zMS{n:Nat}{a:Addr}{o:Obj}{vs:Array Value}{m:Nat}{bs:List Bool} (ho:s.heap.get? a=some o) (hc:o.cls=.type "tuple") (hd:o.data=.seq vs m) (h:zMB P w s (hashByValue n) vs.toList bs):Says P w s (hashByValue (n+1) (.ref a)) (bs.all id):=fun A E Q hq=>by
 have hT:s.TypeIs (.ref a) "tuple" := ⟨o,ho,hc⟩;unfold hashByValue;refine Jr (wpAny_specialOf hT F.slot_tuple_hash.lookup ?_);show wpAny _ _ (seqItems? (.ref a) >>= _) _ _ s;refine Jr (wpAny_seqItems ho hd ?_);refine Jr ?_
 show wpAny _ _ (forIn vs _ _) _ _ s;rw[←Array.forIn_toList];refine zLF (f:=hashByValue n) (r1:=(some false,())) (fun v Q' q hs=>?_) (fun v Q' q hs=>?_) h ?_
 ·refine Jr (hs _ _ _ ?_);simp only[Y0,Vc,YE];exact JA q
 ·refine Jr (hs _ _ _ ?_);simp only[Bool.not_false,Ye];exact JA q
 ·cases e:bs.all id with
  |true =>
   rw[e]at hq;exact JA hq
  |false =>
   rw[e]at hq;exact JA hq
end
section
variable {P:Program}{w:World}{s:Shared}
mutual
theorem zLW:∀(k:NestedKey) (v:Value) (n:Nat),NestedIs s.heap k v→k.depth≤n→Says P w s (hashByValue n v) (zEo k)
 | .none,_,n,x,_=>by cases x;cases n<;>exact .pure
 | .num _,_,n,x,_=>by cases x<;>cases n<;>exact .pure
 | .text _,_,n,x,_=>by cases x;cases n<;>exact .pure
 | .tup ks,_,n,x,hn=>by
  cases x with
  |tup hg hc hd hk =>
   rw[NestedKey.depth]at hn;obtain⟨m,rfl⟩:∃m,n=m+1:=⟨n-1,∅⟩
   have e:zEo (.tup ks)=(ks.map zEo).all id:=by
    rw[zEo];clear hn hk
    induction ks with
    |nil=>rfl
    |cons k ks ih=>rw[zIF,ih];rfl
   rw[e];exact zMS hg hc hd (zJZ ks _ m hk ∅)
theorem zJZ:∀(ks:List NestedKey) (vs:List Value) (n:Nat),NestedAll s.heap ks vs→NestedKey.depthAll ks≤n→zMB P w s (hashByValue n) vs (ks.map zEo)
 |[],_,n,x,_=>by cases x;exact .nil
 |k::ks,_,n,x,hn=>by
  cases x with
  |cons x1 x2 =>
   rw[NestedKey.depthAll]at hn;exact .cons (zLW k _ n x1 ∅) (zJZ ks _ n x2 ∅)
end
end
abbrev NIs(P:Program) (w:World) (h:Heap) (k:NestedKey) (a:Addr):Prop:=(nestedKind P w).is h k a
abbrev nh(P:Program) (w:World) (k:NestedKey):Int:=(nestedKind P w).hash k
section
variable {P:Program}{w:World}{A:Around}{E:Value→Shared→Prop}{s:Shared}
theorem zPt{k:NestedKey}{b:Addr}{Q:Bool→Shared→Prop} (hk:NIs P w s.heap k b):∀ {ys:List Value},(∀y∈ys,∃k' c,y=Value.ref c∧NIs P w s.heap k' c)→Q false s→wpAny (model P w) A (searchCouldBeSeen (.ref b) ys) Q E s:=by
 intro ys hy hq;unfold searchCouldBeSeen;refine Jr ?_
 have step:∀(ys:List Value),(∀y∈ys,∃k' c,y=Value.ref c∧NIs P w s.heap k' c)→∀ {σ:Type}{r0:σ}{body:Value→σ→Sem (ForInStep σ)}{Q:σ→Shared→Prop},(∀c k' Q',NIs P w s.heap k' c→Q' (ForInStep.yield r0) s→wpAny (model P w) A (body (.ref c) r0) Q' E s)→Q r0 s→wpAny (model P w) A (forIn ys r0 body) Q E s:=by
  intro ys
  induction ys with
  |nil =>
   intro _ σ r0 body Q _ hq;rw[jg];exact JA hq
  |cons y ys ih =>
   intro hy σ r0 body Q hb hq;rw[bZ];obtain⟨k',c,rfl,hc⟩:=hy y Jg;exact Jr (hb c k' _ hc (ih (fun u hu=>hy u (Jf _ hu)) hb hq))
 refine step ys hy (fun c k' Q' hc q=>?_) (JA hq)
 dsimp only
 by_cases hv:(b==c||(carriedByValue (.ref b)&&carriedByValue (.ref c)))=true
 ·exact jn hv (JA q)
 ·refine Ys hv ?_
  refine Jr ((nestedKind P w).quiet hk ?_);simp only[Y0,Vc,YE];refine Jr ((nestedKind P w).quiet hc ?_);simp only[Y0,Vc,YE];refine Jr (zKQ k _ 8 hk.1 hk.2 _ _ _ ?_);simp only[Vc,YE];refine Jr (zKQ k' _ 8 hc.1 hc.2 _ _ _ ?_);simp only[Vc,YE];exact JA q
end
theorem zSI(m:Nat) (h:Int) (c:Nat):(ask m h c).j=way m h c:=rfl
theorem zKR(m:Nat) (h:Int) (c q:Nat):nth m (ask m h c) q=ask m h (c+q):=(nth_add m c _ q).symm
theorem zIr(m:Nat):∀(n:Nat) (p:SetTable.Probe),p.dummy=none→(nth m p n).dummy=none
 |0,_,h=>h
 |n+1,p,h=>zIr m n (adv m p) (by unfold adv;split<;>exact h)
section
variable {P:Program}{w:World}{A:Around}{E:Value→Shared→Prop}{s:Shared}
def ents(P:Program) (w:World) (L:Lk):List (Int×Value):=L.map fun q=>(nh P w q.1,Value.ref q.2)
structure SetN (P:Program) (w:World) (h:Heap) (a:Addr) (L:Lk) (es:Array (Int×Value)) (ep:Nat) (t:SetTable):Prop where
 obj:∃o,h.get? a=some o∧o.ExactSet∧o.data=.set es ep t
 its:es.toList=ents P w L
 tab:TabOk t (L.map fun q=>nh P w q.1)
 nd:(L.map Prod.fst).Nodup
 keys:∀q∈L,NIs P w h q.1 q.2
 led:w.params.followText "set-order" = true∨t.led=true
 room:L.length*5<t.mask*3
 few:L.length<64
variable {a:Addr}{L:Lk}{es:Array (Int×Value)}{ep:Nat}{t:SetTable}
theorem zES(L:Lk):(ents P w L).length=L.length:=by unfold ents;exact Jc ..
theorem SetN.size(R:SetN P w s.heap a L es ep t):es.size=L.length:=by
 rw[←zES (P:=P) (w:=w) L,←R.its,Vf]
theorem SetN.places(R:SetN P w s.heap a L es ep t):t.place.toList.length=L.length:=by
 rw[Vf,R.tab.sz,Jc]
theorem SetN.fits(R:SetN P w s.heap a L es ep t):t.fits es.size=true:=by
 have h1:=R.places;have h2:=R.size;have h3:=R.room;rw[Vf]at h1;simp only[SetTable.fits,SetTable.fill,R.tab.dm,Js,jb,Jz];exact⟨∅,by show t.place.size+0≤t.mask;omega⟩
theorem SetN.at(R:SetN P w s.heap a L es ep t){i:Nat}{q:NestedKey×Addr} (h:L[i]?=some q):es[i]?=some (nh P w q.1,Value.ref q.2):=by
 have:es.toList[i]?=some (nh P w q.1,Value.ref q.2):=by rw[R.its,ents,Jd,h];rfl
 rwa [J6]at this
theorem SetN.hashAt(R:SetN P w s.heap a L es ep t){i:Nat}{q:NestedKey×Addr} (h:L[i]?=some q):(es[i]?.map (·.1)).getD 0=nh P w q.1:=by rw[R.at h];rfl
def Ahead(P:Program) (w:World) (t:SetTable) (L:Lk) (k:NestedKey) (c K:Nat):Prop:=∀(i:Nat) q,L[i]?=some q→q.1=k→∃c',c≤c'∧c'<K∧t.place.toList[i]?=some (ask t.mask (nh P w k) c').j
theorem zOO(R:SetN P w s.heap a L es ep t){x:Addr}{k:NestedKey} (hx:NIs P w s.heap k x) (hu:A.units+8<cLine){K:Nat} (hKf:K<10*SetTable.turns t.mask)
  (hK:(ask t.mask (nh P w k) K).j∉t.place.toList) (hKb:∀c,c<K→(ask t.mask (nh P w k) c).j∈t.place.toList){Q:SetFound→Shared→Prop}
  (hin:k∈L.map Prod.fst→Q (.there none) s) (hout:k∉L.map Prod.fst→Q (.free (ask t.mask (nh P w k) K).j false) s) (f:Nat) :
  ∀(c:Nat) (st:Option SetTable.Probe),st.getD (t.probeStart (nh P w k))=ask t.mask (nh P w k) c→c≤K→K-c<f→Ahead P w t L k c K→wpAny (model P w) A (setSearchFrom a (.ref x) (nh P w k) true f st) Q E s:=by
 induction f with
 |zero=>intro c st _ _ h _;exact absurd h (VU _)
 |succ f ih =>
  intro c st hst hc hf hre;obtain⟨o,ho,hex,hd⟩:=R.obj
  have odd:¬t.gaveWay=true:=by
   unfold SetTable.gaveWay;rw[mask_odd R.tab.mok];decide
  rw[setSearchFrom_succ];refine Jr (Yn ho hd R.fits ?_);dsimp only;refine Ys odd ?_
  try refine Jr (JA ?_)
  have spec:=go_spec t R.tab.ris R.tab.dm (fun i=>(es[i]?.map (·.1)).getD 0) (nh P w k) (10*SetTable.turns t.mask) (K-c) (ask t.mask (nh P w k) c) (zIr _ _ _ rfl) ∅
   (fun q hq=>by rw[zKR];exact hKb (c+q) ∅) (by rw[zKR,show c+(K-c)=K by omega];exact hK)
  simp only[zKR]at spec;rcases spec with⟨q,i,hq,hi,hh,hno,hpr⟩|⟨hno,hpr⟩
  ·have hpr':t.probe (fun i=>(es[i]?.map (·.1)).getD 0) (nh P w k) (st.getD (t.probeStart (nh P w k)))=some (.candidate (ask t.mask (nh P w k) (c+q)).j i (ask t.mask (nh P w k) (c+(q+1)))):=by
    rw[hst];exact hpr
   rw[hpr'];dsimp only;have hil:i<L.length:=by rw[←R.places];exact(Jb.mp hi).1
   obtain⟨e,he⟩:∃e,L[i]?=some e:=⟨_,Ja hil⟩;have hmem:=Ji he;have hek:=R.keys e hmem;have hsl:t.slot (ask t.mask (nh P w k) (c+q)).j=.live i:=slot_live R.tab.ris hi
   have rest:wpAny (model P w) A (searchRest a (.ref x) (nh P w k) true f es t (ask t.mask (nh P w k) (c+q)).j i (ask t.mask (nh P w k) (c+(q+1)))) Q E s:=by
    unfold searchRest;rw[R.at he];dsimp only;refine Jr (YC ((nestedKind P w).eqBool hu hek hx ?_));refine Jr (Yn ho hd R.fits ?_);dsimp only
    by_cases hkk:e.1=k
    ·exact jn (by simp[hkk]) (JA (hin (Jj.mpr ⟨e,hmem,hkk⟩)))
    ·refine Ys (by simp[hkk]) ?_
     try refine Jr (JA ?_)
     rw[sameMem];dsimp only;simp only[Ye,hsl,R.at he];refine Jr (wpAny_isSame_ref_self (Jr (JA ?_)));simp only[Ye];refine Ys (by simp[hkk]) ?_
     refine ih (c+(q+1)) _ rfl ∅ ∅ fun i0 p0 h0 hk0=>?_
     obtain⟨c',a1,a2,a3⟩:=hre i0 p0 h0 hk0;refine⟨c',?_,a2,a3⟩;have n1:¬c'<c+q:=fun z=>hno (c'-c) i0 ∅ (by rw[show c+(c'-c)=c' by omega];exact a3) ((R.hashAt h0).trans (congrArg (nh P w) hk0))
     have n2:c'≠c+q:=fun z=>by
      rw[z]at a3;have s0:=(slot_live R.tab.ris a3).symm.trans hsl;injection s0 with s0
      rw[s0,he]at h0;exact hkk ((congrArg Prod.fst (Jk h0)).trans hk0)
     omega
   by_cases hl:t.led=true
   ·refine Ys (by simp[hl]) ?_
    try refine Jr (JA ?_)
    exact rest
   ·refine jn (by simp[hl]) ?_
    refine Jr (zPt hx (fun y hy=>?_) ?_)
    ·obtain⟨e0,he0,rfl⟩:=Jj.mp hy
     have h2:e0∈es.toList:=by
      have:e0∈es∧e0.1=nh P w k:=by simpa using he0
      simpa using this.1
     rw[R.its]at h2;obtain⟨q2,hq2,rfl⟩:=Jj.mp h2;exact⟨q2.1,q2.2,rfl,R.keys q2 hq2⟩
    ·refine Ys (!0) ?_
     try refine Jr (JA ?_)
     exact rest
  ·have hpr':t.probe (fun i=>(es[i]?.map (·.1)).getD 0) (nh P w k) (st.getD (t.probeStart (nh P w k)))=some (.empty (ask t.mask (nh P w k) K).j none):=by
    rw[hst];rw[show c+(K-c)=K by omega]at hpr
    exact hpr
   rw[hpr'];dsimp only;refine JA (hout fun hm=>?_)
   obtain⟨p0,h0,hk0⟩:=Jj.mp hm;obtain⟨i0,hi0,e0⟩:=List.getElem_of_mem h0;have h00:L[i0]?=some p0:=by rw[Ja hi0,e0]
   obtain⟨c',a1,a2,a3⟩:=hre i0 p0 h00 hk0;exact hno (c'-c) i0 ∅ (by rw[show c+(c'-c)=c' by omega];exact a3) ((R.hashAt h00).trans (congrArg (nh P w) hk0))
theorem zRI(R:SetN P w s.heap a L es ep t){x:Addr}{k:NestedKey} (hx:NIs P w s.heap k x) (hu:A.units+8<cLine){Q:SetFound→Shared→Prop} (hin:k∈L.map Prod.fst→Q (.there none) s)
  (hout:∀K,k∉L.map Prod.fst→way t.mask (nh P w k) K∉t.place.toList→(∀c,c<K→way t.mask (nh P w k) c∈t.place.toList)→Q (.free (way t.mask (nh P w k) K) false) s) :
  wpAny (model P w) A (setSearch a (.ref x) (nh P w k) true) Q E s:=by
 have hroom:=R.room;obtain⟨K,hKf,hK,hKb⟩:=R.tab.first (by rw[Jc];omega) (nh P w k)
 have hbig:K<100000:=by
  have:10*SetTable.turns t.mask≤1420:=by
   unfold SetTable.turns;rcases R.tab.mok with e|e|e<;>omega
  omega
 refine zOO R hx hu hKf hK hKb hin (fun hn=>hout K hn hK hKb) 100000 0 none rfl (J3 _) ∅ fun i q hq hk=>?_
 have hi:(L.map fun q=>nh P w q.1)[i]?=some (nh P w k):=by rw[Jd,hq,←hk];rfl
 have hil:i<t.place.toList.length:=by rw[R.places];exact(Jb.mp hq).1
 obtain⟨c,hc,e⟩:=R.tab.before hK hi (Ja hil);exact⟨c,J3 _,hc,by rw[Ja hil,zSI,e]⟩
end
section
variable {P:Program}{w:World}{A:Around}{E:Value→Shared→Prop}{s:Shared}
theorem zHl{h h':Heap}{k:NestedKey}{a b:Addr}{o:Obj}{es:Array (Int×Value)}{ep:Nat}{t:SetTable} (hb:NIs P w h k b) (ho:h.get? a=some o) (hd:o.data=.set es ep t) (hs:Heap.SameBut a h h'):NIs P w h' k b :=
 nestedKind_stays.stays (fun c o' vs n hc hv=>(hs.2 c fun e=>by
  subst e;rw[ho]at hc;cases hc
  rw[hd]at hv;cases hv).trans hc) hb
theorem zHm{h h':Heap}{k:NestedKey}{b:Addr} (hb:NIs P w h k b) (hk:∀c o,h.get? c=some o→h'.get? c=some o):NIs P w h' k b:=nestedKind_stays.stays (fun c o _ _ hc _=>hk c o hc) hb
theorem zMb{L:Lk}{es:Array (Int×Value)}{order:Array Nat} (hr:es.toList=ents P w L) (hp:order.toList.Perm (List.range L.length)) :
  ∃L2,(order.filterMap (es[·]?)).toList=ents P w L2∧L2.Perm L∧(L2.map fun q=>nh P w q.1)=order.toList.map fun i=>(es.map (·.1)).getD i 0:=by
 have hb:∀i∈order.toList,i<L.length:=fun i hi=>Jy.mp (hp.mem_iff.mp hi)
 have eg:∀i:Nat,es[i]?=(L[i]?).map fun q=>(nh P w q.1,Value.ref q.2):=fun i=>by rw[←J6,hr,ents,Jd]
 refine⟨order.toList.filterMap (L[·]?),?_,?_,?_⟩
 ·rw[Array.toList_filterMap,ents,List.map_filterMap]
  congr 1
  funext i
  exact eg i
 ·have e1:L=(List.range L.length).filterMap (L[·]?):=by
   apply Yk
   have key:∀(m:Nat),m≤L.length→(List.range m).filterMap (L[·]?)=L.take m:=fun m=>by
    induction m with
    |zero=>intro _;rfl
    |succ m ih =>
     intro hm;rw[V8,List.filterMap_append,ih ∅,VD,Ja (by omega:m<L.length)]
     simp[Ja (by omega:m<L.length)]
   intro i;rw[key _ (JH _),YT]
  have:=hp.filterMap (L[·]?)
  rwa [←e1]at this
 ·revert hb;generalize order.toList=l;intro hb
  induction l with
  |nil=>rfl
  |cons i l ih =>
   have hi:=hb i Jg
   have e2:(es.map (·.1)).getD i 0=nh P w (L[i]).1:=by
    rw[Array.getD_eq_getD_getElem?,Array.getElem?_map,eg i,Ja hi];rfl
   rw[List.filterMap_cons_some (Ja hi),Jl,Jl,ih (fun j hj=>hb j (Jf _ hj)),e2]
variable {a:Addr}{L:Lk}{es:Array (Int×Value)}{ep:Nat}{t:SetTable}
structure SetF (P:Program) (w:World) (h:Heap) (a:Addr) (L:Lk) (es:Array (Int×Value)) (ep:Nat) (t:SetTable):Prop where
 obj:∃o,h.get? a=some o∧o.ExactSet∧o.data=.set es ep t
 its:es.toList=ents P w L
 tab:TabOk t (L.map fun q=>nh P w q.1)
 nd:(L.map Prod.fst).Nodup
 keys:∀q∈L,NIs P w h q.1 q.2
 led:w.params.followText "set-order" = true∨t.led=true
 few:L.length<64
theorem SetF.full{h:Heap} (F:SetF P w h a L es ep t) (r:L.length*5<t.mask*3):SetN P w h a L es ep t:=⟨F.obj,F.its,F.tab,F.nd,F.keys,F.led,r,F.few⟩
theorem SetF.size{h:Heap} (F:SetF P w h a L es ep t):es.size=L.length:=by
 rw[←zES (P:=P) (w:=w) L,←F.its,Vf]
theorem relay(F:SetF P w s.heap a L es ep t) (hfl:L.length≤t.mask){wanted M:Nat} (hw:SetTable.sizeAbove wanted-1=M) (hM:MaskOk M) (hw2:SetTable.sizeAbove wanted≤128) (hn:L.length*5<M*3){Q:Unit→Shared→Prop}
  (hQ:∀h' L' es' ep' t',Heap.SameBut a s.heap h'→SetN P w h' a L' es' ep' t'→L'.Perm L→Q () { s with heap:=h' }):wpAny (model P w) A (setRelay a wanted) Q E s:=by
 obtain⟨o,ho,hex,hd⟩:=F.obj;have hsl:=F.size;have few:=F.few;have psz:t.place.size=L.length:=by rw[F.tab.sz,Jc]
 have hfits:t.fits es.size=true:=by
  simp only[SetTable.fits,SetTable.fill,F.tab.dm,Js,jb,Jz];exact⟨∅,by show t.place.size+0≤t.mask;omega⟩
 obtain⟨t',order,e,hp,T,em,el,_,_⟩:=relaid_ok t (hs:=es.map (·.1)) (wanted:=wanted) hw hM (by rw[Array.size_map,hsl];omega)
 rw[Array.size_map,hsl]at hp;obtain⟨L2,r1,r2,r3⟩:=zMb F.its hp;rw[←r3]at T
 have hs2:(order.filterMap (es[·]?)).size=L.length:=by
  rw[←Vf,r1,zES,r2.length_eq]
 rw[setRelay_eq];refine Jr (Yn ho hd hfits ?_);dsimp only;refine Ys (by rw[Vq];omega) ?_
 try refine Jr (JA ?_)
 rw[e];dsimp only;refine Jr (Ys (by rw[hs2,hsl];simp) ?_)
 try refine Jr (JA ?_)
 refine JA ?_
 dsimp only;refine wpAny_storeSet_of ho hd ?_ (by rw[hs2,Vq];omega)
 have sb:Heap.SameBut a s.heap (s.heap.update a (Obj.putSet (order.filterMap (es[·]?)) t')):=Heap.SameBut.update ..
 refine hQ _ L2 _ (ep+1) t' sb ⟨⟨_,store_at ho hd,⟨hex.1,hex.2.1,hex.2.2⟩,rfl⟩,r1,T,(r2.map Prod.fst).nodup_iff.mpr F.nd,fun q hq=>zHl (F.keys q (r2.mem_iff.mp hq)) ho hd sb,by rw[el];exact F.led,by rw[r2.length_eq,em];exact hn,by rw[r2.length_eq];exact few⟩ r2
theorem zP5(L:Lk) (p:Nat) (q:NestedKey×Addr):ents P w (L.take p++q::L.drop p)=(ents P w L).take p++(nh P w q.1,Value.ref q.2)::(ents P w L).drop p:=by
 simp only[ents,JE,Jl,YX,bF]
def Added(k:NestedKey) (x:Addr) (L L':Lk):Prop:=(k∈L.map Prod.fst→L'=L)∧(k∉L.map Prod.fst→L'.Perm ((k,x)::L))
theorem adds(R:SetN P w s.heap a L es ep t){x:Addr}{k:NestedKey} (hx:NIs P w s.heap k x) (hu:A.units+8<cLine) (hfew:L.length+1<64){Q:Bool→Shared→Prop}
  (hQ:∀b h' L' es' ep' t',Heap.SameBut a s.heap h'→SetN P w h' a L' es' ep' t'→Added k x L L'→Q b { s with heap:=h' }):wpAny (model P w) A (setAddHashed a (.ref x) (nh P w k)) Q E s:=by
 obtain⟨o,ho,hex,hd⟩:=R.obj;have hsl:=R.size;have hroom:=R.room;unfold setAddHashed;refine YC ?_
 rw[show(100000:Nat)=99999+1 from rfl,setAddHashedIn_succ]
 refine Jr (Yn ho hd R.fits ?_);dsimp only;refine Ys (by simp[byScan,Value.scannable]) ?_
 try refine Jr (JA ?_)
 refine Jr (zRI R hx hu (fun hm=>?_) fun K hm hK hb=>?_)
 ·dsimp only;exact JA (hQ false s.heap L es ep t (Heap.SameBut.refl a s.heap) R ⟨fun _=>rfl,fun z=>absurd hm z⟩)
 ·dsimp only;refine Jr (Yn ho hd R.fits ?_);dsimp only;obtain⟨q1,q2,q3,q4,q5,q6,q7,q8,q9⟩:=R.tab.put hK hb;generalize hpt:t.put (way t.mask (nh P w k) K)=pt at q1 q3 q4 q5 q6 q7 q8 q9 ⊢;obtain⟨t1,p0⟩:=pt;dsimp only at q1 q3 q4 q5 q6 q7 q8 q9 ⊢;subst q1
  have hin:(SetTable.insertAt es (SetTable.below t.place (way t.mask (nh P w k) K)) (nh P w k,Value.ref x)).toList=ents P w (L.take (SetTable.below t.place (way t.mask (nh P w k) K))++(k,x)::L.drop (SetTable.below t.place (way t.mask (nh P w k) K))):=by
   rw[SetTable.toList_insertAt,zP5,R.its]
  generalize SetTable.below t.place (way t.mask (nh P w k) K)=p at q2 q3 hin ⊢;have pm:=put_perm L p (k,x);have hlen:(L.take p++(k,x)::L.drop p).length=L.length+1:=pm.length_eq
  have hhs:(L.map fun q=>nh P w q.1).take p++nh P w k::(L.map fun q=>nh P w q.1).drop p=(L.take p++(k,x)::L.drop p).map fun q=>nh P w q.1:=by
   rw[JE,Jl,YX,bF]
  rw[hhs]at q3;have nd1:((L.take p++(k,x)::L.drop p).map Prod.fst).Nodup:=(pm.map Prod.fst).nodup_iff.mpr (by rw[Jl];exact JV.mpr ⟨hm,R.nd⟩)
  have hes:(SetTable.insertAt es p (nh P w k,Value.ref x)).size=L.length+1:=by rw[←Vf,hin,zES,hlen]
  generalize SetTable.insertAt es p (nh P w k,Value.ref x)=es1 at hin hes ⊢;generalize L.take p++(k,x)::L.drop p=L1 at pm hlen q3 nd1 hin
  have fin:∀t2:SetTable,t2.mask=t1.mask→t2.led=t1.led→t2.tooFull=t1.tooFull→TabOk t2 (L1.map fun q=>nh P w q.1)→wpAny (model P w) A (do
    storeSet a es1 t2
    if(!false&&t2.tooFull)=true then do
     setRelay a (SetTable.grown (es.size+1))
     pure true
    else pure true) Q E s:=by
   intro t2 e1 e2 e3 T2;refine Jr (wpAny_storeSet_of ho hd ?_ (by rw[hes,Vq];omega))
   have sb:Heap.SameBut a s.heap (s.heap.update a (Obj.putSet es1 t2)):=Heap.SameBut.update ..;have ho1:=store_at (es':=es1) (t':=t2) ho hd;generalize s.heap.update a (Obj.putSet es1 t2)=h1 at sb ho1 ⊢
   have F1:SetF P w h1 a L1 es1 (ep+1) t2:=⟨⟨_,ho1,⟨hex.1,hex.2.1,hex.2.2⟩,rfl⟩,hin,T2,nd1,fun q hq=>by
    rcases Jo.mp (pm.mem_iff.mp hq)with e|hq
    ·rw[e];exact zHl hx ho hd sb
    ·exact zHl (R.keys q hq) ho hd sb,by rw[e2,q5];exact R.led,by rw[hlen];exact hfew⟩
   have full:t1.tooFull=decide ((L.length+1)*5≥t1.mask*3):=by
    unfold SetTable.tooFull;rw[q9,Jc]
   by_cases hf:t1.tooFull=true
   ·refine jn (by rw[e3,hf];rfl) ?_
    have hfull:(L.length+1)*5≥t1.mask*3:=by rw[full,Jz]at hf;exact hf
    have two:(t.mask=7∧L.length=4)∨(t.mask=31∧L.length=18):=by
     rcases R.tab.mok with e|e|e
     ·left;rw[q4,e]at hfull;rw[e]at hroom;exact⟨e,∅⟩
     ·right;rw[q4,e]at hfull;rw[e]at hroom;exact⟨e,∅⟩
     ·exfalso;rw[q4,e]at hfull;omega
    have go:∀M,SetTable.sizeAbove (SetTable.grown (L.length+1))-1=M→MaskOk M→SetTable.sizeAbove (SetTable.grown (L.length+1))≤128→(L.length+1)*5<M*3 →
      wpAny (model P w) A (setRelay a (SetTable.grown (L.length+1))) (fun _ s'=>wpAny (model P w) A (pure true) Q E s') E { s with heap:=h1 }:=fun M c1 c2 c3 c4=>by
     refine relay (s := { s with heap:=h1 }) F1 (by rw[hlen,e1,q4];rcases two with⟨z,y⟩|⟨z,y⟩<;>omega) c1 c2 c3 (by rw[hlen];exact c4) ?_
     intro h2 L2 es2 ep2 t2 sb2 R2 pm2;exact JA (hQ true h2 L2 es2 ep2 t2 (sb.trans sb2) R2 ⟨fun z=>absurd z hm,fun _=>pm2.trans pm⟩)
    rw[hsl];refine Jr ?_
    rcases two with⟨_,y⟩|⟨_,y⟩
    ·exact go 31 (by rw[y,size_20]) (.inr (.inl rfl)) (by rw[y,size_20];decide) ∅
    ·exact go 127 (by rw[y,size_76]) (.inr (.inr rfl)) (by rw[y,size_76];decide) ∅
   ·refine Ys (by rw[e3];simp[hf]) ?_
    refine JA (hQ true h1 L1 es1 (ep+1) t2 sb (F1.full ?_) ⟨fun z=>absurd z hm,fun _=>pm⟩)
    rw[full,Jz]at hf;rw[hlen,e1];omega
  have off:∀b:Bool,wpAny (model P w) A (do
    storeSet a es1 (if b=true then t1 else{ t1 with plain:=false })
    if(!false&&(if b=true then t1 else{ t1 with plain:=false }:SetTable).tooFull)=true then do
     setRelay a (SetTable.grown (es.size+1))
     pure true
    else pure true) Q E s:=fun b=>by
   cases b with
   |true=>exact fin t1 rfl rfl rfl q3
   |false=>exact fin { t1 with plain:=false } rfl rfl rfl ⟨q3.ris,q3.dm,q3.sz,q3.mok,q3.bd,q3.reach⟩
  by_cases hp1:t1.plain=true
  ·refine jn hp1 ?_
   refine Jr (zLW k _ 8 hx.1 hx.2 _ _ _ ?_);exact off (zEo k)
  ·refine Ys hp1 ?_
   refine Jr (JA ?_);exact off true
end
structure Once (ks L:Lk):Prop where
 sub:∀q∈L,q∈ks
 all:∀q∈ks,q.1∈L.map Prod.fst
 len:L.length≤ks.length
theorem Once.nil:Once [] []:=⟨fun q h=>h,(fun q h=>by cases h),JH _⟩
theorem Once.add{ks L L':Lk}{k:NestedKey}{x:Addr} (o:Once ks L) (h:Added k x L L'):Once (ks++[(k,x)]) L':=by
 rcases Classical.em (k∈L.map Prod.fst)with c|c
 ·rw[h.1 c];refine⟨fun q hq=>Vr _ (o.sub q hq),fun q hq=>?_,by rw[Ju];have:=o.len;omega⟩
  rcases JI.mp hq with hq|hq
  ·exact o.all q hq
  ·rw[JS.mp hq];exact c
 ·have p:=h.2 c;refine⟨fun q hq=>?_,fun q hq=>(p.map Prod.fst).mem_iff.mpr ?_,by rw[p.length_eq,Ju,JJ];have:=o.len;simp;omega⟩
  ·rcases Jo.mp (p.mem_iff.mp hq)with e|hq
   ·rw[e];exact VG _ (JS.mpr rfl)
   ·exact Vr _ (o.sub q hq)
  ·rw[Jl];rcases JI.mp hq with hq|hq
   ·exact Jf _ (o.all q hq)
   ·rw[JS.mp hq];exact Jg
section
variable {P:Program}{w:World}{A:Around}{E:Value→Shared→Prop}{s:Shared}
theorem SetN.keep{h h':Heap}{a:Addr}{L:Lk}{es:Array (Int×Value)}{ep:Nat}{t:SetTable} (R:SetN P w h a L es ep t) (ha:∀o,h.get? a=some o→h'.get? a=some o) (ht:∀q∈L,NIs P w h' q.1 q.2):SetN P w h' a L es ep t:=by
 obtain⟨o,ho,r⟩:=R.obj;exact⟨⟨o,ha o ho,r⟩,R.its,R.tab,R.nd,ht,R.led,R.room,R.few⟩
def newSet(w:World):Obj := { cls:=.type "set",dict:=none,data:=.set #[] 0 (.fresh 0 0 (!w.params.followText "set-order")) }
theorem zOB{h:Heap}{a:Addr} (ho:h.get? a=some (newSet w)):SetN P w h a [] #[] 0 (.fresh 0 0 (!w.params.followText "set-order")) where
 obj:=⟨_,ho,⟨rfl,rfl,rfl⟩,rfl⟩
 its:=rfl
 tab:=⟨List.Pairwise.nil,rfl,rfl,.inl rfl,(fun x hx=>by cases hx),(fun i h j hi=>by simp at hi)⟩
 nd:=Yt
 keys:=fun q hq=>by cases hq
 led:=by
  show w.params.followText "set-order" = true∨(!w.params.followText "set-order")=true;cases w.params.followText "set-order"<;>simp
 room:=by show 0*5<7*3;decide
 few:=by show 0<64;decide
theorem fill{I:Addr}{fp wr:List Addr}{G:Array GenState→Array GenState→Prop}{n:Nat}{Pv:Nat→Value→Prop}{St:Nat→Shared→Prop}{R:Result→Shared→Prop}
  (W:WalksS P w A.in1 I fp wr G n Pv St) (S:Addr) (hSf:S∉fp) (ks:Lk) (hn:n=ks.length) (hfew:ks.length<64) (hval:∀i v,Pv i v→∃q,ks[i]?=some q∧v=.ref q.2)
  (h0:Heap) (hk:∀q∈ks,NIs P w h0 q.1 q.2) (hS0:h0.get? S=none) (hw0:∀b∈wr,h0.get? b=none) (hu:A.in1.units+8<cLine)
  (hR:∀s' L es ep t,Moved (S::wr) G s s'→SetN P w s'.heap S L es ep t→Once ks L→(∀b o,h0.get? b=some o→s'.heap.get? b=some o)→R (.ok (.ret .none)) s') :
  ∀(i:Nat) (s1:Shared),i≤n→St i s1→(∀b o,h0.get? b=some o→s1.heap.get? b=some o)→(∀s',Moved (S::wr) G s1 s'→Moved (S::wr) G s s')→(∃L es ep t,SetN P w s1.heap S L es ep t∧Once (ks.take i) L) →
   codeAny (model P w) A (.builtin "set.update.loop" ⟨[.ref S,.ref I],[]⟩) R s1:=by
 have hSw:S∉wr:=fun h=>hSf (W.sub _ h)
 have hsub:∀b∈wr,b∈S::wr:=fun b hb=>Jf _ hb
 have kp:∀ {s s':Shared},Moved wr G s s'→(∀b o,h0.get? b=some o→s.heap.get? b=some o)→∀b o,h0.get? b=some o→s'.heap.get? b=some o:=fun hm hkp b o e =>
  hm.heap b o (fun hb=>by rw[hw0 b hb]at e;cases e) (hkp b o e)
 suffices main:∀(d i:Nat) (s1:Shared),n-i=d→i≤n→St i s1→(∀b o,h0.get? b=some o→s1.heap.get? b=some o)→(∀s',Moved (S::wr) G s1 s'→Moved (S::wr) G s s')→(∃L es ep t,SetN P w s1.heap S L es ep t∧Once (ks.take i) L) →
   codeAny (model P w) A (.builtin "set.update.loop" ⟨[.ref S,.ref I],[]⟩) R s1 from fun i s1 hi=>main (n-i) i s1 rfl hi
 intro d
 induction d with
 |zero =>
  intro i s1 hd hi hst hkp hmv ⟨L,es,ep,t,hS,g⟩;obtain rfl:i=n:=by omega
  refine V6 F.entry_set_update_loop ?_
  rw[YW YF _];show wpAny _ A.in1 (pyNext (.ref I) >>= _) _ _ s1;refine Jr (W.done s1 _ _ hst fun s' hm=>?_)
  show wpAny _ A.in1 (ret Value.none) _ _ s';have hkp':=kp hm hkp;rw[hn,YT]at g;exact JA (hR s' L es ep t (hmv s' (hm.mono hsub)) (hS.keep (fun o e=>hm.heap S o hSw e) fun q hq=>zHm (hk q (g.sub q hq)) hkp') g hkp')
 |succ d ih =>
  intro i s1 hd hi hst hkp hmv ⟨L,es,ep,t,hS,g⟩;have hlt:i<n:=by omega
  refine V6 F.entry_set_update_loop ?_
  rw[YW YF _];show wpAny _ A.in1 (pyNext (.ref I) >>= _) _ _ s1;refine Jr (W.item i s1 _ _ hlt hst fun v s' hP hst' hm=>?_)
  obtain⟨⟨k,x⟩,hp,rfl⟩:=hval i v hP;have hkp':=kp hm hkp;have sub:∀q∈L,q∈ks:=fun q hq=>List.mem_of_mem_take (g.sub q hq)
  have hS':SetN P w s'.heap S L es ep t:=hS.keep (fun o e=>hm.heap S o hSw e) fun q hq=>zHm (hk q (sub q hq)) hkp'
  have hx:NIs P w s'.heap k x:=zHm (hk (k,x) (Ji hp)) hkp';have gl:=g.len;rw[Vy]at gl;show wpAny _ A.in1 (holding [Value.ref x] (setAdd S (.ref x)) >>= _) _ _ s';refine Jr (YC ?_);unfold setAdd;refine YC ?_
  refine Jr ((nestedKind P w).pyHash hu hx ?_);refine adds (s := { s' with toks:=s'.toks+(nestedKind P w).draws k }) hS' hx hu ∅ fun b h' L' es' ep' t' hsb hS2 ad=>?_
  have et:ks.take (i+1)=ks.take i++[(k,x)]:=by rw[VD,hp];rfl
  have hkp2:∀b o,h0.get? b=some o→h'.get? b=some o:=fun b o e=>(hsb.2 b (fun z=>by rw[z,hS0]at e;cases e)).trans (hkp' b o e)
  refine JA ⟨plainId_quiet YF _,ih (i+1) _ ∅ hlt (W.frame _ s' _ _ hst' (VN _ _) fun b hb o e=>?_) hkp2 (fun s'' hm''=>hmv _ (Moved.trans W.gtrans ((hm.mono hsub).then_heap (VN _ _) fun b o hb e=>?_) hm'')) ⟨L',es',ep',t',hS2,by rw[et];exact g.add ad⟩⟩
  ·rw[hsb.2 b (fun h:b=S=>hSf (by rw[←h];exact hb))];exact e
  ·rw[hsb.2 b (fun h:b=S=>hb (by rw[h];exact Jg))];exact e
def MadeS(P:Program) (w:World) (s:Shared) (ks:Lk) (s':Shared):Prop:=∃h' tk L es ep t,s'={ s with heap:=h',toks:=tk }∧SetN P w h' s.heap.objs.size L es ep t∧Once ks L∧∀b o,s.heap.get? b=some o→h'.get? b=some o
theorem zKz{h:Heap}{b:Addr} (hb:h.objs.size≤b):h.get? b=none:=by
 cases q:h.get? b with
 |none=>rfl
 |some o=>exact absurd (Vb (JP q) hb) (bG _)
set_option maxHeartbeats 6400000 in theorem zPl {l:Addr}{items:Array Value} (ks:Lk){Q:Value→Shared→Prop} (hh:A.handled=none) (hl:s.heap.IsList l items) (hit:items.toList=ks.map fun q=>Value.ref q.2) (hk:∀ q∈ks,NIs P w s.heap q.1 q.2) (hfew:ks.length < 64) (hu:A.units + 12 < cLine)
  (h:∀s',MadeS P w s ks s'→Q (.ref s.heap.objs.size) s'):wpAny (model P w) A (call (.type "set") [.ref l]) Q E s:=by
 have hisz:items.size=ks.length:=by rw[←Vf,hit,Jc]
 obtain⟨c,tl,hmro⟩:=Vn.mro;have hmade:=Vn.made;have hsub:=Vn.sub;refine ja (bV ?_);show wpAny _ _ (callAny (.type "set") _) _ _ _;refine JA ⟨YB _ ⋯,V6 F.entry_type_call ?_⟩;rw[Around.under_plain (weight_type_call_type "set" [.ref l] []) rfl];have h1:=Vn.notType;have h2:=Vn.canCreate;have hct:=F.typeCall_set_1 (.ref l)
 repeat (any_goals (first|assumption|wp_step))
 have hS:(s.heap.push (newSet w)).get? s.heap.objs.size=some (newSet w):=JK _ rfl;have hz1:(s.heap.push (newSet w)).objs.size=s.heap.objs.size+1:=bt ..;refine YA (code_set_led1 (.ref l) (E:=E) (Q₁:=fun obj s1=>obj=.ref s.heap.objs.size∧s1={ s with heap:=s.heap.push (newSet w) }) ⟨rfl,rfl⟩) fun r s1 hr=>?_
 match r,hr with
 | .error e,hr=>exact hr
 | .ok .next,hr=>exact hr.elim
 | .ok .brk,hr=>exact hr.elim
 | .ok .cont,hr=>exact hr.elim
 | .ok (.ret obj),hr =>
  obtain⟨rfl,rfl⟩:=hr;have hT:Shared.TypeIs { s with heap:=s.heap.push (newSet w) } (.ref s.heap.objs.size) "set" := ⟨_,hS,rfl⟩
  have hli:=Vn.init.lookup;have hbi:=Vn.init.bind (.ref s.heap.objs.size)
  repeat (any_goals (first|assumption|wp_step))
  refine YA (codeAny_call_builtin (R:=wants (fun r s2=>r=.none∧MadeS P w s ks s2) E) Vn.init.plain F.entry_set_init (check_set_init_1 hT ?_)) fun r2 s2 hr2=>?_
  ·obtain⟨⟨ocls,odict,odata,oslots⟩,hol,hcl,nl,hdl⟩:=hl;simp only at hcl hdl;subst hcl;subst hdl;have hol':(s.heap.push (newSet w)).get? l=some { cls:=.type "list",dict:=odict,data:=.seq items nl,slots:=oslots }:=Jn _ hol;have hl1:(s.heap.push (newSet w)).IsList l items:=⟨_,hol',rfl,nl,rfl⟩;have hsls:=F.sub_list_set;have hslf:=F.sub_list_frozenset;have hne:(Value.type "list" == Value.type "dict")=false:=by decide
   unfold Builtin.«set.__init__» noKeywords Builtin.Frozenset.updateFrom;generalize hPI:pyIter=PI
   wp_walk
   subst hPI;refine bu hl1 ?_
   refine Jr (je ?_);have hlS:l<s.heap.objs.size:=JP hol;have hh3:A.in1.in1.in1.handled=none:=by simp[hh]
   have hneI:l≠(s.heap.push (newSet w)).objs.size:=by rw[hz1];exact Vd (VC hlS)
   have hSf:s.heap.objs.size ∉ [(s.heap.push (newSet w)).objs.size,l]:=by
    rw[hz1];simp only[Jo,VM,bC,not_or];exact⟨Vd (Vz _),bU hlS⟩
   have hval:∀(i:Nat) (v:Value),items[i]?=some v→∃q,ks[i]?=some q∧v=.ref q.2:=fun i v hv=>by
    have q:items.toList[i]?=some v:=by rw[J6];exact hv
    rw[hit,Jd]at q;obtain⟨q0,e0,e1⟩:=Jx.mp q;exact⟨q0,e0,e1.symm⟩
   refine fill (s := { s with heap:=(s.heap.push (newSet w)).push { cls:=.type "list_iterator",data:=.fields #[.ref l,.int 0 0] } }) ((Walks.list hh3 _ l hneI items).toS) s.heap.objs.size hSf ks hisz hfew hval s.heap hk (zKz (JH _))
    (fun b hb=>zKz (by rw[JS.mp hb,hz1];exact Y2 _)) ?hun ?hR 0 _ (J3 _) ⟨⟨_,JK _ rfl,rfl,rfl⟩,(hl1.push _)⟩ (fun b o e=>Jn _ (Jn _ e)) (fun s' hm=>hm) ?hS0
   case hun =>
    have e:A.in1.in1.in1.units=A.units+3:=rfl;omega
   case hS0=>exact⟨[],#[],0,_,zOB (Jn _ hS),.nil⟩
   case hR =>
    intro s' L es ep t hm hS' g' hkp;obtain⟨h',g2,d',tk',os'⟩:=s';have eg:g2=s.gens:=hm.gens;have ed:d'=s.drawn:=hm.drawn;have eo:os'=s.os:=hm.os;subst eg;subst ed;subst eo;show wpAny _ _ _ _ _ _;refine JA ?_
    show wpAny _ _ (ret Value.none) _ _ _;exact JA ⟨rfl,h',tk',L,es,ep,t,rfl,hS',g',hkp⟩
  ·match r2,hr2 with
   | .error e,hr2=>exact hr2
   | .ok .next,hr2=>exact hr2.elim
   | .ok .brk,hr2=>exact hr2.elim
   | .ok .cont,hr2=>exact hr2.elim
   | .ok (.ret r),hr2 =>
    obtain⟨rfl,hm⟩:=hr2;have hq:=h s2 hm
    repeat (any_goals (first|assumption|wp_step))
end
section
open PySem.W Y
theorem zKr{α β:Type}{f:α→β}{l m:List β} (p:l.Perm m):∀ {L:List α},m=L.map f→∃L1:List α,L1.Perm L∧l=L1.map f:=by
 induction p with
 |nil=>intro L e;exact⟨[],by rw[Y3.mp e.symm],rfl⟩
 |cons x p ih =>
  intro L e;cases L with
  |nil=>cases e
  |cons a L =>
   rw[Jl]at e;injection e with e1 e2
   obtain⟨L1,q,rfl⟩:=ih e2;exact⟨a::L1,q.cons a,by rw[Jl,e1]⟩
 |swap x y l =>
  intro L e
  match L,e with
  |[],e=>cases e
  |[_],e=>cases e
  |a::b::L,e =>
   rw[Jl,Jl]at e;injection e with e1 e2
   injection e2 with e2 e3
   exact⟨b::a::L,List.Perm.swap a b L,by rw[Jl,Jl,e1,e2,e3]⟩
 |trans p q ih1 ih2 =>
  intro L e;obtain⟨L1,p1,e1⟩:=ih2 e;obtain⟨L2,p2,e2⟩:=ih1 e1;exact⟨L2,p2.trans p1,e2⟩
mutual
theorem nk_dp{K:PySem.W.Frag}{H:Hp}:∀ {k:NestedKey}{v:V},NK K H k v→Dp K H v k.data
 |_,_,.non=>by rw[NestedKey.data];exact .non
 |_,_,.int i=>by rw[NestedKey.data];exact .int i
 |_,_,.text x=>by rw[NestedKey.data];exact .str x
 |_,_,.tup h q=>by rw[NestedKey.data];exact .tup h (zQa q)
theorem zQa{K:PySem.W.Frag}{H:Hp}:∀ {ks:List NestedKey}{vs:List V},NKs K H ks vs→DpAll K H vs (NestedKey.datas ks)
 |_,_,.nil=>by rw[NestedKey.datas];exact .nil
 |_,_,.cons h q=>by rw[NestedKey.datas];exact .cons (nk_dp h) (zQa q)
end
section
variable {X:Cx}
def zND(K:PySem.W.Frag) (H:Hp) (ks:Lk):Prop:=∀q∈ks,NK K H q.1 (.ref q.2)∧q.1.depth≤8
theorem zND.is{pins:List (Addr×Obj)}{σ:L2.St}{H:Hp}{s:Shared} (I:Inv X pins σ H s){ks:Lk} (h:zND X.K H ks):∀q∈ks,NIs X.prog X.w s.heap q.1 q.2:=fun q hq=>⟨NK.is I (h q hq).1 rfl,(h q hq).2⟩
theorem zI1:∀ {ks:Lk}{us:List Value},Vals (ks.map fun q=>V.ref q.2) us→us=ks.map fun q=>Value.ref q.2
 |[],_,.nil=>rfl
 |q::ks,_,.cons r rs=>by
  rw[zI1 rs,Jl]
  congr 1
def kD(q:NestedKey×Addr):PyData:=q.1.data
def zRN(K:PySem.W.Frag) (ta:TE):TE:=fun σ H Q=>ta σ H fun x H1=>∃(l:Addr) (ks:Lk),x=.ref l∧SqL K H1 l (ks.map fun q=>V.ref q.2)∧zND K H1 ks∧ks.length<64∧AllAlike (ks.map kD)∧Sortable (ks.map kD)∧(∀q∈ks,(kD q).depth≤8) ∧
 ∀(L:Lk) (p:Addr),Once ks L→(L.map Prod.fst).Nodup→H1 p=none→Q (.ref p) (upd H1 p (.lst ((L.mergeSort (dataLe false kD)).map fun q=>V.ref q.2)))
theorem zN0{ds es:List PyData} (h:∀d∈es,d∈ds) (a:AllAlike ds):AllAlike es:=fun d hd e he=>a d (h d hd) e (h e he)
theorem zIs{ds es:List PyData} (h:∀d∈es,d∈ds) (a:Sortable ds):Sortable es:=a.imp (fun x d hd=>x d (h d hd)) fun x d hd=>x d (h d hd)
theorem zMr{e:Expr}{ta:TE}{p p2 q pos:Pos} (hu:X.A.units+65<cLine) (hg:Gl X "sorted") (hm:X.mg "sorted" = none) (hg2:Gl X "set") (hm2:X.mg "set" = none) (ha:PE X e ta) (hc:X.calm=true)
  (na:starEach [e] X.env=(false,eval e X.env)::starEach [] X.env:=by rfl):PE X (.Call (.Name "sorted" p) [.Call (.Name "set" p2) [e] [] q] [] pos) (zRN X.K ta):=by
 refine⟨fun pins s σ H Q I h=>?_⟩
 refine Call_ (ld_blt I hg hm boot_sorted ?_);refine V9 (VW ?_ rfl) rfl rfl;refine Call_ (ld_blt I hg2 hm2 boot_set ?_);refine Yh (VW (thn (ha.run pins s σ H _ I h) fun v s1 ⟨x,H1,I1,r1,q1⟩=>VZ ?_) na) na rfl
 obtain⟨l,ks,rfl,hq,hk,hf,hal,hso,hdp,q1⟩:=q1;cases r1;obtain⟨its,r,pl,hz⟩:=I1.list hq;refine zPl ks (I1.ok.hd hc) pl.isList (by simpa using zI1 r) (hk.is I1) hf ∅ fun s2 ⟨h2,tk,L,es,ep,t,e2,R,on,kp⟩=>VZ ?_
 subst e2;obtain⟨o,ho,hex,hd⟩:=R.obj;refine TS.sorted_gen (C:=fun vs s3=>(∀b o,h2.get? b=some o→s3.heap.get? b=some o)∧h2.objs.size≤s3.heap.objs.size∧s3.gens=s1.gens∧s3.os=s1.os∧vs.Perm (L.map fun q=>Value.ref q.2)) (fun E' Q' hC=>?_) fun vs s3 ⟨k3,z3,g3,o3,pm⟩=>?_
 ·refine collect_set (A:=X.A.in1) (I1.ok.hd hc) ⟨o,ho,hex.1,hd⟩ (SetN.fits (s := { s1 with heap:=h2,toks:=tk }) R) (by rw[SetN.size (s := { s1 with heap:=h2,toks:=tk }) R];have:=R.few;unfold scanBound;omega) R.tab.ris R.led fun s3 vs k3 z3 g3 o3 pm=>hC vs s3 ⟨k3,z3,g3,o3,?_⟩
  rw[R.its]at pm;unfold ents at pm;rw[Jm]at pm;exact pm
 ·obtain⟨L1,p1,rfl⟩:=zKr pm rfl;have sub:∀q∈L1,q∈ks:=fun q hq=>on.sub q (p1.mem_iff.mp hq)
  have on1:Once ks L1:=⟨sub,fun q hq=>(p1.map Prod.fst).mem_iff.mpr (on.all q hq),by rw[p1.length_eq];exact on.len⟩
  have nd1:(L1.map Prod.fst).Nodup:=(p1.map Prod.fst).nodup_iff.mpr R.nd;have k13:∀b o,s1.heap.get? b=some o→s3.heap.get? b=some o:=fun b o e=>k3 b o (kp b o e)
  have e3:s3={ s1 with heap:=s3.heap,drawn:=s3.drawn,toks:=s3.toks }:=by
   cases s3;cases s1;cases g3;cases o3;rfl
  have z13:s1.heap.objs.size≤s3.heap.objs.size:=Vs (Nat.le_of_lt (JP ho)) z3;have few1:L1.length<64:=by rw[p1.length_eq];exact R.few
  have ds:∀d∈(L1.map fun q=>(V.ref q.2,kD q)).map Prod.snd,d∈ks.map kD:=fun d hd=>by
   rw[Jm]at hd;obtain⟨q,hq,rfl⟩:=Jj.mp hd;exact Jj.mpr ⟨q,sub q hq,rfl⟩
  have I3:Inv X pins σ H1 { s1 with heap:=s3.heap,toks:=s3.toks }:=I1.kept (t':=s3.toks) k13
  have rd:∀q∈L1,∃as,Reads s3.heap (.ref q.2) (kD q) as:=fun q hq=>Dp.reads I3 (kD q) (.ref q.2) (.ref q.2) (nk_dp (hk q (sub q hq)).1) rfl
  have each:∀(M:Lk) (Rr:Value→V×PyData→Prop),(∀q∈M,Rr (.ref q.2) (V.ref q.2,kD q))→EachIs Rr (M.map fun q=>Value.ref q.2) (M.map fun q=>(V.ref q.2,kD q)):=by
   intro M Rr
   induction M with
   |nil=>intro _;exact .nil
   |cons q M ih=>intro hM;exact .cons (hM q Jg) (ih fun u hu=>hM u (Jf _ hu))
  refine⟨L1.map fun q=>(V.ref q.2,kD q),each L1 _ fun q _=>rfl,each L1 _ rd,zN0 ds hal,zIs ds hso,by rw[Jc,Vq];omega,fun b hb=>?_,fun out c h' eo ho' hk2=>?_⟩
  ·have hm:b.2∈(L1.map fun q=>(V.ref q.2,kD q)).map Prod.snd:=Jj.mpr ⟨b,hb,rfl⟩
   obtain⟨q,hq,e⟩:=Jj.mp (ds _ hm)
   have:=hdp q hq
   rw[e]at this;omega
  ·have es:(L1.map fun q=>(V.ref q.2,kD q)).mergeSort (dataLe false Prod.snd)=(L1.mergeSort (dataLe false kD)).map fun q=>(V.ref q.2,kD q):=(sort_maps (r:=dataLe false kD) (s:=dataLe false Prod.snd) (fun q:NestedKey×Addr=>(V.ref q.2,kD q)) (fun a _ b _=>rfl)).symm
   rw[es]at eo;have vo:=zJf eo;rw[Jm]at vo;have hn:H1 s3.heap.objs.size=none:=I1.hok.fresh z13;have lo:((L1.mergeSort (dataLe false kD)).map fun q=>V.ref q.2).length≤sizeLine:=by rw[Jc,List.length_mergeSort,Vq];omega
   have kk:∀b o,s1.heap.get? b=some o→h'.get? b=some o:=fun b o e=>hk2 b o (k13 b o e)
   have J:Inv X pins σ (upd H1 s3.heap.objs.size (.lst ((L1.mergeSort (dataLe false kD)).map fun q=>V.ref q.2))) { s1 with heap:=h',gens:=s1.gens,drawn:=s3.drawn,toks:=s3.toks } :=
    I1.call (ch:=[]) (Un.laid kk z13 hn) (I1.hok.laid kk z13 ⟨lo,out,c,vo,ho'⟩) I1.bare (fun _ z=>nomatch z)
   rw[e3];exact⟨.ref _,_,J,rfl,q1 L1 _ on1 nd1 hn⟩
end
end
section
open PySem.W Y
mutual
theorem zJs:∀ {x y:P}{k:NestedKey},nkP x=some k→nkP y=some k→x=y
 | .non,y,k,e,e'=>by
  rw[nkP]at e;cases e;cases y<;>(try rfl)<;>simp[nkP]at e'
 | .int i,y,k,e,e'=>by
  rw[nkP]at e;cases e;cases y<;>simp[nkP]at e';rw[e']
 | .str z,y,k,e,e'=>by
  rw[nkP]at e;cases e;cases y<;>simp[nkP]at e';rw[e']
 | .tup l,y,k,e,e'=>by
  rw[nkP]at e;obtain⟨ks,e1,rfl⟩:=Jx.mp e;cases y with
  |tup m =>
   rw[nkP]at e';obtain⟨ks',e2,e3⟩:=Jx.mp e';injection e3 with e3
   subst e3;rw[zK4 e1 e2]
  |_=>simp[nkP]at e'
theorem zK4:∀ {l m:List P}{ks:List NestedKey},nkPs l=some ks→nkPs m=some ks→l=m
 |[],m,ks,e,e'=>by
  rw[nkPs]at e;cases e;cases m with
  |nil=>rfl
  |cons y m =>
   rw[nkPs]at e';split at e'<;>simp at e'
 |x::l,m,ks,e,e'=>by
  rw[nkPs]at e;split at e
  ·rename_i k ks' e1 e2
   cases e;cases m with
   |nil=>rw[nkPs]at e';cases e'
   |cons y m =>
    rw[nkPs]at e';split at e'
    ·rename_i k2 ks2 f1 f2
     injection e' with e'
     injection e' with g1 g2
     subst g1 g2;rw[zJs e1 f1,zK4 e2 f2]
    ·cases e'
  ·cases e
end
mutual
theorem zLl:∀ {x:P}{k:NestedKey},nkP x=some k→toD x=some k.data
 | .non,k,e=>by rw[nkP]at e;cases e;rw[toD,NestedKey.data]
 | .int i,k,e=>by rw[nkP]at e;cases e;rw[toD,NestedKey.data]
 | .str z,k,e=>by rw[nkP]at e;cases e;rw[toD,NestedKey.data]
 | .tup l,k,e=>by
  rw[nkP]at e;obtain⟨ks,e1,rfl⟩:=Jx.mp e;rw[toD,zNj e1,NestedKey.data]
theorem zNj:∀ {l:List P}{ks:List NestedKey},nkPs l=some ks→toDs l=some (NestedKey.datas ks)
 |[],ks,e=>by rw[nkPs]at e;cases e;rw[toDs,NestedKey.datas]
 |x::l,ks,e=>by
  rw[nkPs]at e;split at e
  ·rename_i k ks' e1 e2
   cases e;rw[toDs,zLl e1,zNj e2,NestedKey.datas]
  ·cases e
end
mutual
/-- the signs of a key tell it,among the alike -/
theorem zLJ:∀(a b:NestedKey){r r':List (Int ⊕ List Nat)},alike a.data b.data=true→keyToks a.data++r=keyToks b.data++r'→a=b∧r=r'
 | .none,.none,r,r',_,h=>by
  simp only[NestedKey.data,keyToks,V5]at h;exact⟨rfl,h⟩
 | .num i,.num j,r,r',_,h=>by
  simp only[NestedKey.data,keyToks,VA,V5,VH,Sum.inl.injEq]at h;exact⟨by rw[h.1],h.2⟩
 | .text x,.text y,r,r',_,h=>by
  simp only[NestedKey.data,keyToks,VA,V5,VH,Sum.inr.injEq]at h
  have e:x=y:=by
   have h1:=h.1;cases x;cases y;simpa using h1
  rw[e];exact⟨rfl,h.2⟩
 | .tup ks,.tup ls,r,r',ha,h=>by
  simp only[NestedKey.data,keyToks,alike]at h ha;obtain⟨e1,e2⟩:=zGd ks ls ha h;exact⟨by rw[e1],e2⟩
 | .none,.num _,_,_,ha,_=>by simp[NestedKey.data,alike]at ha
 | .none,.text _,_,_,ha,_=>by simp[NestedKey.data,alike]at ha
 | .none,.tup _,_,_,ha,_=>by simp[NestedKey.data,alike]at ha
 | .num _,.none,_,_,ha,_=>by simp[NestedKey.data,alike]at ha
 | .num _,.text _,_,_,ha,_=>by simp[NestedKey.data,alike]at ha
 | .num _,.tup _,_,_,ha,_=>by simp[NestedKey.data,alike]at ha
 | .text _,.none,_,_,ha,_=>by simp[NestedKey.data,alike]at ha
 | .text _,.num _,_,_,ha,_=>by simp[NestedKey.data,alike]at ha
 | .text _,.tup _,_,_,ha,_=>by simp[NestedKey.data,alike]at ha
 | .tup _,.none,_,_,ha,_=>by simp[NestedKey.data,alike]at ha
 | .tup _,.num _,_,_,ha,_=>by simp[NestedKey.data,alike]at ha
 | .tup _,.text _,_,_,ha,_=>by simp[NestedKey.data,alike]at ha
theorem zGd:∀(ks ls:List NestedKey){r r':List (Int ⊕ List Nat)},alikeAll (NestedKey.datas ks) (NestedKey.datas ls)=true→keyToksAll (NestedKey.datas ks)++r=keyToksAll (NestedKey.datas ls)++r'→ks=ls∧r=r'
 |[],[],r,r',_,h=>by
  simp only[NestedKey.datas,keyToksAll,VA,V5,VH]at h;exact⟨rfl,h.2⟩
 |[],_::_,r,r',_,h=>by
  simp[NestedKey.datas,keyToksAll]at h
 |_::_,[],r,r',_,h=>by
  simp[NestedKey.datas,keyToksAll]at h
 |k::ks,l::ls,r,r',ha,h=>by
  simp only[NestedKey.datas,keyToksAll,alikeAll,Js,VA,Yl,VH,true_and]at h ha;obtain⟨e1,e2⟩:=zLJ k l ha.1 h;obtain⟨e3,e4⟩:=zGd ks ls ha.2 e2;exact⟨by rw[e1,e3],e4⟩
end
def nkOf(x:P):NestedKey:=(nkT x).getD .none
def ddK:List P→List P
 |[]=>[]
 |x::l=>if(ddK l).any (fun y=>decide (nkOf y=nkOf x))=true then ddK l else x::ddK l
theorem zD2:∀(l:List P) (x:P),x∈ddK l→x∈l
 |[],x,h=>by cases h
 |y::l,x,h=>by
  rw[ddK]at h;split at h
  ·exact Jf _ (zD2 l x h)
  ·rcases Jo.mp h with e|h
   ·rw[e];exact Jg
   ·exact Jf _ (zD2 l x h)
theorem zHp:∀(l:List P) (x:P),x∈l→nkOf x∈(ddK l).map nkOf
 |[],x,h=>by cases h
 |y::l,x,h=>by
  rw[ddK];split
  ·rename_i hy
   rcases Jo.mp h with e|h
   ·obtain⟨z,hz,ez⟩:=Yc.mp hy;rw[e];exact Jj.mpr ⟨z,hz,JB ez⟩
   ·exact zHp l x h
  ·rw[Jl];rcases Jo.mp h with e|h
   ·rw[e];exact Jg
   ·exact Jf _ (zHp l x h)
theorem zLP:∀l:List P,((ddK l).map nkOf).Nodup
 |[]=>Yt
 |y::l=>by
  rw[ddK];split
  ·exact zLP l
  ·rename_i hy
   rw[Jl];refine JV.mpr ⟨fun h=>hy ?_,zLP l⟩
   obtain⟨z,hz,ez⟩:=Jj.mp h;exact Yc.mpr ⟨z,hz,JD ez⟩
def setOk(l:List P):Bool:=l.all (fun x=>(nkT x).isSome)&&decide (l.length<64)
theorem zPd{l:List P} (h:setOk l=true):(∀x∈l,nkT x=some (nkOf x))∧l.length<64:=by
 unfold setOk at h;rw[Js,Jz]at h;refine⟨fun x hx=>?_,h.2⟩
 obtain⟨k,hk⟩:=Option.isSome_iff_exists.mp (Jp.mp h.1 x hx);unfold nkOf;rw[hk];rfl
def adV:V→Addr
 | .ref a=>a
 |_=>0
section
variable {K:PySem.W.Frag}{cl:Cls}{G:Hp}
def keysOf(l:List P) (vs:List V):Lk:=(l.zip vs).map fun q=>(nkOf q.1,adV q.2)
theorem zJS:∀ {l:List P}{vs:List V},RPs K cl G l vs→(∀x∈l,nkT x=some (nkOf x))→(∀q∈keysOf l vs,∃x∈l,nkOf x=q.1∧RP K cl G x (.ref q.2))∧vs=(keysOf l vs).map (fun q=>V.ref q.2)∧(keysOf l vs).map Prod.fst=l.map nkOf
 |[],_,.nil,_=>⟨(fun q h=>by cases h),rfl,rfl⟩
 |x::l,v::vs,.cons r rs,h=>by
  obtain⟨h1,h2,h3⟩:=zJS rs fun y hy=>h y (Jf _ hy)
  have e:=h x Jg;obtain⟨m,rfl,_,_⟩:=zCn e;cases r with
  |@tup a us _ ha hq =>
   refine⟨fun q hq2=>?_,?_,?_⟩
   ·rcases Jo.mp (show q∈(nkOf (.tup m),a)::keysOf l vs from hq2)with e2|hq2
    ·rw[e2];exact⟨.tup m,Jg,rfl,.tup ha hq⟩
    ·obtain⟨y,hy,ey⟩:=h1 q hq2;exact⟨y,Jf _ hy,ey⟩
   ·show V.ref a::vs=V.ref a::(keysOf l vs).map fun q=>V.ref q.2
    rw[←h2]
   ·show nkOf (.tup m)::(keysOf l vs).map Prod.fst=_;rw[h3];rfl
end
theorem zIw{x:P} (h:nkT x=some (nkOf x)):Y.encD x=(nkOf x).data:=by
 obtain⟨m,rfl,e,_⟩:=zCn h;unfold Y.encD;rw[zLl e];rfl
theorem zKM{l:List P}{ks L:Lk} (hn:∀x∈l,nkT x=some (nkOf x)) (hal:AllAlike (l.map Y.encD)) (hk:ks.map Prod.fst=l.map nkOf) (on:Once ks L) (nd:(L.map Prod.fst).Nodup) :
  (srtD (ddK l)).map nkOf=(L.mergeSort (dataLe false kD)).map Prod.fst:=by
 have m1:((srtD (ddK l)).map nkOf).Perm ((ddK l).map nkOf):=(J9 _ _).map _;have m2:((L.mergeSort (dataLe false kD)).map Prod.fst).Perm (L.map Prod.fst):=(J9 _ _).map _
 have m3:((ddK l).map nkOf).Perm (L.map Prod.fst):=by
  refine(be (zLP l) nd).mpr fun k=>⟨fun h=>?_,fun h=>?_⟩
  ·obtain⟨x,hx,rfl⟩:=Jj.mp h
   have:nkOf x∈ks.map Prod.fst:=by rw[hk];exact Jj.mpr ⟨x,zD2 l x hx,rfl⟩
   obtain⟨q,hq,e⟩:=Jj.mp this;rw[←e];exact on.all q hq
  ·obtain⟨q,hq,rfl⟩:=Jj.mp h
   have:q.1∈ks.map Prod.fst:=Jj.mpr ⟨q,on.sub q hq,rfl⟩
   rw[hk]at this;obtain⟨x,hx,e⟩:=Jj.mp this;rw[←e];exact zHp l x hx
 have inl:∀k∈(srtD (ddK l)).map nkOf,∃x∈l,nkOf x=k:=fun k hk'=>by
  obtain⟨x,hx,e⟩:=Jj.mp (m1.mem_iff.mp hk');exact⟨x,zD2 l x hx,e⟩
 refine zG1 (r:=fun a b:NestedKey=>dataLe false NestedKey.data a b=true) (fun a b ha hb h1 h2=>?_) (m1.trans (m3.trans m2.symm)) ?_ ?_
 ·obtain⟨x,hx,rfl⟩:=inl a ha;obtain⟨y,hy,rfl⟩:=inl b hb;rw[dataLe_eq]at h1 h2;simp only[cond_false,bx]at h1 h2;have e:=lex_total _ _ h2 h1;have al:=hal (Y.encD x) (Jj.mpr ⟨x,hx,rfl⟩) (Y.encD y) (Jj.mpr ⟨y,hy,rfl⟩);rw[zIw (hn x hx),zIw (hn y hy)]at al;exact(zLJ _ _ (r:=[]) (r':=[]) al (by rw[e])).1
 ·have tl:TotalLe (dataLe false Y.encD):=sortLe_total _ _ _;have s:=sort_pairwise tl (ddK l);rw[J4];refine VJ (fun{a b} ha hb h=>?_) s
  have ha':=zD2 l a ((J9 _ _).mem_iff.mp ha);have hb':=zD2 l b ((J9 _ _).mem_iff.mp hb);rw[dataLe_eq]at h ⊢;simp only[zIw (hn a ha'),zIw (hn b hb')]at h;exact h
 ·have tl:TotalLe (dataLe false kD):=sortLe_total _ _ _;have s:=sort_pairwise tl L;rw[J4];exact s
end
end NS
namespace Y
open PySem.W NS
def zGE(w:W) (st:List Cell):Res W:=match listOf st w with
 |some l=>if setOk l=true∧zMJ l=true then .ok (.p (.lst (srtD (ddK l)))) st else .no
 |none=>.no
def zKN(a:EM):EM:=fun σ st=>(a σ st).bind zGE
section
variable {K:PySem.W.Frag}{cl:Cls}{X:Cx}{Wx:WX}
theorem zOG{a:EM}{e:Expr}{p p2 q pos:Pos} (g:GX K X) (hg:Gl X "sorted") (hm:X.mg "sorted" = none) (hg2:Gl X "set") (hm2:X.mg "set" = none) (ha:SE K cl X Wx a e)
  (na:starEach [e] X.env=(false,eval e X.env)::starEach [] X.env:=by rfl):SE K cl X Wx (zKN a) (.Call (.Name "sorted" p) [.Call (.Name "set" p2) [e] [] q] [] pos):=by
 obtain⟨hK,hc,hN,hu,hh⟩:=g;subst hK;refine⟨fun E0 ρ G σ st τ H Q Rl S qq=>T.of (zMr hu hg hm hg2 hm2 T.pe hc na) ?_⟩
 refine ha.run E0 ρ G σ st τ H _ Rl S (Aft.seq qq fun w st1 ρ1 G1 H1 v e1 p1 s1 R1 u1 h1=>?_)
 unfold zGE at h1;split at h1
 ·rename_i l el
  split at h1
  ·rename_i hok
   obtain⟨hs,ho⟩:=hok;obtain⟨hn,hf⟩:=zPd hs;obtain⟨b,vs,rfl,hb,rp⟩:=zED R1 u1 el;obtain⟨k1,k2,k3⟩:=zJS rp hn;unfold zMJ at ho;split at ho
   ·rename_i ds eds
    obtain⟨o1,o2,o3⟩:=zOl ho;have ed:=zLf eds
    have lk:(keysOf l vs).length=l.length:=by
     have:=congrArg List.length k3
     rwa [Jc,Jc]at this
    have kd:(keysOf l vs).map kD=ds:=by
     rw[ed]
     have:(keysOf l vs).map kD=((keysOf l vs).map Prod.fst).map NestedKey.data:=by rw[Jm];rfl
     rw[this,k3,Jm];exact Vw fun x hx=>(zIw (hn x hx)).symm
    refine⟨b,keysOf l vs,rfl,.inl (.inl (by rw[←k2];exact hb)),fun q hq=>?_,by rw[lk];exact hf,by rw[kd];exact o1,by rw[kd];exact o2,fun q hq=>o3 _ (by rw[←kd];exact Jj.mpr ⟨q,hq,rfl⟩),fun L p on nd hp=>?_⟩
    ·obtain⟨x,hx,ex,rx⟩:=k1 q hq;have hT:=hn x hx;rw[ex]at hT;obtain⟨c,ec,n1,n2⟩:=NK.ofT R1.sub rx hT;cases ec;exact⟨n1,n2⟩
    ·refine zEG R1 hp ?_ h1;have ss:=zKM hn (by rw[←ed];exact o1) k3 on nd
     have ls:=congrArg List.length ss;rw[Jc,Jc]at ls;refine zQW (by rw[Jc];exact ls) fun i y u ey eu=>?_
     rw[Jd]at eu;obtain⟨q,eq,rfl⟩:=Jx.mp eu;have e1:((srtD (ddK l)).map nkOf)[i]?=some (nkOf y):=by rw[Jd,ey];rfl
     rw[ss,Jd,eq]at e1;have e2:q.1=nkOf y:=Jk e1;have hqL:q∈L:=(J9 _ _).mem_iff.mp (Ji eq);obtain⟨x,hx,ex,rx⟩:=k1 q (on.sub q hqL);have hy:y∈l:=zD2 l y ((J9 _ _).mem_iff.mp (Ji ey));have nx:=hn x hx;have ny:=hn y hy;rw[ex,e2]at nx;obtain⟨_,_,nx',_⟩:=zCn nx;obtain⟨_,_,ny',_⟩:=zCn ny;rw[←zJs nx' ny'];exact rx
   ·cases ho
  ·exact h1.elim
 ·exact h1.elim
end
section
variable {K:PySem.W.Frag}{cl:Cls}{X:Cx}{Wx:WX}
def ixD(ds:List PyData) (d:PyData):Option Nat:=if(SeqAt.shaped (.list ds)&&SeqAt.shaped d)=true then ds.findIdx? fun z=>PyData.eqv z d else none
def zEq(w:W) (ws:List W) (st:List Cell):Res W:=match listOf st w,ws with
 |some l,[.p y]=>match toDs l,toD y with
  |some ds,some d=>match ixD ds d with
   |some j=>.ok (.p (.int (j:Nat))) st
   |none=>.no
  |_,_=>.no
 |_,_=>.no
theorem zMa:VMt K cl zEq (rIndexD K):=by
 intro E0 ρ G st H w v ws vs Q Z R r rs h;unfold zEq at h;split at h
 ·rename_i l y el
  obtain⟨a,us,rfl,ha,q⟩:=zED R r el;obtain⟨u,rfl,ru⟩:=rs.one;split at h
  ·rename_i ds d eds ed
   split at h
   ·rename_i j ej
    unfold ixD at ej;split at ej
    ·rename_i hsh
     obtain⟨s1,s2⟩:=Bool.and_eq_true_iff.mp hsh;obtain⟨hj,hp,hn⟩:=YD.mp ej;refine⟨a,u,d,ds,j,ds[j],rfl,rfl,.lst (.inl (.inl ha)) (RPs.dp R.sub q eds),RP.dp R.sub ru ed,s1,s2,Ja hj,hp,fun m z' hm hz=>?_,h.here R (RP.int _)⟩
     obtain⟨hml,e⟩:=Jb.mp hz
     have:=hn m hm
     rw[e]at this;simpa using this
    ·cases ej
   ·exact h.elim
  ·exact h.elim
 ·exact h.elim
end
def smB(K:PySem.W.Frag) (C:Addr) (m:Str):Bool:=PySem.W.readsIn K C (.type "type")&&He.eqO (PySem.W.specialIn K (.ref C) "__getattribute__") (some (some (.builtin "type.__getattribute__"))) &&
 He5.wrapB K C "staticmethod" "staticmethod.__get__" m
end Y
namespace NS
section
variable {P:Program}{w:World}{A:Around}{E:Value→Shared→Prop}{s:Shared}
def MadeI(w:World) (s:Shared) (ns:List Int) (s':Shared):Prop:=∃h' tk c,s'={ s with heap:=h',toks:=tk }∧SetR w h' s.heap.objs.size (fun j=>decide (j∈ns)) c∧c≤ns.length∧∀b o,s.heap.get? b=some o→h'.get? b=some o
set_option maxHeartbeats 6400000 in theorem zOi {l:Addr}{items:Array Value} (ns:List Int){Q:Value→Shared→Prop} (hh:A.handled=none) (hl:s.heap.IsList l items) (hit:IntsAre items.toList ns) (hb:ns.length + 1 < scanBound)
  (h:∀s',MadeI w s ns s'→Q (.ref s.heap.objs.size) s'):wpAny (model P w) A (call (.type "set") [.ref l]) Q E s:=by
 have hisz:items.size=ns.length:=by
  have q:=IntsAre.length hit;rw[Vf]at q;exact q
 obtain⟨c,tl,hmro⟩:=Vn.mro;have hmade:=Vn.made;have hsub:=Vn.sub;refine ja (bV ?_);show wpAny _ _ (callAny (.type "set") _) _ _ _;refine JA ⟨YB _ ⋯,V6 F.entry_type_call ?_⟩;rw[Around.under_plain (weight_type_call_type "set" [.ref l] []) rfl];have h1:=Vn.notType;have h2:=Vn.canCreate;have hct:=F.typeCall_set_1 (.ref l)
 repeat (any_goals (first|assumption|wp_step))
 have hS:(s.heap.push (newSet w)).get? s.heap.objs.size=some (newSet w):=JK _ rfl;have hz1:(s.heap.push (newSet w)).objs.size=s.heap.objs.size+1:=bt ..;refine YA (code_set_led1 (.ref l) (E:=E) (Q₁:=fun obj s1=>obj=.ref s.heap.objs.size∧s1={ s with heap:=s.heap.push (newSet w) }) ⟨rfl,rfl⟩) fun r s1 hr=>?_
 match r,hr with
 | .error e,hr=>exact hr
 | .ok .next,hr=>exact hr.elim
 | .ok .brk,hr=>exact hr.elim
 | .ok .cont,hr=>exact hr.elim
 | .ok (.ret obj),hr =>
  obtain⟨rfl,rfl⟩:=hr;have hT:Shared.TypeIs { s with heap:=s.heap.push (newSet w) } (.ref s.heap.objs.size) "set" := ⟨_,hS,rfl⟩
  have hli:=Vn.init.lookup;have hbi:=Vn.init.bind (.ref s.heap.objs.size)
  repeat (any_goals (first|assumption|wp_step))
  refine YA (codeAny_call_builtin (R:=wants (fun r s2=>r=.none∧MadeI w s ns s2) E) Vn.init.plain F.entry_set_init (check_set_init_1 hT ?_)) fun r2 s2 hr2=>?_
  ·obtain⟨⟨ocls,odict,odata,oslots⟩,hol,hcl,nl,hdl⟩:=hl;simp only at hcl hdl;subst hcl;subst hdl;have hol':(s.heap.push (newSet w)).get? l=some { cls:=.type "list",dict:=odict,data:=.seq items nl,slots:=oslots }:=Jn _ hol;have hl1:(s.heap.push (newSet w)).IsList l items:=⟨_,hol',rfl,nl,rfl⟩;have hsls:=F.sub_list_set;have hslf:=F.sub_list_frozenset;have hne:(Value.type "list" == Value.type "dict")=false:=by decide
   unfold Builtin.«set.__init__» noKeywords Builtin.Frozenset.updateFrom;generalize hPI:pyIter=PI
   wp_walk
   subst hPI;refine bu hl1 ?_
   refine Jr (je ?_);have hlS:l<s.heap.objs.size:=JP hol;have hh3:A.in1.in1.in1.handled=none:=by simp[hh]
   have hneI:l≠(s.heap.push (newSet w)).objs.size:=by rw[hz1];exact Vd (VC hlS)
   have hSf:s.heap.objs.size ∉ [(s.heap.push (newSet w)).objs.size,l]:=by
    rw[hz1];simp only[Jo,VM,bC,not_or];exact⟨Vd (Vz _),bU hlS⟩
   have hval:∀(i:Nat) (v:Value),items[i]?=some v→∃k t,ns[i]?=some k∧v=.int k t:=fun i v hv=>by
    have hi:i<ns.length:=by rw[←hisz];exact(Y8.mp hv).1
    obtain⟨t,ht⟩:=hit.get i _ (Ja hi);rw[J6,hv]at ht;exact⟨ns[i],t,Ja hi,Jk ht⟩
   refine set_update_ints ((Walks.list hh3 _ l hneI items).toS) s.heap.objs.size hSf ns hisz hb hval (items.size-0) 0 _ ∅ (J3 _)
    ⟨⟨_,JK _ rfl,rfl,rfl⟩,(hl1.push _)⟩ ⟨0,JH _,?hS0⟩ ?hR
   case hS0=>exact setR_new_at (Jn _ hS)
   case hR =>
    intro s' c2 hm hc2 hS';obtain⟨h',g2,d',tk',os'⟩:=s';have eg:g2=s.gens:=hm.gens;have ed:d'=s.drawn:=hm.drawn;have eo:os'=s.os:=hm.os;subst eg;subst ed;subst eo;show wpAny _ _ _ _ _ _;refine JA ?_
    show wpAny _ _ (ret Value.none) _ _ _;refine JA ⟨rfl,h',tk',c2,rfl,hS',by rw[←hisz];exact hc2,fun b o e=>?_⟩
    have hlt:=JP e;have hb1:b≠s.heap.objs.size:=Vd hlt;have hb2:b≠(s.heap.push (newSet w)).objs.size:=by rw[hz1];exact Vd (VC hlt)
    exact hm.heap b o (by simp only[Jo,VM,bC,not_or];exact⟨hb1,hb2⟩) (Jn _ (Jn _ e))
  ·match r2,hr2 with
   | .error e,hr2=>exact hr2
   | .ok .next,hr2=>exact hr2.elim
   | .ok .brk,hr2=>exact hr2.elim
   | .ok .cont,hr2=>exact hr2.elim
   | .ok (.ret r),hr2 =>
    obtain⟨rfl,hm⟩:=hr2;have hq:=h s2 hm
    repeat (any_goals (first|assumption|wp_step))
end
end NS
namespace Y
open NS
def insI(x:Int):List Int→List Int
 |[]=>[x]
 |y::l=>if x<y then x::y::l else if x=y then y::l else y::insI x l
def dsI(l:List Int):List Int:=l.foldr insI []
theorem zIg{x k:Int}:∀ {l:List Int},k∈insI x l↔k=x∨k∈l
 |[]=>by simp[insI]
 |y::l=>by
  rw[insI];split
  ·rw[Jo]
  ·split
   ·rename_i e
    subst e;rw[Jo];exact⟨.inr,fun h=>h.elim .inl id⟩
   ·rw[Jo,zIg,Jo];exact⟨fun h=>h.elim (fun e=>.inr (.inl e)) (fun h=>h.elim .inl fun m=>.inr (.inr m)),fun h=>h.elim (fun e=>.inr (.inl e)) fun h=>h.elim .inl fun m=>.inr (.inr m)⟩
theorem zKp{x:Int}:∀ {l:List Int},l.Pairwise (· < ·)→(insI x l).Pairwise (· < ·)
 |[],_=>by simp[insI]
 |y::l,h=>by
  obtain⟨h1,h2⟩:=VI.mp h;rw[insI];split
  ·rename_i lt
   exact VI.mpr ⟨fun z hz=>(Jo.mp hz).elim (fun e=>e▸lt) fun m=>Int.lt_trans lt (h1 z m),h⟩
  ·split
   ·exact h
   ·rename_i a b
    refine VI.mpr ⟨fun z hz=>?_,zKp h2⟩
    rcases zIg.mp hz with rfl|m
    ·omega
    ·exact h1 z m
theorem zFU{k:Int}:∀ {l:List Int},k∈dsI l↔k∈l
 |[]=>Iff.rfl
 |x::l=>by
  show k∈insI x (dsI l)↔_;rw[zIg,zFU,Jo]
theorem zIh:∀l:List Int,(dsI l).Pairwise (· < ·)
 |[]=>.nil
 |x::l=>zKp (zIh l)
theorem zLr{l m:List Int} (hl:l.Pairwise (· < ·)) (hm:m.Pairwise (· < ·)) (h:∀k,k∈l↔k∈m):l=m:=by
 have nd:∀ {l:List Int},l.Pairwise (· < ·)→l.Nodup:=fun hl=>hl.imp fun h e=>by omega
 exact zG1 (r:=(· < ·)) (fun a b _ _ h1 h2=>by omega) ((be (nd hl) (nd hm)).mpr h) hl hm
def SIO(w:World) (a:Addr) (S:Int→Bool) (n:Nat):HO:=.ext fun h=>SetR w h a S n
theorem zQh{w:World}{P:Program}{H:Hp}{h:Heap}{a:Addr}{S:Int→Bool}{n:Nat} (R:SetR w h a S n):ObjOk P w H h a (SIO w a S n):=by
 obtain⟨o,_,_,_,ho,_⟩:=id R;exact⟨R,⟨o,ho⟩,fun _ _ p k=>SetR.at p k⟩
theorem zRa{X:Cx}{pins:List (Addr×Obj)}{σ:L2.St}{H:Hp}{s:Shared}{E:Value→Shared→Prop}{D:Addr}{S:Int→Bool}{n:Nat}{y:Int}{tk:Tok}{Q:Value→Shared→Prop} (I:L2.Inv X pins σ H s) (hD:H D=some (SIO X.w D S n)) (room:n+1<scanBound)
  (h:∀s',L2.Inv X pins σ (upd H D (SIO X.w D (fun j=>S j||decide (j=y)) (if S y=true then n else n+1))) s'→Q .none s'):wpAny (model X.prog X.w) X.A (call (.builtin "set.add") [.ref D,.int y tk]) Q E s:=by
 have R:SetR X.w s.heap D S n:=(I.hok D _ hD).1;refine setR_add R room fun h' sb new=>?_
 obtain⟨o,_,_,_,ho,_⟩:=id new;exact h _ (I.write (x:=D) (e:=D) (t':=s.toks+1) (by rw[hD];exact True.intro) (.inl rfl) (fun b u hb hu=>(sb.2 b hb).trans hu) ⟨o,ho⟩ (zQh new))
section
variable {X:Cx}
def tScI(w:World) (wi:TI) (g:TG) (tt:TT) (te:TE) (vs:List Nat):TE:=fun σ H Q=>wi σ H fun J H1=>∀D,H1 D=none→∃W:Nat→Nat→Hp→Prop,(∃m,W 0 m (upd H1 D (SIO w D (fun _=>false) 0)))∧∀i m H,W i m H →
 (J.stop i H∧Q (.ref D) H)∨(J.go i H∧∃Nx:Hp→Prop,(∀H',Nx H'→∃m',m'<m∧W (i+1) m' H')∧∀x H',J.yld i H x H'→g x (wipe σ vs) H' fun σ2 H2=>wipe σ2 vs=wipe σ vs∧tt σ2 H2 fun b H3 =>
  if b=true then te σ2 H3 fun y H4=>∃(k:Int) (S:Int→Bool) (n:Nat),y=.int k∧H4 D=some (SIO w D S n)∧n+1<scanBound∧Nx (upd H4 D (SIO w D (fun j=>S j||decide (j=k)) (if S k=true then n else n+1)))else Nx H3)
end
end Y
namespace L2
open Y PpSet
section
variable {X:Cx}
theorem zPC{pins:List (Addr×Obj)}{s:Shared}{σ:St}{H:Hp}{Q:VK}{elt tg iter:Expr}{ifs:List Expr}{scope:Scope}{own:List (Str×Nat)}{pos pos':Pos}{wi:TI}{g:TG}{tt:TT}{te:TE}{use:Option (Value→Sem Unit)}{Qf:Value→Shared→Prop}
  (hc:X.calm=true) (hN:X.N.Nodup) (I:Inv X pins σ H s) (hi:PI X tg iter wi) (ok:BlkOk X.N X.env.scope scope own)
  (hg:∀(s:Shared) (H:Hp) (C:Addr) (cl:List (Str×Addr)) (fp:List Addr),PG (X.blk s H scope (compEnvC scope cl C X.env) fp) tg g) (ht:∀(s:Shared) (H:Hp) (C:Addr) (cl:List (Str×Addr)) (fp:List Addr),PTs (X.blk s H scope (compEnvC scope cl C X.env) fp) ifs tt)
  (he:∀(s:Shared) (H:Hp) (C:Addr) (cl:List (Str×Addr)) (fp:List Addr),PE (X.blk s H scope (compEnvC scope cl C X.env) fp) elt te) (hs:∀x,foldedSetIterable iter X.env x=pure x)
  (h:tScI X.w wi g tt te (own.map (·.2)) σ H Q)
  (hRR:∀D C s' m H',Inv X pins σ H' s'→Q (.ref D) H'→s'.heap.Ns C m→FpOk X pins H' C→compPost (model X.prog X.w) X.A X.xe use Qf (.ref D) C (.ok .next) s') :
  wpAny (model X.prog X.w) X.A (comprehension (.SetComp elt [⟨tg,iter,ifs,0⟩] scope pos) scope X.env pos' (newSet (.type "set")) false (eval iter X.env) use) Qf X.xe s:=by
 have hfree:∀y∈scope.names,y.2=.free→∃c,X.env.cells.lookup y.1=some c:=fun y hy e=>by
  rcases ok.free y hy e with k|k
  ·exact I.ok.has _ (.inl k)
  ·exact I.ok.has _ (.inr k)
 refine bz (use:=use) rfl hs (closure_ok hfree) ok.kind (fun y hy e=>by rw[ok.uniq y hy,e])
  (thn (hi.run pins s σ H _ I h) fun xv s1 hx=>thn hx fun itv s2 h2=>?_)
 obtain⟨it,fp,tn,J,H2,e,I2,T,st2,f2,q⟩:=h2;subst e;refine newSet_ok (newEnv_comp ?_);generalize hD:s2.heap.objs.size=D;have hDn:H2 D=none:=I2.hok.fresh (bY hD);obtain⟨W,⟨m0,w0⟩,turn⟩:=q D hDn
 -- the new list
 generalize hs3:({ s2 with heap:=s2.heap.push { cls:=.type "set",dict:=none,data:=.set #[] 0 (.fresh 0 0 (!X.w.params.followText "set-order")) } }:Shared)=s3
 have I3:Inv X pins σ (upd H2 D (SIO X.w D (fun _=>false) 0)) s3:=by
  rw[←hs3];refine I2.laid (t':=s2.toks) (fun b o e=>Jn _ e) (bY hD) ?_
  rw[←hD];exact zQh (P:=X.prog) (setR_fresh X.w)
 have h3:s3.heap=s2.heap.push { cls:=.type "set",dict:=none,data:=.set #[] 0 (.fresh 0 0 (!X.w.params.followText "set-order")) }:=by rw[←hs3]
 have sz:∀b∈fp,b<s2.heap.objs.size:=fun b hb=>by
  obtain⟨o,e,_⟩:=T.obj _ _ st2 b hb;exact JP e
 have f3:∀b∈fp,FpOk X pins (upd H2 D (SIO X.w D (fun _=>false) 0)) b∧b<s3.heap.objs.size:=fun b hb=>by
  have hlt:=sz b hb;refine⟨⟨?_,(f2 b hb).2⟩,by rw[h3,bt];exact VC hlt⟩
  rw[JO (by rw[←hD];exact Vd hlt)]
  exact(f2 b hb).1
 have st3:tn 0 s3.heap:=T.keep _ _ _ st2 fun b _ o e=>by rw[h3];exact Jn _ e
 have I4:=block_start I3 ok hN f3;have pg:=hg s3 (upd H2 D (SIO X.w D (fun _=>false) 0)) s3.heap.objs.size (cellsFrom (s3.heap.objs.size+1) scope.names (cloFrom X.env.cells scope.names [])) fp
 have pt:=ht s3 (upd H2 D (SIO X.w D (fun _=>false) 0)) s3.heap.objs.size (cellsFrom (s3.heap.objs.size+1) scope.names (cloFrom X.env.cells scope.names [])) fp
 have pe:=he s3 (upd H2 D (SIO X.w D (fun _=>false) 0)) s3.heap.objs.size (cellsFrom (s3.heap.objs.size+1) scope.names (cloFrom X.env.cells scope.names [])) fp
 show codeAny _ _ (.compStart (.SetComp elt [⟨tg,iter,ifs,0⟩] scope pos) 0 (.ref it) (.ref D) (compEnvC scope (cellsFrom (s3.heap.objs.size+1) scope.names (cloFrom X.env.cells scope.names [])) s3.heap.objs.size X.env)) (compPost (model X.prog X.w) X.A X.xe use Qf (.ref D) s3.heap.objs.size) { s3 with heap:=pushCells (s3.heap.push { cls:=.type "dict",data:=.dict #[] }) scope.names }
 have nfp:∀b∈fp,(upd H2 D (SIO X.w D (fun _=>false) 0)) b=none:=fun b hb=>(f3 b hb).1.1
 generalize hce:compEnvC scope (cellsFrom (s3.heap.objs.size+1) scope.names (cloFrom X.env.cells scope.names [])) s3.heap.objs.size X.env=ce at I4 pg pt pe ⊢;have cL:ce.locals=s3.heap.objs.size:=by subst hce;rfl
 generalize hH3:upd H2 D (SIO X.w D (fun _=>false) 0)=H3 at I3 I4 pg pt pe w0 nfp f3
 generalize hs4:({ s3 with heap:=pushCells (s3.heap.push { cls:=.type "dict",data:=.dict #[] }) scope.names }:Shared)=s4 at I4 ⊢
 have st4:tn 0 s4.heap:=T.keep _ _ _ st3 fun b _ o e=>by rw[←hs4];exact pushCells_keeps _ _ _ _ (Jn _ e)
 have stat:∀ {σ':St}{H':Hp}{s':Shared},Inv (X.blk s3 H3 scope ce fp) [] σ' H' s'→(∀b∈fp,H' b=none)→∀b∈fp,FpOk (X.blk s3 H3 scope ce fp) [] H' b:=fun{σ' H' s'} I' hn b hb =>
  ⟨hn b hb,(I'.ok.exf b hb).1,I'.ok.exfs b hb,.inl hb,fun x c e=>(I'.ok.exf b hb).2 x c e,fun p hp=>absurd (show p∈([]:List (Addr×Obj))++[]from hp) (by simp)⟩
 have loop:codeAny (model X.prog X.w) X.A (.compLoop (.SetComp elt [⟨tg,iter,ifs,0⟩] scope pos) 0 (.ref it) (.ref D) ce) (compPost (model X.prog X.w) X.A X.xe use Qf (.ref D) s3.heap.objs.size) s4:=by
  refine compLoopS_any (fun n s'=>∃i H',Inv (X.blk s3 H3 scope ce fp) [] (wipe σ (own.map (·.2))) H' s'∧tn i s'.heap∧(∀b∈fp,H' b=none)∧W i n H') ?_ m0 ⟨0,H3,I4,st4,nfp,w0⟩
  rintro n s5 ⟨i,H5,I5,st5,n5,w5⟩;rcases turn i n H5 w5 with⟨stop,qq⟩|⟨go,Nx,hNx,step⟩
  ·have td:=T.done (X.blk s3 H3 scope ce fp) rfl rfl rfl hc i [] s5 _ H5 (fun _ _=>False) I5 (stat I5 n5) st5 stop
   refine thnF td fun r s6 ⟨hr,I6⟩=>?_
   subst hr
   -- back in the def's context
   have I7:Inv X pins σ H5 s6:=I3.call' (ch:=fp) I6.os I6.base I6.hok I6.bare fun b hb=>⟨(f3 b hb).1.2.2.2.1,(f3 b hb).1.2.1,(f3 b hb).1.2.2.2.2.1,(f3 b hb).1.2.2.2.2.2⟩
   have nC:H5 s3.heap.objs.size=none:=by
    have z:H5 ce.locals=none:=I6.free;rw[cL]at z;exact z
   obtain⟨m,hn,_⟩:=I6.loc;have hn:s6.heap.Ns ce.locals m:=hn;rw[cL]at hn;exact hRR D s3.heap.objs.size s6 m H5 I7 qq hn (I3.fpOk (JH _) nC)
  ·have ti:=T.item (X.blk s3 H3 scope ce fp) rfl rfl rfl hc i [] s5 _ H5 (fun _ _=>False) I5 (stat I5 n5) st5 go
   refine thnF ti fun r s6 ⟨u,hr,h6⟩=>?_
   subst hr;refine thnF h6 fun _ s7 ⟨x,H7,I7,r7,y7,st7,n7⟩=>?_
   have I7':=I7.pinned (stat I7 n7) (T.obj _ _ st7);refine thnF (pg.run _ s7 _ H7 x u _ I7' r7 (step x H7 y7)) fun _ s8 ⟨σ8,H8,I8,hw8,q8⟩=>?_
   refine thnF (pt.run _ s8 σ8 H8 _ I8 q8) fun b s9 ⟨H9,I9,q9⟩=>?_
   -- the turn's end
   have fin:∀ {s':Shared}{H':Hp},Inv (X.blk s3 H3 scope ce fp) ([]++pinsAt fp s7.heap) σ8 H' s'→Nx H'→∃m,m<n∧∃i H',Inv (X.blk s3 H3 scope ce fp) [] (wipe σ (own.map (·.2))) H' s'∧tn i s'.heap∧(∀b∈fp,H' b=none)∧W i m H':=fun{s' H'} I' nx=>by
    obtain⟨m',hm,w'⟩:=hNx H' nx
    have pin':∀b∈fp,∀o,s7.heap.get? b=some o→s'.heap.get? b=some o∧H' b=none:=fun b hb o e =>
     let z:=I'.pin (b,o) (VG _ (VG _ (mem_pinsAt hb e)))
     ⟨z.1,z.2.1⟩
    have hl:(wipe σ (own.map (·.2))).length=σ8.length:=by rw[←hw8,bD]
    refine⟨m',hm,i+1,H',(I'.unpinned (pins:=[])).weak hl (fun j v e=>?_),T.keep _ _ _ st7 fun b hb o e=>(pin' b hb o e).1,fun b hb=>?_,w'⟩
    ·rw[←hw8]at e;exact(wipe_some e).1
    ·obtain⟨o,e,_⟩:=T.obj _ _ st7 b hb;exact(pin' b hb o e).2
   cases b with
   |false =>
    simp only[Vc,YE]at q9 ⊢;exact fin I9 q9
   |true =>
    simp only[Ye]at q9 ⊢;refine thnF (pe.run _ s9 σ8 H9 _ I9 q9) fun z s10 ⟨yv,H10,I10,r10,kk,S0,n0,ek,hD10,hz10,nx⟩=>?_
    subst ek;obtain⟨tk,rfl⟩:=(show ∃tk,z=Value.int kk tk from r10)
    exact zRa (X:=X.blk s3 H3 scope ce fp) I10 hD10 hz10 fun s11 I11=>fin I11 nx
 exact codeAny_compStart_set loop (T.self X.A 0 _ _ _ st4 loop)
theorem pe_scI{elt tg iter:Expr}{ifs:List Expr}{scope:Scope}{own:List (Str×Nat)}{pos:Pos}{wi:TI}{g:TG}{tt:TT}{te:TE} (hc:X.calm=true) (hN:X.N.Nodup) (hi:PI X tg iter wi) (ok:BlkOk X.N X.env.scope scope own)
  (hg:∀(s:Shared) (H:Hp) (C:Addr) (cl:List (Str×Addr)) (fp:List Addr),PG (X.blk s H scope (compEnvC scope cl C X.env) fp) tg g) (ht:∀(s:Shared) (H:Hp) (C:Addr) (cl:List (Str×Addr)) (fp:List Addr),PTs (X.blk s H scope (compEnvC scope cl C X.env) fp) ifs tt)
  (he:∀(s:Shared) (H:Hp) (C:Addr) (cl:List (Str×Addr)) (fp:List Addr),PE (X.blk s H scope (compEnvC scope cl C X.env) fp) elt te) (hs:∀x,foldedSetIterable iter X.env x=pure x:=by intro _;rfl) :
  PE X (.SetComp elt [⟨tg,iter,ifs,0⟩] scope pos) (tScI X.w wi g tt te (own.map (·.2))):=by
 refine⟨fun pins s σ H Q I h=>?_⟩
 rw[eval_SetComp];refine zPC hc hN I hi ok hg ht he hs h fun D C s' m H' I' q hn f=>⟨m,hn,fun h'' sb=>?_⟩
 obtain⟨f0,f1,f2,f3,f4,f5⟩:=f;exact⟨.ref D,H',I'.turned (t':=s'.toks) (fun b o hb e=>(sb.2 b hb).trans e) f0 f1 f3 f4 f5,rfl,q⟩
theorem zRr{e:Expr}{t:TE}{p pos:Pos} (hg:Gl X "len") (hm:X.mg "len" = none) (h:PE X e t)
  (na:starEach [e] X.env=(false,eval e X.env)::starEach [] X.env:=by rfl):PE X (.Call (.Name "len" p) [e] [] pos) (fun σ H Q=>t σ H fun v H1=>∃D S n,v=.ref D∧H1 D=some (SIO X.w D S n)∧n<1000000∧Q (.int (n:Nat)) H1):=by
 refine⟨fun pins s σ H Q I h'=>?_⟩
 refine Call_ (ld_blt I hg hm boot_len ?_);refine V9 (VW (thn (h.run pins s σ H _ I h') fun v s1 ⟨x,H1,I1,r1,D,S,n,ex,hD,hn,q⟩=>VZ ?_) na) na rfl
 subst ex;cases r1;obtain⟨o,es,ep,t,ho,hex,hd,_,_,_,_,hf,hz,_⟩:=(show SetR X.w s1.heap D S n from (I1.hok D _ hD).1)
 exact call_len_set ho hex hd hf (by rw[hz];omega) ⟨.int n,H1,I1.tok _,⟨_,by rw[hz]⟩,q⟩
end
end L2
namespace Y
def scFI(src:Src) (t:Tg) (c:TM) (e:EM) (σ0:Sg):Nat→Nat→List Int→List Cell→Res (List Int)
 |0,_,_,_=>.no
 |n+1,i,acc,st=>match src.get st i with
  |none=>.no
  |some none=>.ok acc st
  |some (some w)=>match t.put w σ0 with
   |none=>.no
   |some σ1=>(c σ1 st).nox.bind fun b st1=>if b=true then(e σ1 st1).nox.bind fun x st2=>match x with
     | .p (.int k)=>if acc.length<1000 then scFI src t c e σ0 n (i+1) (if k∈acc then acc else acc++[k]) st2 else .no
     |_=>.no
    else scFI src t c e σ0 n (i+1) acc st1
def scI(m:IM) (t:Tg) (vs:List Nat) (c:TM) (e:EM) (fin:List Int→List Cell→Res W):EM:=fun σ st=>(m σ st).bind fun src st1=>if src.n≤LIM then(scFI src t c e (zAv σ vs) (src.n+1) 0 [] st1).bind fin else .no
def zFg(l:List Int) (st:List Cell):Res W:=.ok (.p (.int (l.length:Nat))) st
section
variable {K:PySem.W.Frag}{cl:Cls}{X:Cx}{Wx:WX}{E0:En}{ρ:List Addr}{G G':Hp}{σ:Sg}{st:List Cell}{τ:L2.St}{H:Hp}{wo:World}
theorem zK2{a:Addr}{S:Int→Bool}{n:Nat}:NT (SIO wo a S n):=fun ps z=>by cases z
theorem zOd{m:IM}{t:Tg}{vs:List Nat}{c:TM}{e:EM}{fin:List Int→List Cell→Res W}{tg iter elt:Expr}{ifs:List Expr}{Y1:BJ→Cx}{Q:VK}{Qd:V→Hp→Prop}
  (hi:SI K cl X Wx tg m iter) (ht:∀j,SG K cl (Y1 j) t tg) (hv:∀i∈t.slots,i∈vs) (hc:∀j,STs K cl (Y1 j) WF c ifs) (he:∀j,SE K cl (Y1 j) WF e elt)
  (hfin:∀l ρ' G' st' H' D,(bs K cl E0).Rel ρ' G' st' H'→Aft (bs K cl E0) (bs K cl E0).RW ρ' G' (fin l st') Q (fun c d H'=>Wx c d τ H')→H' D=some (SIO wo D (fun j=>decide (j∈l)) l.length)→l.length≤1000→Qd (.ref D) H')
  (R:(bs K cl E0).Rel ρ G st H) (S:RS K cl ρ G σ τ) (h:Aft (bs K cl E0) (bs K cl E0).RW ρ G (scI m t vs c e fin σ st) Q (fun c d H'=>Wx c d τ H')) :
  tScI wo (TIc X tg iter) (fun v σ H Q=>∀j,TGc (Y1 j) tg v σ H Q) (fun σ H Q=>∀j,TTs' (Y1 j) ifs σ H Q) (fun σ H Q=>∀j,T (Y1 j) elt σ H Q) vs τ H Qd:=by
 refine hi.run E0 ρ G σ st τ H _ R S (Aft.seq h fun src st1 ρ1 G1 H1 J e1 p1 s1 R1 wok h1=>?_)
 intro Dd hD;split at h1
 case isFalse=>exact h1.elim
 rename_i hn
 refine⟨fun i k H'=>∃ρ' G' st' Gh acc,ρ1 <+: ρ'∧Sub G1 G'∧HdO K cl E0 Dd ρ' G' st' H' Gh (SIO wo Dd (fun j=>decide (j∈acc)) acc.length)∧acc.length≤1000 ∧
  Aft (bs K cl E0) (bs K cl E0).RW ρ' G' ((scFI src t c e (zAv σ vs) k i acc st').bind fin) Q (fun c d H'=>Wx c d τ H'),⟨src.n+1,ρ1,G1,st1,G1,[],Jh _,Sub.refl _,?_,J3 _,h1⟩,?_⟩
 ·have:=HdO.start (o:=SIO wo Dd (fun _=>false) 0) R1 hD zK2
  simpa using this
 rintro i k H2 ⟨ρ2,G2,st2,Gh,acc,p2,s2,hd,ha,q2⟩;cases k with
 |zero=>exact q2.elim
 |succ k =>
  have w2:=wok _ ρ2 G2 st2 H2 i p2 s2 hd.R;unfold scFI at q2;cases eg:src.get st2 i with
  |none=>rw[eg]at q2;exact q2.elim
  |some ow =>
   rw[eg]at q2 w2;cases ow with
   |none =>
    refine .inl ⟨w2,hfin acc ρ2 (upd G2 Dd _) st2 H2 Dd (hd.data zK2) (Aft.mono (Jh _) (Sub.new hd.held.2.1) q2) hd.held.1 ha⟩
   |some w =>
    dsimp only at q2 w2
    refine .inr ⟨w2.1,fun H'=>∃ρ' G' st' Gh acc,ρ1 <+: ρ'∧Sub G1 G'∧HdO K cl E0 Dd ρ' G' st' H' Gh (SIO wo Dd (fun j=>decide (j∈acc)) acc.length)∧acc.length≤1000 ∧
     Aft (bs K cl E0) (bs K cl E0).RW ρ' G' ((scFI src t c e (zAv σ vs) k (i+1) acc st').bind fin) Q (fun c d H'=>Wx c d τ H'),fun H' z=>⟨k,Vz k,z⟩,fun x H3 y=>?_⟩
    obtain⟨G3,s3,R3,r3⟩:=w2.2 x H3 y;have hd3:=hd.next (Jh _) s3 R3;cases ep:t.put w (zAv σ vs)with
    |none=>rw[ep]at q2;exact q2.elim
    |some σ3 =>
     rw[ep]at q2;dsimp only at q2;intro j;have S0:=(S.mono (p1.trans p2) (s1.trans (s2.trans s3)));refine(ht j).run ρ2 G3 H3 w x (zAv σ vs) σ3 _ _ R3.sub (S0.wipe vs) r3 ep fun τ3 S3 w3=>⟨(w3 vs hv).trans zGr,?_⟩
     intro j;have q3:=Aft.mono (Jh _) s3 q2;rw[Res.bind_bind]at q3;refine(hc j).run _ ρ2 G3 σ3 st2 τ3 H3 _ hd3.R S3 (Aft.seqH q3 fun b st4 ρ4 G4 H4 b' e4 p4 s4 R4 u4 q4=>?_)
     obtain rfl:b=b':=u4;have hd4:=hd3.next p4 s4 R4;cases b with
     |false=>exact⟨ρ4,G4,st4,_,acc,p2.trans p4,s2.trans (s3.trans s4),hd4,ha,q4⟩
     |true =>
      simp only[Ye]at q4 ⊢;intro j;rw[Res.bind_bind]at q4;refine(he j).run _ ρ4 G4 σ3 st4 τ3 H4 _ hd4.R (S3.mono p4 s4) (Aft.seqH q4 fun x5 st5 ρ5 G5 H5 y5 e5 p5 s5 R5 u5 q5=>?_)
      have hd5:=hd4.next p5 s5 R5;split at q5
      case h_2=>exact q5.elim
      rename_i kk
      split at q5
      case isFalse=>exact q5.elim
      rename_i hl
      cases u5;refine⟨kk,fun j=>decide (j∈acc),acc.length,rfl,hd5.held.1,by unfold scanBound;omega,?_⟩
      have fe:(fun j=>decide (j∈acc)||decide (j=kk))=fun j=>decide (j∈if kk∈acc then acc else acc++[kk]):=funext fun j=>by
       by_cases hm:kk∈acc
       ·rw[JW hm]
        by_cases hj:j=kk
        ·subst hj;simp[hm]
        ·simp[hj]
       ·rw[Vh hm];simp[Bool.decide_or]
      have fl:(if decide (kk∈acc)=true then acc.length else acc.length+1)=(if kk∈acc then acc else acc++[kk]).length:=by
       by_cases hm:kk∈acc<;>simp[hm]
      rw[fe,fl];have hd7:=hd5.put (o':=SIO wo Dd (fun j=>decide (j∈if kk∈acc then acc else acc++[kk])) (if kk∈acc then acc else acc++[kk]).length) ⟨zK2,trivial⟩ zK2
      exact⟨ρ5,G5,st5,_,_,p2.trans (p4.trans p5),s2.trans (s3.trans (s4.trans s5)),hd7,by rw[←fl];split<;>omega,q5⟩
section
variable {m:IM}{t:Tg}{vs:List Nat}{c:TM}{e:EM}{tg iter elt:Expr}{ifs:List Expr}{scope:Scope}{own:List (Str×Nat)}{pos:Pos}{p pos2:Pos}
theorem zLn(g:GX K X) (hgl:Gl X "len") (hml:X.mg "len" = none)
  (ok:blkC X.N X.env.scope scope own=true) (hvs:own.map (·.2)=vs) (hi:SI K cl X Wx tg m iter) (hv:t.slots.all (fun i=>decide (i∈vs))=true) (ht:∀j,SG K cl (Xb X scope j) t tg) (hc:∀j,STs K cl (Xb X scope j) WF c ifs)
  (he:∀j,SE K cl (Xb X scope j) WF e elt)
  (hs:∀x,foldedSetIterable iter X.env x=pure x:=by intro _;rfl) (na:starEach [.SetComp elt [⟨tg,iter,ifs,0⟩] scope pos] X.env=(false,eval (.SetComp elt [⟨tg,iter,ifs,0⟩] scope pos) X.env)::starEach [] X.env:=by rfl) :
  SE K cl X Wx (scI m t vs c e zFg) (.Call (.Name "len" p) [.SetComp elt [⟨tg,iter,ifs,0⟩] scope pos] [] pos2):=by
 subst hvs;have hc':=g.hc;have hN':=g.hN;obtain⟨hK,_⟩:=g;subst hK
 refine⟨fun E0 ρ G σ st τ H Q R S h=>T.of (zRr hgl hml (pe_scI (g:=fun v σ H Q=>∀j,TGc (Xb X scope j) tg v σ H Q) (tt:=fun σ H Q=>∀j,TTs' (Xb X scope j) ifs σ H Q) (te:=fun σ H Q=>∀j,T (Xb X scope j) elt σ H Q) hc' hN' TIc.pi (blkOk_by ok)
  (fun s H C cl fp=>⟨fun pins s' σ H' v u Q I r h=>h (s,H,C,cl,fp) pins s' u I r⟩) (fun s H C cl fp=>⟨fun pins s' σ H' Q I h=>h (s,H,C,cl,fp) pins s' I⟩) (fun s H C cl fp=>⟨fun pins s' σ H' Q I h=>h (s,H,C,cl,fp) pins s' I⟩) hs) na) ?_⟩
 exact zOd hi ht (fun i hm=>by simpa using Jp.mp hv i hm) hc he (fun l ρ' G' st' H' D R' q hD hl=>⟨D,_,_,rfl,hD,∅,(show Aft (bs X.K cl E0) (bs X.K cl E0).RW ρ' G' (.ok (.p (.int (l.length:Nat))) st') Q _ from q).here R' (RP.int _)⟩) R S h
end
end
section
open GenW
def LR.then(r:LR) (k:Sg→List Cell→List P→LR):LR:=match r with
 | .ok .nx σ st ys=>k σ st ys
 |r=>r
end
section
open GenW GT
def LR.src(r:LR):List P×Bool:=match r with
 | .ok .nx _ _ ys=>(ys,true)
 | .ok (.rt (.p .non)) _ _ ys=>(ys,true)
 | .no ys=>(ys,false)
 |_=>([],false)
end
end Y
namespace NS
section
variable {X:Cx}
theorem zQH{w:World}{h:Heap}{a:Addr}{S:Int→Bool}{c:Nat} (R:SetR w h a S c){ds:List Int} (hd:∀k,S k=true→k∈ds):c≤ds.length:=by
 obtain⟨o,es,ep,t,ho,hex,hdt,g,nd,hm,hb,hf,hn,hr,hl⟩:=R;have sub:∀k∈es.toList.map keyOf,k∈ds:=fun k hk=>hd k ((hm k).mpr hk)
 have l:=(List.subset_def.mpr fun{k} hk=>sub k hk:es.toList.map keyOf ⊆ ds)
 have l2:=YM nd l;rw[Jc,Vf]at l2;omega
def zQC(K:PySem.W.Frag) (ta:TE):TE:=fun σ H Q=>ta σ H fun x H1=>∃(l:Addr) (ns ds:List Int),x=.ref l∧SqL K H1 l (ns.map V.int)∧ns.length<4000∧ds.length<64∧(∀k∈ns,k∈ds) ∧
 ∀(ms:List Int) (p:Addr),ms.Pairwise (· < ·)→(∀k,k∈ms↔k∈ns)→H1 p=none→Q (.ref p) (upd H1 p (.lst (ms.map V.int)))
theorem zMT{e:Expr}{ta:TE}{p p2 q pos:Pos} (hg:Gl X "sorted") (hm:X.mg "sorted" = none) (hg2:Gl X "set") (hm2:X.mg "set" = none) (ha:PE X e ta) (hc:X.calm=true)
  (na:starEach [e] X.env=(false,eval e X.env)::starEach [] X.env:=by rfl):PE X (.Call (.Name "sorted" p) [.Call (.Name "set" p2) [e] [] q] [] pos) (zQC X.K ta):=by
 refine⟨fun pins s σ H Q I h=>?_⟩
 refine Call_ (ld_blt I hg hm boot_sorted ?_);refine V9 (VW ?_ rfl) rfl rfl;refine Call_ (ld_blt I hg2 hm2 boot_set ?_);refine Yh (VW (thn (ha.run pins s σ H _ I h) fun v s1 ⟨x,H1,I1,r1,q1⟩=>VZ ?_) na) na rfl
 obtain⟨l,ns,ds,rfl,hq,hf,hds,hin,q1⟩:=q1;cases r1;obtain⟨its,r,pl,hz⟩:=I1.list hq;refine zOi ns (I1.ok.hd hc) pl.isList (by simpa using ints_of_vals r) (by unfold scanBound;omega) fun s2 ⟨h2,tk,c,e2,R,hcl,kp⟩=>VZ ?_
 subst e2;have I2:Inv X pins σ H1 { s1 with heap:=h2,toks:=tk }:=I1.kept (t':=tk) kp
 have hc64:c<64:=Nat.lt_of_le_of_lt (zQH R (ds:=ds) fun k hk=>hin k (by simpa using hk)) hds
 refine sorted_set (s := { s1 with heap:=h2,toks:=tk }) R (I1.ok.hd hc) hc64 fun s' p out c' ms k g o hp hg' hi hs hm' hl'=>?_
 have hlen:(ms.map V.int).length≤sizeLine:=by rw[Jc,hl',Vq];omega
 have hn:H1 p=none:=I2.hok.fresh hp
 have J:Inv X pins σ (upd H1 p (.lst (ms.map V.int))) { s1 with heap:=s'.heap,gens:=s'.gens,drawn:=s'.drawn,toks:=s'.toks } :=
  Inv.call (s := { s1 with heap:=h2,toks:=tk }) I2 (ch:=[]) (Un.laid k hp hn) (I2.hok.laid k hp ⟨hlen,out.toList,_,vals_of_ints hi,hg'⟩) (by rw[g];exact I2.bare) (fun _ z=>nomatch z)
 have e:s'={ s1 with heap:=s'.heap,gens:=s'.gens,drawn:=s'.drawn,toks:=s'.toks }:=by
  cases s';cases s1;cases o;rfl
 rw[e];exact⟨.ref p,_,J,rfl,q1 ms p hs (fun k=>by rw[hm'];simp) hn⟩
end
end NS
namespace Y
open NS
def zEy(w:W) (st:List Cell):Res W:=match(listOf st w).bind intsOf with
 |some l=>if l.length<4000∧(dsI l).length<64 then .ok (.p (.lst ((dsI l).map P.int))) st else .no
 |none=>.no
def zEU(a:EM):EM:=fun σ st=>(a σ st).bind zEy
section
variable {K:PySem.W.Frag}{cl:Cls}{X:Cx}{Wx:WX}
theorem zHg{a:EM}{e:Expr}{p p2 q pos:Pos} (g:GX K X) (hg:Gl X "sorted") (hm:X.mg "sorted" = none) (hg2:Gl X "set") (hm2:X.mg "set" = none) (ha:SE K cl X Wx a e)
  (na:starEach [e] X.env=(false,eval e X.env)::starEach [] X.env:=by rfl):SE K cl X Wx (zEU a) (.Call (.Name "sorted" p) [.Call (.Name "set" p2) [e] [] q] [] pos):=by
 obtain⟨hK,hc,hN,hu,hh⟩:=g;subst hK;refine⟨fun E0 ρ G σ st τ H Q Rl S qq=>T.of (zMT hg hm hg2 hm2 T.pe hc na) ?_⟩
 refine ha.run E0 ρ G σ st τ H _ Rl S (Aft.seq qq fun w st1 ρ1 G1 H1 v e1 p1 s1 R1 u1 h1=>?_)
 unfold zEy at h1;split at h1
 ·rename_i l el
  split at h1
  ·rename_i hf
   obtain⟨b,rfl,hs⟩:=zGw R1 u1 el;refine⟨b,l,dsI l,rfl,hs,hf.1,hf.2,fun k hk=>zFU.mpr hk,fun ms p so me hp=>?_⟩
   have e:ms=dsI l:=zLr so (zIh l) fun k=>by rw[me,zFU]
   subst e;exact h1.newP R1 hp (RP.lst JC (RPs.ints _))
  ·exact h1.elim
 ·exact h1.elim
end
theorem zMf{l:List Int}{n:Nat} (h:∀k,k∈l↔0≤k∧k<n):dsI l=(List.range n).map fun(i:Nat)=>(i:Int):=by
 refine zLr (zIh l) ?_ fun k=>?_
 ·rw[J4];exact YJ.imp fun h=>by omega
 ·rw[zFU,h];constructor
  ·rintro⟨h1,h2⟩;exact Jj.mpr ⟨k.toNat,Jy.mpr ∅,∅⟩
  ·intro hk;obtain⟨i,hi,rfl⟩:=Jj.mp hk
   have:=Jy.mp hi
   omega
theorem zNM{l:List Int}{n:Nat} (h:∀k∈l,0≤k∧k<(n:Int)):(dsI l).length≤n:=by
 have nd:(dsI l).Nodup:=(zIh l).imp fun h e=>by omega
 have sub:dsI l ⊆ (List.range n).map fun(i:Nat)=>(i:Int):=fun k hk=>by
  obtain⟨h1,h2⟩:=h k (zFU.mp hk);exact Jj.mpr ⟨k.toNat,Jy.mpr ∅,∅⟩
 have:=YM nd sub
 simpa using this
section
open GenW GT
def forC(r:LR) (pt:Nat→W→Sg→Option Sg) (b:SMm):Nat→Nat→Sg→List Cell→SR
 |0,_,_,_=>.no
 |k+1,i,σ,st=>match r.src.1[i]? with
  |some (.lst l)=>(match pt i (.r st.length) σ with
   |some σ1=>(match b σ1 (st++[.lst (l.map W.p)])with
    | .ok .nx σ2 st2=>forC r pt b k (i+1) σ2 st2
    | .ok .ct σ2 st2=>forC r pt b k (i+1) σ2 st2
    | .ok .bk σ2 st2=>.ok .nx σ2 st2
    |r=>r)
   |none=>.no)
  |some _=>.no
  |none=>if r.src.2=true then .ok .nx σ st else .no
end
section
variable {K:PySem.W.Frag}{cl:Cls}{X:Cx}{Wx:WX}{E0:En}{ρ:List Addr}{G:Hp}{σ:Sg}{st:List Cell}{τ:L2.St}{H:Hp}
def zGe:EM:=fun _ st=>.ok (.r st.length) (st++[.dk [] []])
theorem zLh{pos:Pos}:SE K cl X Wx zGe (.Dict [] [] pos):=by
 refine⟨fun E0 ρ G σ st τ H Q R S h=>T.of pe_dnewK ?_⟩
 intro p hp;have h:Aft (bs K cl E0) (bs K cl E0).RW ρ G (.ok (.r st.length) (st++[.dk [] []])) Q _:=h;exact h.newC R hp (fun z=>by cases z) ⟨[],JC,rfl,.nil⟩
end
end Y
namespace L2
open Y
section
variable {X:Cx}
theorem zPK{kx vx:Expr}{gs:List Comprehension}{scope:Scope}{pos py:Pos}{y:Str}{l:Nat}{env:Env} (hk:env.scope.kind=.function) (hy:env.scope.names.lookup y=some .local) (hl:(py.line==pos.line)=true)
  (ha:(scope.names.any fun(n,k)=>n==y&&(k == .local||k == .cell))=false):swapsWith (.DictComp kx vx gs scope pos) (some (.Name y py)) l env=pure true:=by
 have ky:env.kindOf y=some .local:=hy;have hb:env.blockKind=.function:=by unfold Env.blockKind;rw[hk];rfl
 unfold swapsWith;simp only[hb,ky,ha,Expr.pos,hl];rfl
def zRJ(K:PySem.W.Frag) (w:World) (i:Nat) (wi:TI) (g:TG) (tt:TT) (tk tv:TE) (vs:List Nat):TS:=fun D σ H =>
 tDcN K w wi g tt tk tv vs σ H (fun v H'=>∃D0 es,v=.ref D0∧H' D0=some (ND w D0 es)∧∀od,NDat (some w) od (es.map (·.1)) (es.map (·.2.1)) (es.map (·.2.2))→gName i v σ (upd H' D0 (exq D0 od)) D.nx)
theorem zM6{i:Nat}{y:Str}{py:Pos}{kx vx tg iter:Expr}{ifs:List Expr}{scope:Scope}{own:List (Str×Nat)}{pos spos:Pos}{wi:TI}{g:TG}{tt:TT}{tk tv:TE} (hu:X.A.units+65<cLine) (hc:X.calm=true) (hN:X.N.Nodup) (hy:X.N[i]?=some y) (hyl:X.env.scope.names.lookup y=some .local)
  (hsw:swapsWith (.DictComp kx vx [⟨tg,iter,ifs,0⟩] scope pos) (some (.Name y py)) spos.line X.env=pure true) (hi:PI X tg iter wi) (ok:BlkOk X.N X.env.scope scope own)
  (hg:∀(s:Shared) (H:Hp) (C:Addr) (cl:List (Str×Addr)) (fp:List Addr),PG (X.blk s H scope (compEnvC scope cl C X.env) fp) tg g) (ht:∀(s:Shared) (H:Hp) (C:Addr) (cl:List (Str×Addr)) (fp:List Addr),PTs (X.blk s H scope (compEnvC scope cl C X.env) fp) ifs tt)
  (hk:∀(s:Shared) (H:Hp) (C:Addr) (cl:List (Str×Addr)) (fp:List Addr),PE (X.blk s H scope (compEnvC scope cl C X.env) fp) kx tk)
  (he:∀(s:Shared) (H:Hp) (C:Addr) (cl:List (Str×Addr)) (fp:List Addr),PE (X.blk s H scope (compEnvC scope cl C X.env) fp) vx tv) (hs:∀x,foldedSetIterable iter X.env x=pure x:=by intro _;rfl) :
  PS X (.Assign [.Name y py] (.DictComp kx vx [⟨tg,iter,ifs,0⟩] scope pos) spos) (zRJ X.K X.w i wi g tt tk tv (own.map (·.2))):=by
 refine⟨fun pins s σ H D I h=>?_⟩
 rw[exec_Assign_Name_used _ _ _ _ hsw];refine Jr (wpAny_standAt (Jr ?_));show wpAny _ X.A (do let _ ←comprehension (.DictComp kx vx [⟨tg,iter,ifs,0⟩] scope pos) scope X.env (firstIterPos [⟨tg,iter,ifs,0⟩] pos) newDict false (eval iter X.env) (some (assign (.Name y py) X.env))) _ _ s
 refine Jr (thn (zQN (Qf:=fun _ s'=>SP X pins D .next s') hu hc hN I hi ok hg ht hk he hs h fun L C s' m H' I' q hn f=>?_) fun _ s' hq=>JA (JA hq))
 obtain⟨D0,es,e0,hD,q⟩:=q;obtain rfl:L=D0:=by injection e0
 obtain⟨⟨od,ho,hnd⟩,_,_⟩:=(show(∃od,s'.heap.get? L=some od∧NDat (some X.w) od _ _ _)∧_∧_ from I'.hok L _ hD)
 have I2:=I'.write (x:=L) (e:=L) (t':=s'.toks) (by rw[hD];exact True.intro) (.inl rfl) (fun b u _ z=>z) ⟨od,ho⟩ (exq_ok ho)
 have q:=q od hnd;obtain⟨f0,f1,f2,f3,f4,f5⟩:=f;have ne:C≠L:=fun z=>by rw[z,hD]at f0;cases f0
 show wpAny _ _ (assign (.Name y py) X.env (.ref L)) _ _ _;refine wpAny_assign_Name (store_ok2 (v:=V.ref L) I2 hN hy (.inl hyl) rfl (fun s2 I3 ⟨a,sb,ha⟩=>?_) (.inr hyl))
 have haC:C≠a:=by
  rcases ha with z|z
  ·rw[z];exact f1
  ·exact fun e=>f4 y a z e.symm
 refine⟨m,hn.sameBut sb haC,fun h3 sb3=>?_⟩
 exact⟨_,_,I3.turned (t':=s2.toks) (fun b o hb e=>(sb3.2 b hb).trans e) (by rw[JO ne];exact f0) f1 f3 f4 f5,q⟩
end
end L2
namespace Y
section
variable {K:PySem.W.Frag}{cl:Cls}{X:Cx}{Wx:WX}
theorem zMj{i:Nat}{y:Str}{py spos:Pos}{m:IM}{t:Tg}{vs:List Nat}{c:TM}{mk mv:EM}{tg iter kx vx:Expr}{ifs:List Expr}{scope:Scope}{own:List (Str×Nat)}{pos:Pos} (g:GX K X) (hw:cl.wd=some X.w)
  (hy:X.N[i]?=some y) (hyl:X.env.scope.names.lookup y=some .local) (hsw:swapsWith (.DictComp kx vx [⟨tg,iter,ifs,0⟩] scope pos) (some (.Name y py)) spos.line X.env=pure true)
  (ok:blkC X.N X.env.scope scope own=true) (hvs:own.map (·.2)=vs) (hi:SI K cl X Wx tg m iter) (hv:t.slots.all (fun i=>decide (i∈vs))=true) (ht:∀j,SG K cl (Xb X scope j) t tg) (hc:∀j,STs K cl (Xb X scope j) WF c ifs)
  (hk:∀j,SE K cl (Xb X scope j) WF mk kx) (he:∀j,SE K cl (Xb X scope j) WF mv vx)
  (hs:∀x,foldedSetIterable iter X.env x=pure x:=by intro _;rfl):SS K cl X Wx (sSet i (mDcN m t vs c mk mv)) (.Assign [.Name y py] (.DictComp kx vx [⟨tg,iter,ifs,0⟩] scope pos) spos):=by
 subst hvs;have hu:=g.hu;have hc':=g.hc;have hN':=g.hN;obtain⟨hK,_⟩:=g;subst hK
 refine⟨fun E0 ρ G σ st τ H D R S q=>TS'.of (zM6 hu (g:=fun v σ H Q=>∀j,TGc (Xb X scope j) tg v σ H Q) (tt:=fun σ H Q=>∀j,TTs' (Xb X scope j) ifs σ H Q) (tk:=fun σ H Q=>∀j,T (Xb X scope j) kx σ H Q) (tv:=fun σ H Q=>∀j,T (Xb X scope j) vx σ H Q) hc' hN' hy hyl hsw TIc.pi (blkOk_by ok)
  (fun s H C cl fp=>⟨fun pins s' σ H' v u Q I r h=>h (s,H,C,cl,fp) pins s' u I r⟩) (fun s H C cl fp=>⟨fun pins s' σ H' Q I h=>h (s,H,C,cl,fp) pins s' I⟩) (fun s H C cl fp=>⟨fun pins s' σ H' Q I h=>h (s,H,C,cl,fp) pins s' I⟩) (fun s H C cl fp=>⟨fun pins s' σ H' Q I h=>h (s,H,C,cl,fp) pins s' I⟩) hs) ?_⟩
 exact zOq (Q:=fun v H1=>gName i v τ H1 D.nx) hi ht (fun i hm=>by simpa using Jp.mp hv i hm) hc hk he hw R S (AftS.seq S q fun w st1 ρ1 G1 H1 v e1 p1 s1 R1 u1 h1=>AftS.nx h1 R1 ((RS.mono p1 s1 S).set u1 i))
end
def scal:P→Bool
 | .non | .bl _ | .int _ | .str _=>true
 |_=>false
noncomputable def zG5 (ρ:List Addr) (x:Option Addr) (G G':Hp):Hp:=fun b=>match G b with
 |some o=>some o
 |none=>open Classical in if b∈ρ∨x=some b then none else G' b
theorem zC3{ρ:List Addr}{x:Option Addr}{G G':Hp}:Sub G (zG5 ρ x G G'):=fun a o h=>by
 unfold zG5;rw[h]
theorem zLY{ρ:List Addr}{x:Option Addr}{G G':Hp}{a:Addr} (g:G a=none) (m:a∈ρ∨x=some a):zG5 ρ x G G' a=none:=by
 unfold zG5;rw[g];dsimp only;rw[JW m]
theorem zET{ρ:List Addr}{x:Option Addr}{G G':Hp}{a:Addr}{o:HO} (h:zG5 ρ x G G' a=some o):G a=some o∨(G a=none∧a∉ρ∧x≠some a∧G' a=some o):=by
 unfold zG5 at h;split at h
 ·rename_i u e
  exact .inl (e.trans h)
 ·rename_i e
  split at h
  ·cases h
  ·rename_i m
   exact .inr ⟨e,fun z=>m (.inl z),fun z=>m (.inr z),h⟩
theorem zSp{c:Addr}{q:Str} (vs:List V):LamX.CodeO c q≠.lst vs:=by
 unfold LamX.CodeO;intro z;cases z
section
variable {K:PySem.W.Frag}{cl:Cls}{X:Cx}{Wx:WX}{E0:En}{ρ ρ':List Addr}{G G' G1:Hp}{σ:Sg}{τ:L2.St}{st st':List Cell}{H H':Hp}
theorem RP.scal{x:P}{v:V} (h:scal x=true) (r:RP K cl G x v):RP K cl G' x v:=by
 cases r<;>first|exact .non|exact .bl _|exact .int _|exact .str _|cases h
theorem RPs.scal:∀ {l:List P}{vs:List V},l.all Y.scal=true→RPs K cl G l vs→RPs K cl G' l vs
 |_,_,_,.nil=>.nil
 |_,_,n,.cons h r=>.cons (RP.scal (Jp.mp n _ Jg) h) (RPs.scal (Jp.mpr fun x m=>Jp.mp n x (Jf _ m)) r)
theorem Rel.alone(R:Rel K cl E0 ρ G st H) (s2:Sub G1 H) (nt:∀a u,G1 a=some u→NT u) (hc:∀c q,G c=some (LamX.CodeO c q)→G1 c=some (LamX.CodeO c q)):Rel K cl ⟨strip H,([]:List Addr).length,G1⟩ [] G1 [] H:=by
 refine⟨rfl,by simp,fun i c a e=>by simp at e,fun i c a e=>by simp at e,s2,fun a u e _=>(zCf e).1,fun i a hi e=>by simp at e,J3 _,fun a o e=>.inl e,fun a u e=>(zCf e).2,nt,fun q hq=>?_⟩
 obtain⟨ps,h1,h2,h3⟩:=R.tabs q hq
 exact⟨ps,h1,h2,fun pos cv e=>by
  obtain⟨c,e1,e2⟩:=h3 pos cv e
  exact⟨c,e1,hc _ _ e2⟩⟩
theorem Rel.back(R:Rel K cl E0 ρ G st H) (hg:∀b o,G1 b=some o→G b=some o∨(b∈ρ∧∃vs,o=.lst vs)) (R':Rel K cl ⟨strip H,([]:List Addr).length,G1⟩ ρ' G' st' H') (x:Option Addr) (hx:∀b,x=some b→∀c q,G' b≠some (LamX.CodeO c q)) :
  Rel K cl E0 ρ (zG5 ρ x G G') st H':=by
 have keep:∀a u,H a=some u→NT u→H' a=some u:=fun a u h n=>R'.old a u (strip_of h n) fun i hi=>absurd hi (VU _)
 refine⟨R.len,R.nd,fun i c a e1 e2=>?_,fun i c a e1 e2=>?_,fun b u e=>?_,fun a u e q=>keep a u (R.old a u e q) (R.ent a u e),R.new,R.n0,fun a o e=>?_,R.ent,fun a u e=>?_,fun q hq=>?_⟩
 ·by_cases hcd:c=.dead
  ·subst hcd;obtain⟨o,z⟩:=R.cell i _ a e1 e2;exact⟨o,zC3 _ _ z⟩
  ·obtain⟨u,q,po⟩:=(R.cell i c a e1 e2).po hcd;exact(R.cell i c a e1 e2).mono (Jh _) zC3 ((keep a u q po.1).trans q.symm)
 ·rcases R.sep i c a e1 e2 with z|z
  ·exact .inl z
  ·exact .inr (zLY z (.inl (Ji e2)))
 ·rcases zET e with z|⟨_,_,_,z⟩
  ·exact keep b u (R.sub b u z) (R.gnt b u z)
  ·exact R'.sub b u z
 ·rcases zET e with z|⟨g,m,_,z⟩
  ·exact R.grow a o z
  ·rcases R'.grow a o z with y|y|⟨i,hi,_⟩
   ·rcases hg a o y with y|⟨y,_⟩
    ·rw[g]at y;cases y
    ·exact absurd y m
   ·exact .inr (.inl (R.offF y).2)
   ·exact absurd hi (VU _)
 ·rcases zET e with z|⟨_,_,_,z⟩
  ·exact R.gnt a u z
  ·exact R'.gnt a u z
 ·obtain⟨ps,h1,h2,h3⟩:=R'.tabs q hq;refine⟨ps,h1,h2,fun pos cv e=>?_⟩
  obtain⟨c,e1,e2⟩:=h3 pos cv e;refine⟨c,e1,?_⟩;cases g:G c with
  |some o =>
   have y:=keep c o (R.sub c o g) (R.gnt c o g);rw[R'.sub _ _ e2]at y;rw[Jk y];exact zC3 _ _ g
  |none =>
   unfold zG5;rw[g];dsimp only;rw[Vh]
   ·exact e2
   ·rintro(m|m)
    ·obtain⟨i,hi⟩:=JF m;rcases R'.grow c _ e2 with y|y|⟨i,hi,_⟩
     ·rcases hg c _ y with y|⟨_,vs,y⟩
      ·rw[g]at y;cases y
      ·exact zSp vs y
     ·exact(R.offF y).1 i hi
     ·exact absurd hi (VU _)
    ·exact hx _ m _ _ e2
end
def rEqD(C D:Addr) (sp:Sp):R2:=fun x y H Q=>∃a dx fs b dy gs,x=.ref a∧y=.ref b∧H a=some (.ins C dx fs)∧H b=some (.ins D dy gs)∧sp [x,y] H (fun v H'=>∃k,v=.bl k∧Q (.bl (k != false)) H') L2.E0
section
variable {X:Cx}{C D f:Addr}{fd:FuncData}{ps:List Str}{sp:Sp}{k:Nat}
theorem op_eqD(hmt:Meth X.K C "__eq__" f) (hs:PySem.W.subIn X.K (.ref D) (.ref C)=some false) (Fk:FnOk X.prog X.w X.K X.mg X.base CX0 k f fd ps sp) (hr:Room k X.A) (hb:Binds X.K fd ps []) (hu:X.A.units<cLine):OpR X (compareOp .Eq) (rEqD C D sp):=by
 intro pins s σ H x y v u Q I rx ry h;obtain⟨a,dx,fs,b,dy,gs,rfl,rfl,eH,eB,h⟩:=h;obtain rfl:v=.ref a:=rx;obtain rfl:u=.ref b:=ry;obtain⟨mA,O,_⟩:=ins_get I.hok eH;obtain⟨od,J,_⟩:=O.look;obtain⟨mB,O2,_⟩:=ins_get I.hok eB;obtain⟨od2,J2,_⟩:=O2.look;obtain⟨m,hF⟩:=I.fr;refine PySem.W.cmp_K (op:=.Eq) (tb:=.ref D) hu hF I.ok.mod.kin J J2.type (by simp[PySem.W.notFirst,hs]) hmt.at_ hmt.fn ?_
 refine b8 (run_fn (E:=L2.E0) (us:=[.ref a,.ref b]) (vs:=[.ref a,.ref b]) Fk hr hb .nil pass0 I (.cons rfl (.cons rfl .nil)) h) (fun w s' z=>?_) fun _ _ z=>z
 obtain⟨v,H',I',rv,b,eb,q⟩:=z;subst eb;cases rv;exact⟨.bl b,H',I',rfl,by simpa using q⟩
end
section
variable {K:PySem.W.Frag}{cl:Cls}{X:Cx}{Wx:WX}{x:Str}{pos:Pos}
theorem v0(i:Nat) (hN:X.N[i]?=some x:=by exact rfl) (hv:vis X.env.scope x=true:=by exact rfl) (hd:((x==("__debug__" : Str))||(x==("__classdict__" : Str)))=false:=by exact rfl):SE K cl X Wx (mVar i) (.Name x pos):=v hN hv hd
theorem sgn(g:GX K X) (i:Nat) (hi:X.N[i]?=some x:=by exact rfl) (hx:loc X.env.scope x=true:=by exact rfl) (hf:X.fn x=true∨X.env.scope.names.lookup x=some .local:=by first|exact .inl rfl|exact .inr rfl):SG K cl X (.nm i) (.Name x pos):=zOK g hi (zAV hx) hf
end
section
variable {K:PySem.W.Frag}{cl:Cls}{X:Cx}{Wx:WX}{E0:En}{ρ ρ':List Addr}{G G':Hp}{σ:Sg}{τ:L2.St}{st:List Cell}{H:Hp}{D:Ends}
theorem zRh{w:W} (e:tyW st w=some "str"):∃z,w=.p (.str z):=by
 cases w with
 |p x=>cases x<;>first|exact⟨_,rfl⟩|simp[tyW]at e
 |r i =>
  exfalso;unfold tyW at e;dsimp only at e;split at e<;>simp at e
def TSs1(X:Cx) (e:List Stmt):TS:=fun D σ H=>∀(pins:List (Addr×Obj)) (s:Shared),1≤s.toks→Inv X pins σ H s→wpAny (model X.prog X.w) X.A (execs e X.env) (SP X pins D) X.xe s
theorem TSs1.psst{e:List Stmt}:PSsT X e (TSs1 X e):=fun pins s σ H D h0 I h=>h pins s h0 I
theorem TSs1.of{e:List Stmt}{t:TS}{σ:L2.St}{H:Hp}{D:Ends} (h:PSsT X e t) (q:t D σ H):TSs1 X e D σ H:=fun pins s h0 I=>h pins s σ H D h0 I q
structure SSst (K:PySem.W.Frag) (cl:Cls) (X:Cx) (Wx:WX) (m:SMm) (e:List Stmt):Prop where
 run:∀E0 ρ G σ st τ H D,(bs K cl E0).Rel ρ G st H→RS K cl ρ G σ τ→AftS (bs K cl E0) ρ G (m σ st) D Wx→TSs1 X e D τ H
theorem SSst.of{m:SMm}{e:List Stmt} (h:SSs K cl X Wx m e):SSst K cl X Wx m e:=⟨fun E0 ρ G σ st τ H D R S q=>TSs1.of (PSsT.of TSs'.pss) (h.run E0 ρ G σ st τ H D R S q)⟩
theorem PSsT.nox{st:List Stmt}{t:TS} (h:PSsT X.nox st t):PSsT X st t:=fun pins s σ H D h0 I hw =>
 b8 (h pins s σ H D h0 (I.wish _) hw) (fun _ _ q=>q.unwish) fun _ _ z=>False.elim z
theorem zSx{P:Program}{w:World}{mg:Str→Option Value}{base:Heap}{N ps:List Str}{qual:Str}{body:List Stmt}{scope:Scope}{f:Addr}{cd:Value}{A:Around}{outer:List Env}{s:Shared}{H:Hp}{E E':XK}{m:SMm}{vs:List V}{Q:VK} (S:FnScope N ps scope)
  (hb:SSst K cl (cxD P w K mg base N qual scope f cd A outer s H E) WF m body) (h:spF K cl (runF ps.length N.length m) vs H Q E'):TSs1 (cxD P w K mg base N qual scope f cd A outer s H E) body { nx:=fun _ H'=>Q .non H',rt:=Q } (L2.start N vs) H:=by
 obtain⟨ρ0,G0,st0,ws,R,r,a⟩:=h;unfold runF at a;split at a
 case isFalse=>exact a.elim
 rename_i hl
 have lv:vs.length=ps.length:=by rw[←r.length];exact hl
 refine hb.run ⟨strip H,ρ0.length,G0⟩ ρ0 G0 (ws.map some++List.replicate (N.length-ps.length) none) st0 (L2.start N vs) H _ R ?_ ?_
 ·unfold L2.start;rw[lv];refine⟨by rw[Ju,Ju,Jc,Jc,hl,lv,Vm,Vm],fun i w' e=>?_⟩
  rcases zDT e with⟨h1,h2⟩|⟨h1,h2⟩
  ·rw[Jc]at h1;rw[Jd]at h2;cases q:ws[i]? with
   |none=>rw[q]at h2;cases h2
   |some u =>
    rw[q]at h2;have h2:some (some u)=some (some w'):=h2;cases h2;obtain⟨v,ev,rv⟩:=r.get q;refine⟨v,?_,rv⟩;rw[Je (by rw[Jc,lv,←hl];exact h1),Jd,ev];rfl
  ·rw[VO]at h2;split at h2<;>cases h2
 ·generalize m (ws.map some++List.replicate (N.length-ps.length) none) st0=res at a ⊢;cases res with
  |no=>exact a.elim
  |exc x σ st=>exact a.elim
  |ok fl σ st =>
   cases fl with
   |nx=>exact fun ρ' G' H' τ' p s R' S'=>a ρ' G' H' .non p s R' RP.non
   |rt u=>exact fun ρ' G' H' τ' p s R' S' v rv=>a ρ' G' H' v p s R' rv
   |bk=>exact a.elim
   |ct=>exact a.elim
theorem Fk.ofT{P:Program}{w:World}{mg:Str→Option Value}{base:Heap}{N ps:List Str}{x qual:Str}{params:Arguments}{body:List Stmt}{scope:Scope}{f:Addr}{k:Nat}{m:SMm}
  (F:∃fd,FunD K x qual params body scope [] [] f fd) (S:FnScope N ps scope) (hnc:∀y∈scope.names,y.2≠.cell) (hps:1≤ps.length) (bd:∀(kV doc pm:Value) (an:Option Addr) (cdv ct:Value) (us:List Value),us.length=ps.length→bindArgs (PySem.W.fnOf x qual params body scope .none kV doc pm an cdv ct) ⟨us,[]⟩=pure (ps.zip us))
  (hb:∀(cd:Value) (A:Around) (outer:List Env) (s:Shared) (H:Hp) (E:XK),GX K (cxD P w K mg base N qual scope f cd A outer s H E)→Room k (A.deeper (envOfC qual scope s.heap.objs.size f cd))→SSst K cl (cxD P w K mg base N qual scope f cd A outer s H E) WF m body) :
  Fk P w K mg base cl (k+1) f ps (runF ps.length N.length m):=by
 obtain⟨fd,F⟩:=F;refine⟨⟨fd,?_,F.bindsN bd⟩,F.kp⟩;obtain⟨oc,od,dV,kV,doc,pm,an,cdv,ct,osl,rfl,lk,hcd,_,_⟩:=F.ex;refine fn_ofT lk hcd S hnc hps (fun vs H Q E h=>?_) fun A outer s H vs Q E hr h=>⟨TSs1 (cxD P w K mg base N qual scope f cdv A outer s H E) body,PSsT.nox TSs1.psst,zSx S (hb cdv A outer s H E (zPH S hr) hr) h⟩
 obtain⟨ρ0,G0,st0,ws,R,r,a⟩:=h;unfold runF at a;split at a
 ·rename_i hl;rw[←r.length];exact hl
 ·exact a.elim
end
def datS(σ:Sg):Sg:=σ.map fun x=>match x with
 |some (.p y)=>some (.p y)
 |_=>none
def zOP(i:Nat) (e:EM):EM:=fun σ st=>match σ[i]? with
 |some (some (.r j))=>(match st[j]? with
  |some (.dk ks l)=>(match pures l with
   |some m=>(match e ((datS σ).set i (some (.p (.fd ks m)))) []with
    | .ok (.p y) _=>if scal y=true then .ok (.p y) st else .no
    |_=>.no)
   |none=>.no)
  |_=>.no)
 |_=>.no
section
variable {K:PySem.W.Frag}{cl:Cls}{X:Cx}{Wx:WX}{E0:En}{ρ ρ':List Addr}{G G':Hp}{σ:Sg}{τ:L2.St}{st st':List Cell}{H H':Hp}
theorem zRQ{c:Addr}{q:Str} (o:Obj) (u:HO):LamX.CodeO c q≠.frz o u:=by
 unfold LamX.CodeO;intro z;cases z
theorem Rel.lent{a:Addr}{od:Obj}{j:Nat}{ks:List Key}{l:List W}{vs:List V} (R:Rel K cl E0 ρ G st H) (em:st[j]?=some (.dk ks l)) (ha:ρ[j]?=some a) (hH:H a=some (.dK (ks.zip vs)))
  (R':Rel K cl ⟨strip (upd H a (.frz od (.dK (ks.zip vs)))),([]:List Addr).length,upd G a (.frz od (.dK (ks.zip vs)))⟩ ρ' G' st' H') :
  H' a=some (.frz od (.dK (ks.zip vs)))∧Rel K cl E0 ρ (zG5 ρ none G G') st (upd H' a (.dK (ks.zip vs))):=by
 have ga:G a=none:=(R.sep j _ a em ha).resolve_left (fun z=>by cases z)
 have ma:a∈ρ:=Ji ha;have R1:=R.freezeX (o:=.frz od (.dK (ks.zip vs))) em (fun z=>by cases z) ha (by intro _ z;cases z)
 have keep1:∀b u,upd H a (.frz od (.dK (ks.zip vs))) b=some u→NT u→H' b=some u:=fun b u h n=>R'.old b u (strip_of h n) fun i hi=>absurd hi (VU _)
 have hHa:H' a=some (.frz od (.dK (ks.zip vs))):=keep1 a _ JC (by intro _ z;cases z)
 have keep:∀b u,H b=some u→NT u→upd H' a (.dK (ks.zip vs)) b=some u:=fun b u h n=>by
  by_cases z:b=a
  ·subst z;rw[JC,←h,hH]
  ·rw[JO z];exact keep1 b u (by rw[JO z];exact h) n
 refine⟨hHa,R.len,R.nd,fun i c b e1 e2=>?_,fun i c b e1 e2=>?_,fun b u e=>?_,fun b u e q=>keep b u (R.old b u e q) (R.ent b u e),R.new,R.n0,fun b o e=>?_,R.ent,fun b u e=>?_,fun q hq=>?_⟩
 ·by_cases hcd:c=.dead
  ·subst hcd;obtain⟨o,z⟩:=R.cell i _ b e1 e2;exact⟨o,zC3 _ _ z⟩
  ·obtain⟨u,q,po⟩:=(R.cell i c b e1 e2).po hcd;exact(R.cell i c b e1 e2).mono (Jh _) zC3 ((keep b u q po.1).trans q.symm)
 ·rcases R.sep i c b e1 e2 with z|z
  ·exact .inl z
  ·exact .inr (zLY z (.inl (Ji e2)))
 ·rcases zET e with z|⟨_,m,_,z⟩
  ·exact keep b u (R.sub b u z) (R.gnt b u z)
  ·rw[JO fun y=>m (by rw[y];exact ma)];exact R'.sub b u z
 ·rcases zET e with z|⟨g,m,_,z⟩
  ·exact R.grow b o z
  ·rcases R'.grow b o z with y|y|⟨i,hi,_⟩
   ·have y:upd G a (.frz od (.dK (ks.zip vs))) b=some o:=y;rw[JO fun y=>m (by rw[y];exact ma),g]at y;cases y
   ·exact .inr (.inl (R1.offF y).2)
   ·exact absurd hi (VU _)
 ·rcases zET e with z|⟨_,_,_,z⟩
  ·exact R.gnt b u z
  ·exact R'.gnt b u z
 ·obtain⟨ps,h1,h2,h3⟩:=R'.tabs q hq;refine⟨ps,by rw[JO fun z=>by rw[z,hHa]at h1;cases h1];exact h1,h2,fun pos cv e=>?_⟩
  obtain⟨c,e1,e2⟩:=h3 pos cv e;refine⟨c,e1,?_⟩;cases g:G c with
  |some o =>
   have ne:c≠a:=fun z=>by rw[z,ga]at g;cases g
   have y:=keep1 c o (by rw[JO ne];exact R.sub c o g) (R.gnt c o g)
   rw[R'.sub _ _ e2]at y;rw[Jk y];exact zC3 _ _ g
  |none =>
   unfold zG5;rw[g];dsimp only;rw[Vh]
   ·exact e2
   ·rintro(m|m)
    ·obtain⟨i,hi⟩:=JF m;rcases R'.grow c _ e2 with y|y|⟨i,hi,_⟩
     ·have y:upd G a (.frz od (.dK (ks.zip vs))) c=some _:=y
      by_cases z:c=a
      ·rw[z,JC]at y;exact zRQ _ _ (Jk y).symm
      ·rw[JO z,g]at y;cases y
     ·exact(R1.offF y).1 i hi
     ·exact absurd hi (VU _)
    ·cases m
theorem dat_RS(S:RS K cl ρ G σ τ):RS K cl [] G (datS σ) τ:=by
 refine⟨by rw[←S.1];simp[datS],fun i w e=>?_⟩
 unfold datS at e;rw[Jd]at e;cases h:σ[i]? with
 |none=>rw[h]at e;cases e
 |some x =>
  rw[h]at e;cases x with
  |none=>cases e
  |some w' =>
   cases w' with
   |r j=>cases e
   |p y =>
    cases e;obtain⟨v,e1,r⟩:=S.2 i _ h;exact⟨v,e1,r⟩
theorem zRo{i:Nat}{m:EM}{e:Expr} (h:SE K cl X Wx m e):SE K cl X Wx (zOP i m) e:=by
 refine⟨fun E0 ρ G σ st τ H Q R S q=>?_⟩
 unfold zOP at q;split at q
 case h_2=>exact q.elim
 rename_i j e1
 split at q
 case h_2=>exact q.elim
 rename_i ks l em
 split at q
 case h_2=>exact q.elim
 rename_i mm ep
 have R:Rel K cl E0 ρ G st H:=R;obtain⟨v,ev,a,ha,rfl⟩:=S.2 i _ e1;obtain⟨b',hb',⟨vs,c1,z,c2⟩,hd⟩:=R.at em;cases Jk (ha.symm.trans hb');have ga:G a=none:=hd.resolve_left (fun z=>by cases z)
 refine T.of (pe_lock T.pe) ⟨a,_,c1,trivial,fun od=>?_⟩
 have R1:=R.freezeX (o:=.frz od (.dK (ks.zip vs))) em (fun z=>by cases z) ha (by intro _ z;cases z)
 have sg:Sub G (upd G a (.frz od (.dK (ks.zip vs)))):=Sub.new ga;have A:=Rel.alone R1 R1.sub R1.gnt (fun c q e=>e)
 have S1:RS K cl [] (upd G a (.frz od (.dK (ks.zip vs)))) ((datS σ).set i (some (.p (.fd ks mm)))) τ:=by
  have S0:=dat_RS (S.mono (Jh _) sg);refine⟨by rw[J5];exact S0.1,fun k w e=>?_⟩
  by_cases hk:i=k
  ·subst hk
   rw[Jw (by
    have:=(Jb.mp e1).1
    simpa[datS]using this)]at e
   cases e;exact⟨_,ev,.fd JC z ((c2.pures ep).mono sg)⟩
  ·rw[Jv hk]at e;exact S0.2 k w e
 refine h.run _ [] _ _ [] τ _ _ A S1 ?_
 generalize m ((datS σ).set i (some (.p (.fd ks mm)))) []=res at q ⊢;cases res with
 |no=>exact q.elim
 |exc x st'=>exact q.elim
 |ok w st' =>
  cases w with
  |r j=>exact q.elim
  |p y =>
   dsimp only at q;split at q
   case isFalse=>exact q.elim
   rename_i hy
   intro ρ' G' H' v p s R' u;have u:RP K cl G' y v:=u;obtain⟨hHa,RR⟩:=Rel.lent R em ha c1 R';exact⟨hHa,q ρ _ _ v (Jh _) zC3 RR (RP.scal hy u)⟩
end
end Y
namespace YZ
open Y
section
variable {α β:Type}{st st1:List Cell}{σ:Sg}
@[simp]theorem Res.bind_ok(a:α) (st:List Cell) (k:α→List Cell→Res β):(Res.ok a st).bind k=k a st:=rfl
@[simp]theorem Res.bind_no(k:α→List Cell→Res β):(Res.no:Res α).bind k=.no:=rfl
@[simp]theorem Res.bind_exc(x:Exn) (st:List Cell) (k:α→List Cell→Res β):(Res.exc x st:Res α).bind k=.exc x st:=rfl
@[simp]theorem Res.nox_ok(a:α) (st:List Cell):(Res.ok a st).nox=.ok a st:=rfl
@[simp]theorem Res.nox_no:(Res.no:Res α).nox=.no:=rfl
@[simp]theorem Res.to_no(k:α→List Cell→SR):(Res.no:Res α).to σ k=.no:=rfl
@[simp]theorem SR.then_no(k:Sg→List Cell→SR):SR.no.then k=.no:=rfl
@[simp]theorem Res.to_ok(a:α) (st:List Cell) (k:α→List Cell→SR):(Res.ok a st).to σ k=k a st:=rfl
@[simp]theorem SR.then_nx(k:Sg→List Cell→SR):(SR.ok .nx σ st).then k=k σ st:=rfl
@[simp]theorem SR.then_rt(w:W) (k:Sg→List Cell→SR):(SR.ok (.rt w) σ st).then k=.ok (.rt w) σ st:=rfl
@[simp]theorem SR.then_bk(k:Sg→List Cell→SR):(SR.ok .bk σ st).then k=.ok .bk σ st:=rfl
@[simp]theorem SR.then_ct(k:Sg→List Cell→SR):(SR.ok .ct σ st).then k=.ok .ct σ st:=rfl
@[simp]theorem Res.bind_ite{c:Prop} [Decidable c] (a b:Res α) (k:α→List Cell→Res β):(if c then a else b).bind k=if c then a.bind k else b.bind k:=by split<;>rfl
@[simp]theorem Res.nox_ite{c:Prop} [Decidable c] (a b:Res α):(if c then a else b).nox=if c then a.nox else b.nox:=by split<;>rfl
@[simp]theorem Res.to_ite{c:Prop} [Decidable c] (a b:Res α) (k:α→List Cell→SR):(if c then a else b).to σ k=if c then a.to σ k else b.to σ k:=by split<;>rfl
@[simp]theorem SR.then_ite{c:Prop} [Decidable c] (a b:SR) (k:Sg→List Cell→SR):(if c then a else b).then k=if c then a.then k else b.then k:=by split<;>rfl
theorem zNS{a b:String}:Str.ofString a=Str.ofString b↔a=b:=by
 constructor
 ·intro h;rw[Yf,Yf]at h;have h2:a.toList.map Char.toNat=b.toList.map Char.toNat:=by simpa using h
  have h3:∀(l m:List Char),l.map Char.toNat=m.map Char.toNat→l=m:=by
   intro l
   induction l with
   |nil=>intro m e;cases m with
    |nil=>rfl
    |cons c m=>cases e
   |cons c l ih=>intro m e;cases m with
    |nil=>cases e
    |cons d m =>
     rw[Jl,Jl]at e;obtain⟨e1,e2⟩:=VP e;rw[ih m e2]
     congr 1
     exact Char.ext (UInt32.toNat_inj.mp e1)
  exact String.toList_inj.mp (h3 _ _ h2)
 ·intro h;rw[h]
@[simp]theorem ofS_eq{a b:String}:(Str.ofString a=Str.ofString b)=(a=b):=propext zNS
@[simp]theorem ofS_beq{a b:String}:(Str.ofString a==Str.ofString b)=decide (a=b):=by
 by_cases h:a=b
 ·subst h;simp
 ·rw[JM h,VB];exact fun e=>h (zNS.mp e)
@[simp]theorem ofS_len{a:String}:(Str.ofString a).length=a.length:=by
 rw[Yf];simp[Str.length,String.length_toList]
@[simp]theorem LIM_e:LIM=1000000:=rfl
def varF(o:Option (Option W)) (st:List Cell):Res W:=match o with
 |some (some w)=>.ok w st
 |_=>.no
@[simp]theorem varF_e(w:W):varF (some (some w)) st=.ok w st:=rfl
@[simp]theorem mVar_e(i:Nat):mVar i σ st=varF σ[i]? st:=rfl
@[simp]theorem mC_e(x:P):mC x σ st=.ok (.p x) st:=rfl
def binK(f:W→W→List Cell→Res W) (b:EM) (σ:Sg) (x:W) (st1:List Cell):Res W:=(b σ st1).bind (f x)
@[simp]theorem binK_e(f:W→W→List Cell→Res W) (b:EM) (x:W):binK f b σ x st=(b σ st).bind (f x):=rfl
@[simp]theorem mBin_e(f:W→W→List Cell→Res W) (a b:EM):mBin f a b σ st=(a σ st).bind (binK f b σ):=rfl
def truR(o:Option Bool) (st:List Cell):Res Bool:=match o with
 |some k=>.ok k st
 |none=>.no
@[simp]theorem truR_e(k:Bool):truR (some k) st=.ok k st:=rfl
def truK(w:W) (st1:List Cell):Res Bool:=truR (vTru st1 w) st1
@[simp]theorem truK_e(w:W):truK w st=truR (vTru st w) st:=rfl
@[simp]theorem mTru_e(m:EM):mTru m σ st=(m σ st).bind truK:=rfl
@[simp]theorem vTru_bl(b:Bool):vTru st (.p (.bl b))=some b:=rfl
@[simp]theorem vTru_int(b:Int):vTru st (.p (.int b))=some (b != 0):=rfl
@[simp]theorem vTru_lst(l:List P):vTru st (.p (.lst l))=some (!l.isEmpty):=rfl
@[simp]theorem vTru_tup(l:List P):vTru st (.p (.tup l))=some (!l.isEmpty):=rfl
def tstR(w:W) (st:List Cell):Res Bool:=match w with
 | .p (.bl k)=>.ok k st
 |_=>.no
@[simp]theorem tstR_e(k:Bool):tstR (.p (.bl k)) st=.ok k st:=rfl
@[simp]theorem mTst_e(m:EM):mTst m σ st=(m σ st).bind tstR:=rfl
def andK(b:TM) (σ:Sg) (c:Bool) (st1:List Cell):Res Bool:=if c=true then b σ st1 else .ok false st1
@[simp]theorem andK_e(b:TM) (c:Bool):andK b σ c st=if c=true then b σ st else .ok false st:=rfl
@[simp]theorem mAndT_e(a b:TM):zEX a b σ st=(a σ st).bind (andK b σ):=rfl
def orK(b:TM) (σ:Sg) (c:Bool) (st1:List Cell):Res Bool:=if c=true then .ok true st1 else b σ st1
@[simp]theorem orK_e(b:TM) (c:Bool):orK b σ c st=if c=true then .ok true st else b σ st:=rfl
@[simp]theorem mOrT_e(a b:TM):mOrT a b σ st=(a σ st).bind (orK b σ):=rfl
def notK(c:Bool) (st1:List Cell):Res Bool:=.ok (!c) st1
@[simp]theorem notK_e(c:Bool):notK c st=.ok (!c) st:=rfl
@[simp]theorem mNotT_e(a:TM):zBq a σ st=(a σ st).bind notK:=rfl
def zMu(b:EM) (σ:Sg) (c:Bool) (st1:List Cell):Res W:=if c=true then b σ st1 else .ok (.p (.bl false)) st1
@[simp]theorem andVK2_e(b:EM) (c:Bool):zMu b σ c st=if c=true then b σ st else .ok (.p (.bl false)) st:=rfl
def andVK(b:EM) (σ:Sg) (w:W) (st1:List Cell):Res W:=(tstR w st1).bind (zMu b σ)
@[simp]theorem andVK_e(b:EM) (w:W):andVK b σ w st=(tstR w st).bind (zMu b σ):=rfl
@[simp]theorem mAndV_e(a b:EM):zCu a b σ st=(a σ st).bind (andVK b σ):=by
 unfold zCu
 congr 1;funext w st1
 cases w with
 |p x=>cases x<;>rfl
 |r i=>rfl
def zSi(b:EM) (σ:Sg) (c:Bool) (st1:List Cell):Res W:=if c=true then .ok (.p (.bl true)) st1 else b σ st1
@[simp]theorem orVK2_e(b:EM) (c:Bool):zSi b σ c st=if c=true then .ok (.p (.bl true)) st else b σ st:=rfl
def orVK(b:EM) (σ:Sg) (w:W) (st1:List Cell):Res W:=(tstR w st1).bind (zSi b σ)
@[simp]theorem orVK_e(b:EM) (w:W):orVK b σ w st=(tstR w st).bind (zSi b σ):=rfl
@[simp]theorem mOrV_e(a b:EM):mOrV a b σ st=(a σ st).bind (orVK b σ):=by
 unfold mOrV
 congr 1;funext w st1
 cases w with
 |p x=>cases x<;>rfl
 |r i=>rfl
def zNb(c:Bool) (st1:List Cell):Res W:=.ok (.p (.bl (!c))) st1
@[simp]theorem notVK2_e(c:Bool):zNb c st=.ok (.p (.bl (!c))) st:=rfl
def notVK(w:W) (st1:List Cell):Res W:=(tstR w st1).bind zNb
@[simp]theorem notVK_e(w:W):notVK w st=(tstR w st).bind zNb:=rfl
@[simp]theorem mNotV_e(a:EM):zJu a σ st=(a σ st).bind notVK:=by
 unfold zJu
 congr 1;funext w st1
 cases w with
 |p x=>cases x<;>rfl
 |r i=>rfl
def ifK{α:Type} (a b:Sg→List Cell→α) (σ:Sg) (k:Bool) (st1:List Cell):α:=if k=true then a σ st1 else b σ st1
@[simp]theorem ifK_e{α:Type} (a b:Sg→List Cell→α) (k:Bool):ifK a b σ k st=if k=true then a σ st else b σ st:=rfl
@[simp]theorem mIfE_e(c:TM) (a b:EM):mIfE c a b σ st=(c σ st).bind (ifK a b σ):=rfl
@[simp]theorem mNil_e:mNil σ st=.ok [] st:=rfl
def zHd(w:W) (ws:List W) (st2:List Cell):Res (List W):=.ok (w::ws) st2
@[simp]theorem zLo(w:W) (ws:List W):zHd w ws st=.ok (w::ws) st:=rfl
def consK(r:AM) (σ:Sg) (w:W) (st1:List Cell):Res (List W):=(r σ st1).bind (zHd w)
@[simp]theorem consK_e(r:AM) (w:W):consK r σ w st=(r σ st).bind (zHd w):=rfl
@[simp]theorem mCons_e(a:EM) (r:AM):zAB a r σ st=(a σ st).bind (consK r σ):=rfl
@[simp]theorem pures_nil:pures []=some []:=rfl
@[simp]theorem zTH(x:P) (l:List W):pures (.p x::l)=(pures l).map (x :: ·):=rfl
@[simp]theorem pures_ref(i:Nat) (l:List W):pures (.r i::l)=none:=rfl
@[simp]theorem zL3(l:List P):pures (l.map W.p)=some l:=zBa l
def pR(f:List P→W) (o:Option (List P)) (st:List Cell):Res W:=match o with
 |some l=>.ok (f l) st
 |none=>.no
def pRL(f:List P→W) (o:Option (List P)) (st:List Cell):Res W:=match o with
 |some l=>if l.length≤1000000 then .ok (f l) st else .no
 |none=>.no
@[simp]theorem pRL_e(f:List P→W) (l:List P):pRL f (some l) st=if l.length≤1000000 then .ok (f l) st else .no:=rfl
@[simp]theorem pR_e(f:List P→W) (l:List P):pR f (some l) st=.ok (f l) st:=rfl
def tupK(ws:List W) (st1:List Cell):Res W:=pRL (fun l=>.p (.tup l)) (pures ws) st1
@[simp]theorem tupK_e(ws:List W):tupK ws st=pRL (fun l=>.p (.tup l)) (pures ws) st:=rfl
@[simp]theorem mTup_e(a:AM):mTup a σ st=(a σ st).bind tupK:=by
 unfold mTup;rfl
def lstK(ws:List W) (st1:List Cell):Res W:=pRL (fun l=>.p (.lst l)) (pures ws) st1
@[simp]theorem lstK_e(ws:List W):lstK ws st=pRL (fun l=>.p (.lst l)) (pures ws) st:=rfl
@[simp]theorem mLst_e(a:AM):mLst a σ st=(a σ st).bind lstK:=by
 unfold mLst;rfl
def lstCK(ws:List W) (st1:List Cell):Res W:=if ws.length≤1000000 then .ok (.r st1.length) (st1++[.lst ws])else .no
@[simp]theorem lstCK_e(ws:List W):lstCK ws st=if ws.length≤1000000 then .ok (.r st.length) (st++[.lst ws])else .no:=rfl
@[simp]theorem mLstC_e(a:AM):zDB a σ st=(a σ st).bind lstCK:=rfl
@[simp]theorem mCallV_e(f:List W→List Cell→Res W) (a:AM):zAH f a σ st=(a σ st).bind f:=rfl
def chK4(f2:W→W→List Cell→Res W) (c:EM) (σ:Sg) (y:W) (k:Bool) (st1:List Cell):Res W:=if k=true then(c σ st1).bind (f2 y)else .ok (.p (.bl false)) st1
@[simp]theorem chK4_e(f2:W→W→List Cell→Res W) (c:EM) (y:W) (k:Bool):chK4 f2 c σ y k st=if k=true then(c σ st).bind (f2 y)else .ok (.p (.bl false)) st:=rfl
def chK3(f2:W→W→List Cell→Res W) (c:EM) (σ:Sg) (y t:W) (st1:List Cell):Res W:=(tstR t st1).bind (chK4 f2 c σ y)
@[simp]theorem chK3_e(f2:W→W→List Cell→Res W) (c:EM) (y t:W):chK3 f2 c σ y t st=(tstR t st).bind (chK4 f2 c σ y):=rfl
def chK2(f f2:W→W→List Cell→Res W) (c:EM) (σ:Sg) (x y:W) (st1:List Cell):Res W:=(f x y st1).bind (chK3 f2 c σ y)
@[simp]theorem chK2_e(f f2:W→W→List Cell→Res W) (c:EM) (x y:W):chK2 f f2 c σ x y st=(f x y st).bind (chK3 f2 c σ y):=rfl
def chK(f f2:W→W→List Cell→Res W) (b c:EM) (σ:Sg) (x:W) (st1:List Cell):Res W:=(b σ st1).bind (chK2 f f2 c σ x)
@[simp]theorem chK_e(f f2:W→W→List Cell→Res W) (b c:EM) (x:W):chK f f2 b c σ x st=(b σ st).bind (chK2 f f2 c σ x):=rfl
@[simp]theorem mChain_e(f f2:W→W→List Cell→Res W) (a b c:EM):zGQ f f2 a b c σ st=(a σ st).bind (chK f f2 b c σ):=by
 unfold zGQ
 congr 1;funext x st1
 unfold chK
 congr 1;funext y st2
 unfold chK2
 congr 1;funext t st3
 cases t with
 |p x=>cases x<;>rfl
 |r i=>rfl
def negR(w:W) (st:List Cell):Res W:=match w with
 | .p (.int i)=>.ok (.p (.int (-i))) st
 |_=>.no
@[simp]theorem negR_e(i:Int):negR (.p (.int i)) st=.ok (.p (.int (-i))) st:=rfl
@[simp]theorem mNeg_e(a:EM):mNeg a σ st=(a σ st).bind negR:=rfl
def osR(w:W) (st:List Cell):Res (Option Int):=match w with
 | .p (.int i)=>.ok (some i) st
 |_=>.no
@[simp]theorem osR_e(i:Int):osR (.p (.int i)) st=.ok (some i) st:=rfl
@[simp]theorem oNone_e:zE4 σ st=.ok none st:=rfl
@[simp]theorem oSome_e(a:EM):zFM a σ st=(a σ st).bind osR:=rfl
def slK2(x:W) (l u:Option Int) (st3:List Cell):Res W:=vSl x l u st3
@[simp]theorem slK2_e(x:W) (l u:Option Int):slK2 x l u st=vSl x l u st:=rfl
def slK1(hi:OM) (σ:Sg) (x:W) (l:Option Int) (st2:List Cell):Res W:=(hi σ st2).bind (slK2 x l)
@[simp]theorem slK1_e(hi:OM) (x:W) (l:Option Int):slK1 hi σ x l st=(hi σ st).bind (slK2 x l):=rfl
def slK(lo hi:OM) (σ:Sg) (x:W) (st1:List Cell):Res W:=(lo σ st1).bind (slK1 hi σ x)
@[simp]theorem slK_e(lo hi:OM) (x:W):slK lo hi σ x st=(lo σ st).bind (slK1 hi σ x):=rfl
@[simp]theorem mSl_e(a:EM) (lo hi:OM):mSl a lo hi σ st=(a σ st).bind (slK lo hi σ):=rfl
def zAR(F:FM) (ws:List W) (st1:List Cell):Res W:=(zAM F ws st1).nox
@[simp]theorem callK_e(F:FM) (ws:List W):zAR F ws st=(zAM F ws st).nox:=rfl
@[simp]theorem mCallF_e(F:FM) (a:AM):zAF F a σ st=(a σ st).bind (zAR F):=rfl
@[simp]theorem clsOf_obj(c:Nat) (l:List P):clsOf st (.p (.obj c l))=some c:=rfl
def fldR(cs:List (Nat×Nat)) (w:W) (st1:List Cell):Res W:=match w with
 | .p (.obj c l)=>match cs.lookup c with
  |some i=>match l[i]? with
   |some x=>.ok (.p x) st1
   |none=>.no
  |none=>.no
 | .r j=>match st1[j]? with
  |some (.ins c l)=>match cs.lookup c with
   |some i=>match l[i]? with
    |some x=>.ok x st1
    |none=>.no
   |none=>.no
  |_=>.no
 |_=>.no
@[simp]theorem mFld_e(cs:List (Nat×Nat)) (o:EM):mFld cs o σ st=(o σ st).bind (fldR cs):=rfl
def runR:SR→Res W
 | .ok .nx _ st1=>.ok (.p .non) st1
 | .ok (.rt w) _ st1=>.ok w st1
 |_=>.no
@[simp]theorem runR_nx:runR (.ok .nx σ st)=.ok (.p .non) st:=rfl
@[simp]theorem runR_rt(w:W):runR (.ok (.rt w) σ st)=.ok w st:=rfl
@[simp]theorem runR_no:runR .no=.no:=rfl
@[simp]theorem runR_ite{c:Prop} [Decidable c] (a b:SR):runR (if c then a else b)=if c then runR a else runR b:=by split<;>rfl
theorem zAQ(np N:Nat) (m:SMm) (ws:List W):runF np N m ws st=if ws.length=np then runR (m (ws.map some++List.replicate (N-np) none) st)else .no:=by
 unfold runF;split
 ·generalize m (List.map some ws++List.replicate (N-np) none) st=r;cases r with
  |ok f _ _=>cases f<;>rfl
  |exc _ _ _=>rfl
  |no=>rfl
 ·rfl
@[simp]theorem sNx_e:sNx σ st=.ok .nx σ st:=rfl
@[simp]theorem zQt(a b:SMm):sSeq a b σ st=(a σ st).then b:=rfl
@[simp]theorem sBrk_e:sBrk σ st=.ok .bk σ st:=rfl
@[simp]theorem sCnt_e:sCnt σ st=.ok .ct σ st:=rfl
def retK(σ:Sg) (w:W) (st1:List Cell):SR:=.ok (.rt w) σ st1
@[simp]theorem retK_e(w:W):retK σ w st=.ok (.rt w) σ st:=rfl
@[simp]theorem zQp(m:EM):sRet m σ st=(m σ st).to σ (retK σ):=rfl
def expK(σ:Sg) (w:W) (st1:List Cell):SR:=.ok .nx σ st1
@[simp]theorem expK_e(w:W):expK σ w st=.ok .nx σ st:=rfl
@[simp]theorem sExpr_e(m:EM):zBo m σ st=(m σ st).to σ (expK σ):=rfl
def setK(i:Nat) (σ:Sg) (w:W) (st1:List Cell):SR:=.ok .nx (σ.set i (some w)) st1
@[simp]theorem setK_e(i:Nat) (w:W):setK i σ w st=.ok .nx (σ.set i (some w)) st:=rfl
@[simp]theorem sSet_e(i:Nat) (m:EM):sSet i m σ st=(m σ st).to σ (setK i σ):=rfl
@[simp]theorem sIf_e(c:TM) (a b:SMm):sIf c a b σ st=(c σ st).to σ (ifK a b σ):=rfl
@[simp]theorem zBl(i:Nat) (w:W):Tg.put (.nm i) w σ=some (σ.set i (some w)):=by rw[Tg.put]
@[simp]theorem put_tp(ts:List Tg) (l:List P):Tg.put (.tp ts) (.p (.tup l)) σ=Tg.puts ts l σ:=by rw[Tg.put]
@[simp]theorem puts_nil:Tg.puts [] [] σ=some σ:=by rw[Tg.puts]
@[simp]theorem puts_cons(t:Tg) (ts:List Tg) (x:P) (l:List P):Tg.puts (t::ts) (x::l) σ=(Tg.put t (.p x) σ).bind fun σ'=>Tg.puts ts l σ':=by
 rw[Tg.puts];cases Tg.put t (.p x) σ<;>rfl
def putR(o:Option Sg) (st:List Cell):SR:=match o with
 |some σ'=>.ok .nx σ' st
 |none=>.no
@[simp]theorem putR_e:putR (some σ) st=.ok .nx σ st:=rfl
def putK(t:Tg) (σ:Sg) (w:W) (st1:List Cell):SR:=putR (t.put w σ) st1
@[simp]theorem putK_e(t:Tg) (w:W):putK t σ w st=putR (t.put w σ) st:=rfl
@[simp]theorem sPut_e(t:Tg) (m:EM):sPut t m σ st=(m σ st).to σ (putK t σ):=rfl
def parR(i j:Nat) (σ:Sg) (ws:List W) (st1:List Cell):SR:=match ws with
 |[v,w]=>.ok .nx ((σ.set i (some v)).set j (some w)) st1
 |_=>.no
@[simp]theorem parR_e(i j:Nat) (v w:W):parR i j σ [v,w] st=.ok .nx ((σ.set i (some v)).set j (some w)) st:=rfl
@[simp]theorem sPar_e(i j:Nat) (a:AM):sPar i j a σ st=(a σ st).to σ (parR i j σ):=rfl
def parR3(i j l:Nat) (σ:Sg) (ws:List W) (st1:List Cell):SR:=match ws with
 |[u,v,w]=>.ok .nx (((σ.set i (some u)).set j (some v)).set l (some w)) st1
 |_=>.no
@[simp]theorem parR3_e(i j l:Nat) (u v w:W):parR3 i j l σ [u,v,w] st=.ok .nx (((σ.set i (some u)).set j (some v)).set l (some w)) st:=rfl
@[simp]theorem sPar3_e(i j l:Nat) (a:AM):zJ0 i j l a σ st=(a σ st).to σ (parR3 i j l σ):=rfl
def augR(i:Nat) (σ:Sg) (r:Res W):SR:=match r with
 | .ok z st2=>.ok .nx (σ.set i (some z)) st2
 |_=>.no
@[simp]theorem augR_e(i:Nat) (z:W):augR i σ (.ok z st)=.ok .nx (σ.set i (some z)) st:=rfl
@[simp]theorem augR_no(i:Nat):augR i σ .no=.no:=rfl
@[simp]theorem augR_ite(i:Nat){c:Prop} [Decidable c] (a b:Res W):augR i σ (if c then a else b)=if c then augR i σ a else augR i σ b:=by split<;>rfl
def augS(i:Nat) (f:W→W→List Cell→Res W) (m:EM) (σ:Sg) (st:List Cell) (o:Option (Option W)):SR:=match o with
 |some (some x)=>(m σ st).to σ fun y st1=>augR i σ (f x y st1)
 |_=>.no
def augK(i:Nat) (f:W→W→List Cell→Res W) (σ:Sg) (x y:W) (st1:List Cell):SR:=augR i σ (f x y st1)
@[simp]theorem augK_e(i:Nat) (f:W→W→List Cell→Res W) (x y:W):augK i f σ x y st=augR i σ (f x y st):=rfl
@[simp]theorem augS_e(i:Nat) (f:W→W→List Cell→Res W) (m:EM) (x:W):augS i f m σ st (some (some x))=(m σ st).to σ (augK i f σ x):=rfl
@[simp]theorem sAug_e(i:Nat) (f:W→W→List Cell→Res W) (m:EM):sAug i f m σ st=augS i f m σ st σ[i]?:=by
 unfold sAug augS augR;rfl
def ixR(σ:Sg) (x:W) (w k:W) (st3:List Cell):SR:=match w,k with
 | .r i,.p (.int n)=>match st3[i]? with
  |some (.lst l)=>match L2.ixN l.length n with
   |some j=>.ok .nx σ (st3.set i (.lst (l.set j x)))
   |none=>.no
  |_=>.no
 |_,_=>.no
def ixR2(σ:Sg) (st3:List Cell) (i:Nat) (x:W) (n:Int) (c:Option Cell):SR:=match c with
  |some (.lst l)=>match L2.ixN l.length n with
   |some j=>.ok .nx σ (st3.set i (.lst (l.set j x)))
   |none=>.no
  |_=>.no
def ixR3(σ:Sg) (st3:List Cell) (i:Nat) (x:W) (l:List W) (o:Option Nat):SR:=match o with
   |some j=>.ok .nx σ (st3.set i (.lst (l.set j x)))
   |none=>.no
@[simp]theorem ixR_e(x:W) (i:Nat) (n:Int):ixR σ x (.r i) (.p (.int n)) st=ixR2 σ st i x n st[i]?:=rfl
@[simp]theorem ixR2_e(x:W) (i:Nat) (n:Int) (l:List W):ixR2 σ st i x n (some (.lst l))=ixR3 σ st i x l (L2.ixN l.length n):=rfl
@[simp]theorem ixR3_e(x:W) (i j:Nat) (l:List W):ixR3 σ st i x l (some j)=.ok .nx σ (st.set i (.lst (l.set j x))):=rfl
def zRS(σ:Sg) (x w k:W) (st3:List Cell):SR:=ixR σ x w k st3
@[simp]theorem sixK2_e(x w k:W):zRS σ x w k st=ixR σ x w k st:=rfl
def zSk(ix:EM) (σ:Sg) (x w:W) (st3:List Cell):SR:=(ix σ st3).to σ (zRS σ x w)
@[simp]theorem sixK1_e(ix:EM) (x w:W):zSk ix σ x w st=(ix σ st).to σ (zRS σ x w):=rfl
def sixK(o ix:EM) (σ:Sg) (x:W) (st3:List Cell):SR:=(o σ st3).to σ (zSk ix σ x)
@[simp]theorem sixK_e(o ix:EM) (x:W):sixK o ix σ x st=(o σ st).to σ (zSk ix σ x):=rfl
@[simp]theorem sSetIx_e(o ix m:EM):zFG o ix m σ st=(m σ st).to σ (sixK o ix σ):=rfl
@[simp]theorem ixN_nat(n j:Nat) (h:j<n):L2.ixN n ((j:Nat):Int)=some j:=by
 unfold L2.ixN;rw[JW ∅,JW ∅];simp
def zQG(cs:List (Nat×Nat)) (σ:Sg) (x w:W) (st2:List Cell):SR:=match w with
 | .r j=>match st2[j]? with
  |some (.ins c l)=>match cs.lookup c with
   |some i=>if i≤l.length then .ok .nx σ (st2.set j (.ins c (if i<l.length then l.set i x else l++[x])))else .no
   |none=>.no
  |_=>.no
 |_=>.no
def sfK1(cs:List (Nat×Nat)) (σ:Sg) (x w:W) (st3:List Cell):SR:=zQG cs σ x w st3
@[simp]theorem sfK1_e(cs:List (Nat×Nat)) (x w:W):sfK1 cs σ x w st=zQG cs σ x w st:=rfl
def sfK(cs:List (Nat×Nat)) (o:EM) (σ:Sg) (x:W) (st3:List Cell):SR:=(o σ st3).to σ (sfK1 cs σ x)
@[simp]theorem sfK_e(cs:List (Nat×Nat)) (o:EM) (x:W):sfK cs o σ x st=(o σ st).to σ (sfK1 cs σ x):=rfl
@[simp]theorem sSetF_e(cs:List (Nat×Nat)) (o m:EM):zHM cs o m σ st=(m σ st).to σ (sfK cs o σ):=rfl
@[simp]theorem setFR_0(c i:Nat) (x:W) (l:List W) (r:List Cell):zQG [(c,i)] σ x (.r 0) (.ins c l::r)=if i≤l.length then .ok .nx σ (.ins c (if i<l.length then l.set i x else l++[x])::r)else .no:=by
 unfold zQG;simp
@[simp]theorem fldR_obj(c i:Nat) (l:List P):fldR [(c,i)] (.p (.obj c l)) st=varF (l[i]?.map fun x=>some (.p x)) st:=by
 unfold fldR varF;simp only[VX,beq_self_eq_true];cases l[i]?<;>rfl
@[simp]theorem fldR_0(c i:Nat) (l:List W) (r:List Cell):fldR [(c,i)] (.r 0) (.ins c l::r)=varF (l[i]?.map some) (.ins c l::r):=by
 unfold fldR varF;simp only[bK,VX,beq_self_eq_true];cases l[i]?<;>rfl
def isiR(T:String) (o:Option String) (st:List Cell):Res W:=match o with
 |some t=>.ok (.p (.bl (zHW t T))) st
 |none=>.no
@[simp]theorem isiR_e(T t:String):isiR T (some t) st=.ok (.p (.bl (zHW t T))) st:=rfl
def isiK(T:String) (w:W) (st1:List Cell):Res W:=isiR T (zEC st1 w) st1
@[simp]theorem isiK_e(T:String) (w:W):isiK T w st=isiR T (zEC st w) st:=rfl
@[simp]theorem mIsi_e(T:String) (a:EM):mIsi T a σ st=(a σ st).bind (isiK T):=rfl
@[simp]theorem zTK:zEC st (.p .non)=some "NoneType" := rfl
@[simp]theorem tyName_bl(b:Bool):zEC st (.p (.bl b))=some "bool" := rfl
@[simp]theorem zTB(b:Int):zEC st (.p (.int b))=some "int" := rfl
@[simp]theorem zS7(b:Str):zEC st (.p (.str b))=some "str" := rfl
@[simp]theorem zTO(b:List P):zEC st (.p (.tup b))=some "tuple" := rfl
@[simp]theorem zTG(b:List P):zEC st (.p (.lst b))=some "list" := rfl
@[simp]theorem tyName_dk(k:List Key) (b:List P):zEC st (.p (.dk k b))=some "dict" := rfl
@[simp]theorem kitTab_e(t T:String):zHW t T=(decide (t=T)||(decide (t = "bool")&&decide (T = "int"))):=rfl
def bmR(ok:Bool) (f:List W→List Cell→Res W) (r:Res (List W)):Res W:=if ok=true then r.bind f else .no
@[simp]theorem bmR_e(f:List W→List Cell→Res W) (r:Res (List W)):bmR true f r=r.bind f:=rfl
def bmK(T:String) (f:W→List W→List Cell→Res W) (a:AM) (σ:Sg) (w:W) (st1:List Cell):Res W:=bmR (decide (tyW st1 w=some T)) (f w) (a σ st1)
@[simp]theorem bmK_e(T:String) (f:W→List W→List Cell→Res W) (a:AM) (w:W):bmK T f a σ w st=bmR (decide (tyW st w=some T)) (f w) (a σ st):=rfl
@[simp]theorem mBm_e(T:String) (f:W→List W→List Cell→Res W) (o:EM) (a:AM):mBm T f o a σ st=(o σ st).bind (bmK T f a σ):=by
 unfold mBm
 congr 1;funext w st1
 unfold bmK bmR
 by_cases h:tyW st1 w=some T
 ·simp only[h,Ye,decide_true]
 ·simp only[h,YE,decide_false];rfl
end
section
variable {α β:Type}{st st1:List Cell}{σ:Sg}
@[simp]theorem vLt_e(i j:Int):vLt (.p (.int i)) (.p (.int j)) st=.ok (.p (.bl (decide (i<j)))) st:=rfl
@[simp]theorem vLe_e(i j:Int):vLe (.p (.int i)) (.p (.int j)) st=.ok (.p (.bl (decide (i≤j)))) st:=rfl
@[simp]theorem vGt_e(i j:Int):vGt (.p (.int i)) (.p (.int j)) st=.ok (.p (.bl (decide (j<i)))) st:=rfl
@[simp]theorem vGe_e(i j:Int):vGe (.p (.int i)) (.p (.int j)) st=.ok (.p (.bl (decide (j≤i)))) st:=rfl
@[simp]theorem vSub_e(i j:Int):vSub (.p (.int i)) (.p (.int j)) st=.ok (.p (.int (i-j))) st:=rfl
@[simp]theorem vAdd_e(i j:Int):vAdd (.p (.int i)) (.p (.int j)) st=.ok (.p (.int (i+j))) st:=rfl
@[simp]theorem vIadd_e(i j:Int):zIO (.p (.int i)) (.p (.int j)) st=.ok (.p (.int (i+j))) st:=rfl
@[simp]theorem vMulI_e(i j:Int):zHG (.p (.int i)) (.p (.int j)) st=if zE7 i j=true then .ok (.p (.int (i*j))) st else .no:=rfl
@[simp]theorem vFdv_e(i j:Int):vFdv (.p (.int i)) (.p (.int j)) st=if 0<j∧j.natAbs.log2<9000 then .ok (.p (.int (i/j))) st else .no:=by
 unfold vFdv vI2;simp
@[simp]theorem vMod_e(i j:Int):vMod (.p (.int i)) (.p (.int j)) st=if 0<j then .ok (.p (.int (i%j))) st else .no:=by
 unfold vMod vI2;simp
@[simp]theorem vPow_e(i j:Int):vPow (.p (.int i)) (.p (.int j)) st=if 0≤j∧j≤1000∧i.natAbs<1000 then .ok (.p (.int (i^j.toNat))) st else .no:=by
 unfold vPow vI2;simp
def Sm(i:Int):Prop:=i.natAbs<2^200000
theorem log2_lt{n k:Nat} (h:n<2^k) (hk:0<k):n.log2<k:=by
 rcases Nat.eq_zero_or_pos n with rfl|hn
 ·simpa using hk
 ·exact(Nat.log2_lt ∅).mpr h
theorem mulOk_of{i j:Int} (h:Sm i) (h2:Sm j):zE7 i j=true:=by
 unfold zE7;have a:=log2_lt h (!0);have b:=log2_lt h2 (!0);exact JD ∅
theorem zL5{k:Nat} (h:k≤200000):2^k≤2^200000:=Nat.pow_le_pow_right (!0) h
theorem Sm.lt{i:Int} (k:Nat) (h:i.natAbs<2^k) (hk:k≤200000):Sm i:=Vb h (zL5 hk)
theorem two64:(2:Nat)^64=18446744073709551616:=rfl
theorem Sm.small{i:Int} (h:i.natAbs<18446744073709551616):Sm i:=Sm.lt 64 (by rw[two64];exact h) (!0)
theorem atI_nat{l:List α}{i:Int} (h0:0≤i):L2.atI l i=l[i.toNat]?:=by
 unfold L2.atI L2.ixN;rw[JW h0]
 by_cases h:i<l.length
 ·rw[JW h];rfl
 ·rw[Vh h,Jt ∅];rfl
@[simp]theorem atI_lit{l:List α} (n:Nat):L2.atI l (no_index (OfNat.ofNat n):Int)=l[(OfNat.ofNat n:Nat)]?:=by
 rw[atI_nat (by exact YG n)];rfl
@[simp]theorem zLe{l:List α} (n:Nat):L2.atI l (n:Int)=l[n]?:=by
 rw[atI_nat (YG n)];rfl
theorem zSj{f:α→β}{l:List α}{i:Int}:L2.atI (l.map f) i=(L2.atI l i).map f:=by
 unfold L2.atI;rw[Jc];cases L2.ixN l.length i with
 |none=>rfl
 |some j=>show(l.map f)[j]?=_;rw[Jd];rfl
@[simp]theorem ixN_lit(n j:Nat):L2.ixN n (no_index (OfNat.ofNat j):Int)=if(OfNat.ofNat j:Nat)<n then some (OfNat.ofNat j:Nat)else none:=by
 show L2.ixN n ((j:Nat):Int)=if j<n then some j else none
 unfold L2.ixN;rw[JW ∅]
 by_cases h:j<n
 ·rw[JW ∅,JW h];simp
 ·rw[Vh ∅,Vh h]
def ixP(o:Option P) (st:List Cell):Res W:=match o with
 |some z=>.ok (.p z) st
 |none=>.no
@[simp]theorem ixP_e(z:P):ixP (some z) st=.ok (.p z) st:=rfl
def ixW(o:Option W) (st:List Cell):Res W:=match o with
 |some z=>.ok z st
 |none=>.no
@[simp]theorem ixW_e(z:W):ixW (some z) st=.ok z st:=rfl
@[simp]theorem vIx_tup(l:List P) (i:Int):vIx (.p (.tup l)) (.p (.int i)) st=ixP (L2.atI l i) st:=rfl
@[simp]theorem vIx_lst(l:List P) (i:Int):vIx (.p (.lst l)) (.p (.int i)) st=ixP (L2.atI l i) st:=by
 unfold vIx;show(match zIv st (.p (.lst l))with|some l=>(match L2.atI l i with|some z=>Res.ok z st|none=>.no)|none=>.no)=_
 unfold zIv;show(match L2.atI (l.map W.p) i with|some z=>Res.ok z st|none=>.no)=_
 rw[zSj];cases L2.atI l i<;>rfl
def ixC(i:Int) (c:Option Cell) (st:List Cell):Res W:=match c with
 |some (.lst l)=>ixW (L2.atI l i) st
 |_=>.no
@[simp]theorem ixC_e(i:Int) (l:List W):ixC i (some (.lst l)) st=ixW (L2.atI l i) st:=rfl
@[simp]theorem vIx_r(j:Nat) (i:Int):vIx (.r j) (.p (.int i)) st=ixC i st[j]? st:=by
 unfold vIx ixC zIv;dsimp only;cases st[j]? with
 |none=>rfl
 |some c=>cases c<;>rfl
@[simp]theorem vIx_str(s:Str) (i:Int):vIx (.p (.str s)) (.p (.int i)) st=if s.length≤1000000 then ixP ((L2.atI s.cps.toList i).map fun c=>.str ⟨#[c]⟩) st else .no:=by
 unfold vIx;dsimp only
 by_cases h:s.length≤1000000
 ·rw[JW h,JW (show s.length≤LIM from h)]
  cases L2.atI s.cps.toList i<;>rfl
 ·rw[Vh h,Vh (show ¬s.length≤LIM from h)]
@[simp]theorem vLen_tup(l:List P):vLen [.p (.tup l)] st=.ok (.p (.int l.length)) st:=rfl
@[simp]theorem vLen_lst(l:List P):vLen [.p (.lst l)] st=.ok (.p (.int l.length)) st:=by
 unfold vLen zIv;simp
@[simp]theorem vLen_str(s:Str):vLen [.p (.str s)] st=if s.length≤1000000 then .ok (.p (.int s.length)) st else .no:=rfl
@[simp]theorem vLen_dk(ks:List Key) (l:List P):vLen [.p (.dk ks l)] st=.ok (.p (.int ks.length)) st:=rfl
def lenC(c:Option Cell) (st:List Cell):Res W:=match c with
 |some (.lst l)=>.ok (.p (.int l.length)) st
 |some (.dk ks _)=>.ok (.p (.int ks.length)) st
 |_=>.no
@[simp]theorem lenC_e(l:List W):lenC (some (.lst l)) st=.ok (.p (.int l.length)) st:=rfl
@[simp]theorem vLen_r(i:Nat):vLen [.r i] st=lenC st[i]? st:=by
 unfold vLen lenC zIv;dsimp only;cases st[i]? with
 |none=>rfl
 |some c=>cases c<;>rfl
theorem zPE{l:List α}{i:Int} (h:0≤i):cutL l (some i) none=l.drop i.toNat:=by
 obtain⟨n,rfl⟩:=bL h;unfold cutL;rw[HT.sIx_nat,HT.sIx_none,Vk (by simp)]
 rcases Nat.le_total n l.length with h|h
 ·rw[Nat.min_eq_left h];rfl
 ·rw[Nat.min_eq_right h,Vl (JH _),Vl (by simpa using h)]
theorem cut_to{l:List α}{i:Int} (h:0≤i):cutL l none (some i)=l.take i.toNat:=by
 obtain⟨n,rfl⟩:=bL h;unfold cutL;rw[HT.sIx_nat,HT.sIx_none,VE,Nat.sub_zero];rcases Nat.le_total n l.length with h|h
 ·rw[Nat.min_eq_left h];rfl
 ·rw[Nat.min_eq_right h,Vk (JH _),Vk (by simpa using h)]
@[simp]theorem zQZ{l:List α} (n:Nat):cutL l (some (no_index (OfNat.ofNat n):Int)) none=l.drop (OfNat.ofNat n:Nat):=by
 rw[zPE (by exact YG n)];rfl
@[simp]theorem zTE{l:List α} (n:Nat):cutL l none (some (no_index (OfNat.ofNat n):Int))=l.take (OfNat.ofNat n:Nat):=by
 rw[cut_to (by exact YG n)];rfl
@[simp]theorem vSl_tup(l:List P) (lo hi:Option Int):vSl (.p (.tup l)) lo hi st=.ok (.p (.tup (cutL l lo hi))) st:=rfl
@[simp]theorem vSl_lst(l:List P) (lo hi:Option Int):vSl (.p (.lst l)) lo hi st=.ok (.p (.lst (cutL l lo hi))) st:=rfl
@[simp]theorem vSl_scr(l:List Int) (lo hi:Option Int):vSl (.p (.scr l)) lo hi st=.ok (.p (.lst ((cutL l lo hi).map .int))) st:=rfl
@[simp]theorem vSl_str(z:Str) (lo hi:Option Int):vSl (.p (.str z)) lo hi st=if z.length≤1000000 then .ok (.p (.str (cutS z lo hi))) st else .no:=rfl
@[simp]theorem zMK{α:Type} (g:α→P) (l:List α):pures (l.map (W.p∘g))=some (l.map g):=by rw[←Jm,zL3]
@[simp]theorem zS5{α:Type} (g:α→P) (l:List α):pures (l.map fun x=>W.p (g x))=some (l.map g):=zMK g l
@[simp]theorem unC_p(x:P):unC st (.p x)=some x:=rfl
@[simp]theorem zO4(l:List P):seqP st (.p (.lst l))=some l:=rfl
@[simp]theorem zP2(l:List P):seqP st (.p (.tup l))=some l:=rfl
@[simp]theorem zHf(l:List P):Y.listOf st (.p (.lst l))=some l:=rfl
def seqC(c:Option Cell):Option (List P):=match c with
 |some (.lst l)=>pures l
 |_=>none
@[simp]theorem seqC_e(l:List W):seqC (some (.lst l))=pures l:=rfl
@[simp]theorem seqP_r(i:Nat):seqP st (.r i)=seqC st[i]?:=by
 unfold seqP seqC unC;dsimp only;cases st[i]? with
 |none=>rfl
 |some c=>cases c with
  |lst l=>simp only;cases pures l<;>rfl
  |_=>rfl
@[simp]theorem zLi(i:Nat):Y.listOf st (.r i)=seqC st[i]?:=by
 unfold Y.listOf seqC unC;dsimp only;cases st[i]? with
 |none=>rfl
 |some c=>cases c with
  |lst l=>simp only;cases pures l<;>rfl
  |_=>rfl
@[simp]theorem zS9:intsOf []=some []:=rfl
@[simp]theorem zSW(i:Int) (l:List P):intsOf (.int i::l)=(intsOf l).map (i :: ·):=by
 rw[intsOf];cases intsOf l<;>rfl
@[simp]theorem zKP{α:Type} (l:List α) (f:α→Int):intsOf (l.map fun x=>P.int (f x))=some (l.map f):=by
 have:=zDf (l.map f)
 rwa [Jm]at this
@[simp]theorem zR4{α:Type} (l:List α) (f:α→Int):intsOf (l.map (P.int∘f))=some (l.map f):=zKP l f
@[simp]theorem zRK(l:List Int):intsOf (l.map P.int)=some l:=zDf l
@[simp]theorem trusF_nil:zDp []=some []:=rfl
theorem zOp(l:List Bool):zDp (l.map P.bl)=some l:=by
 induction l with
 |nil=>rfl
 |cons b l ih=>rw[Jl,zDp,ih];rfl
@[simp]theorem zMZ{α:Type} (l:List α) (f:α→Bool):zDp (l.map fun x=>P.bl (f x))=some (l.map f):=by
 have:=zOp (l.map f)
 rwa [Jm]at this
@[simp]theorem zTF{α:Type} (l:List α) (f:α→Bool):zDp (l.map (P.bl∘f))=some (l.map f):=zMZ l f
@[simp]theorem trusF_bl(b:Bool) (l:List P):zDp (.bl b::l)=(zDp l).map (b :: ·):=by
 rw[zDp];unfold truF;simp only;cases zDp l<;>rfl
@[simp]theorem trusF_int(b:Int) (l:List P):zDp (.int b::l)=(zDp l).map ((b != 0) :: ·):=by
 rw[zDp];unfold truF;simp only;cases zDp l<;>rfl
def maxR(o:Option (List Int)) (st:List Cell):Res W:=match o with
 |some l=>if 0<l.length then .ok (.p (.int (maxI l))) st else .no
 |none=>.no
@[simp]theorem maxR_e(l:List Int):maxR (some l) st=if 0<l.length then .ok (.p (.int (maxI l))) st else .no:=rfl
@[simp]theorem vMaxS_e(w:W):zG7 [w] st=maxR ((seqP st w).bind intsOf) st:=by unfold zG7 maxR;rfl
@[simp]theorem vMaxS_2(i j:Int):zG7 [.p (.int i),.p (.int j)] st=.ok (.p (.int (if j>i then j else i))) st:=rfl
def anyR(f:List Bool→Bool) (o:Option (List Bool)) (st:List Cell):Res W:=match o with
 |some bs=>.ok (.p (.bl (f bs))) st
 |none=>.no
@[simp]theorem anyR_e(f:List Bool→Bool) (bs:List Bool):anyR f (some bs) st=.ok (.p (.bl (f bs))) st:=rfl
@[simp]theorem vAnyG_e(f:List Bool→Bool) (w:W):zGy f [w] st=anyR f ((seqP st w).bind zDp) st:=by unfold zGy anyR;rfl
@[simp]theorem vInt_int(i:Int):vInt [.p (.int i)] st=.ok (.p (.int i)) st:=rfl
@[simp]theorem vInt_bl(k:Bool):vInt [.p (.bl k)] st=.ok (.p (.int (if k then 1 else 0))) st:=rfl
@[simp]theorem zS8(l:List P):zDW [.p (.tup l)] st=.ok (.p (.tup l)) st:=rfl
@[simp]theorem zTJ(l:List P):zDW [.p (.lst l)] st=.ok (.p (.tup l)) st:=rfl
def tupC(o:Option (List P)) (st:List Cell):Res W:=match o with
 |some l=>.ok (.p (.tup l)) st
 |none=>.no
@[simp]theorem tupC_e(l:List P):tupC (some l) st=.ok (.p (.tup l)) st:=rfl
@[simp]theorem vTupOf_r(i:Nat):zDW [.r i] st=tupC (seqC st[i]?) st:=by
 rw[←zLi];unfold zDW tupC;rfl
def lstR(o:Option (List P)) (st:List Cell):Res W:=match o with
 |some l=>.ok (.p (.lst l)) st
 |none=>.no
@[simp]theorem lstR_e(l:List P):lstR (some l) st=.ok (.p (.lst l)) st:=rfl
@[simp]theorem vLstOf_e(w:W):zGi [w] st=lstR (seqP st w) st:=by unfold zGi lstR;rfl
def zRv(o:Option (List P)) (st:List Cell):Res W:=match o with
 |some l=>.ok (.r st.length) (st++[.lst (l.map .p)])
 |none=>.no
@[simp]theorem lstCR_e(l:List P):zRv (some l) st=.ok (.r st.length) (st++[.lst (l.map .p)]):=rfl
@[simp]theorem vLstOfC_e(w:W):zFQ [w] st=zRv (seqP st w) st:=by unfold zFQ zRv;rfl
def frzR(j:Nat) (c:Option Cell) (st:List Cell):Res W:=match c with
 |some (.lst l)=>match pures l with
  |some m=>.ok (.p (.lst m)) (st.set j .dead)
  |none=>.no
 |_=>.no
def zSO(j:Nat) (o:Option (List P)) (st:List Cell):Res W:=match o with
  |some m=>.ok (.p (.lst m)) (st.set j .dead)
  |none=>.no
@[simp]theorem frzR2_e(j:Nat) (m:List P):zSO j (some m) st=.ok (.p (.lst m)) (st.set j .dead):=rfl
@[simp]theorem frzR_e(j:Nat) (l:List W):frzR j (some (.lst l)) st=zSO j (pures l) st:=rfl
def frzW(w:W) (st1:List Cell):Res W:=match w with
 | .p x=>.ok (.p x) st1
 | .r i=>frzR i st1[i]? st1
@[simp]theorem frzW_p(x:P):frzW (.p x) st=.ok (.p x) st:=rfl
@[simp]theorem frzW_r(i:Nat):frzW (.r i) st=frzR i st[i]? st:=rfl
@[simp]theorem mFrz_e(a:EM):mFrz a σ st=(a σ st).bind frzW:=by
 unfold mFrz frzW frzR;rfl
def tyC(c:Option Cell):Option String:=match c with
  |some (.lst _)=>some "list"
  |some (.dk _ _)=>some "dict"
  |_=>none
@[simp]theorem tyC_e(l:List W):tyC (some (.lst l))=some "list" := rfl
@[simp]theorem tyW_r(i:Nat):tyW st (.r i)=tyC st[i]?:=rfl
@[simp]theorem zRh(z:Str):tyW st (.p (.str z))=some "str" := rfl
def apC(i:Nat) (x:W) (c:Option Cell) (st:List Cell):Res W:=match c with
  |some (.lst l)=>if l.length<1000000 then .ok (.p .non) (st.set i (.lst (l++[x])))else .no
  |_=>.no
@[simp]theorem apC_e(i:Nat) (x:W) (l:List W):apC i x (some (.lst l)) st=if l.length<1000000 then .ok (.p .non) (st.set i (.lst (l++[x])))else .no:=rfl
@[simp]theorem vAppend_e(i:Nat) (x:W):zAs (.r i) [x] st=apC i x st[i]? st:=by unfold zAs apC;rfl
def insC(i:Nat) (k:Int) (x:W) (c:Option Cell) (st:List Cell):Res W:=match c with
  |some (.lst l)=>if l.length<1000000∧0≤k∧k≤1000000 then .ok (.p .non) (st.set i (.lst (l.take k.toNat++[x]++l.drop k.toNat)))else .no
  |_=>.no
@[simp]theorem insC_e(i:Nat) (k:Int) (x:W) (l:List W):insC i k x (some (.lst l)) st=if l.length<1000000∧0≤k∧k≤1000000 then .ok (.p .non) (st.set i (.lst (l.take k.toNat++[x]++l.drop k.toNat)))else .no:=rfl
@[simp]theorem vInsert_e(i:Nat) (k:Int) (x:W):zFV (.r i) [.p (.int k),x] st=insC i k x st[i]? st:=by unfold zFV insC;rfl
@[simp]theorem SR.nox_ok(f:Fl):(SR.ok f σ st).nox=.ok f σ st:=rfl
@[simp]theorem SR.nox_no:SR.no.nox=.no:=rfl
def kwF(F:FM) (ix:List Nat) (n:Nat) (us ws:List W) (st2:List Cell):Res W:=if ws.length=n then(zAM F (gI ix us ws) st2).nox else .no
@[simp]theorem kwF_e(F:FM) (ix:List Nat) (n:Nat) (us ws:List W):kwF F ix n us ws st=if ws.length=n then(zAM F (gI ix us ws) st).nox else .no:=rfl
@[simp]theorem mCallKw_e(F:FM) (ix:List Nat) (n:Nat) (a:AM):zIl F ix n a σ st=(a σ st).bind (kwF F ix n []):=rfl
@[simp]theorem gI_e(ix:List Nat) (us ws:List W):gI ix us ws=us++ix.filterMap fun i=>ws[i]?:=rfl
@[simp]theorem vEqB_int(n:Bool) (i j:Int):vEqB n (.p (.int i)) (.p (.int j)) st=.ok (.p (.bl (if n=true then !(i==j)else(i==j)))) st:=rfl
@[simp]theorem vEqB_bl(n:Bool) (i j:Bool):vEqB n (.p (.bl i)) (.p (.bl j)) st=.ok (.p (.bl (if n=true then !(i==j)else(i==j)))) st:=rfl
@[simp]theorem vEqB_str(n:Bool) (i j:Str):vEqB n (.p (.str i)) (.p (.str j)) st=.ok (.p (.bl (if n=true then !(i==j)else(i==j)))) st:=rfl
@[simp]theorem vIsN_non(n:Bool):vIsN n (.p .non) (.p .non) st=.ok (.p (.bl (!n))) st:=rfl
@[simp]theorem vIsN_bl(n b:Bool):vIsN n (.p (.bl b)) (.p .non) st=.ok (.p (.bl n)) st:=rfl
@[simp]theorem vIsN_int(n:Bool) (b:Int):vIsN n (.p (.int b)) (.p .non) st=.ok (.p (.bl n)) st:=rfl
@[simp]theorem vIsN_str(n:Bool) (b:Str):vIsN n (.p (.str b)) (.p .non) st=.ok (.p (.bl n)) st:=rfl
@[simp]theorem vIsN_tup(n:Bool) (b:List P):vIsN n (.p (.tup b)) (.p .non) st=.ok (.p (.bl n)) st:=rfl
@[simp]theorem vIsN_lst(n:Bool) (b:List P):vIsN n (.p (.lst b)) (.p .non) st=.ok (.p (.bl n)) st:=rfl
@[simp]theorem vIsN_obj(n:Bool) (c:Nat) (b:List P):vIsN n (.p (.obj c b)) (.p .non) st=.ok (.p (.bl n)) st:=rfl
@[simp]theorem vIsN_r(n:Bool) (i:Nat):vIsN n (.r i) (.p .non) st=.ok (.p (.bl n)) st:=rfl
@[simp]theorem vInB_tup(n:Bool) (x:Str) (l:List P) (h:l.all zEY=true):vInB n (.p (.str x)) (.p (.tup l)) st=.ok (.p (.bl (if n=true then !inP (.str x) l else inP (.str x) l))) st:=by
 unfold vInB;simp only[zP2];rw[JW ⟨rfl,h⟩]
@[simp]theorem vInB_lst(n:Bool) (x:Str) (l:List P) (h:l.all zEY=true):vInB n (.p (.str x)) (.p (.lst l)) st=.ok (.p (.bl (if n=true then !inP (.str x) l else inP (.str x) l))) st:=by
 unfold vInB;simp only[zO4];rw[JW ⟨rfl,h⟩]
@[simp]theorem flatP_str(s:Str):zEY (.str s)=true:=rfl
@[simp]theorem flatP_int(s:Int):zEY (.int s)=true:=rfl
@[simp]theorem flatP_bl(s:Bool):zEY (.bl s)=true:=rfl
@[simp]theorem flatP_non:zEY .non=true:=rfl
@[simp]theorem inP_nil(x:P):inP x []=false:=rfl
@[simp]theorem zPM(x y:P) (l:List P):inP x (y::l)=(eqF y x||inP x l):=rfl
@[simp]theorem eqF_str(x y:Str):eqF (.str x) (.str y)=(x==y):=rfl
@[simp]theorem eqF_int(x y:Int):eqF (.int x) (.int y)=(x==y):=rfl
@[simp]theorem vAdd_lst(l m:List P):vAdd (.p (.lst l)) (.p (.lst m)) st=if l.length+m.length≤1000000 then .ok (.p (.lst (l++m))) st else .no:=rfl
@[simp]theorem vAdd_tup(l m:List P):vAdd (.p (.tup l)) (.p (.tup m)) st=if l.length+m.length≤1000000 then .ok (.p (.tup (l++m))) st else .no:=rfl
@[simp]theorem vAdd_str(l m:Str):vAdd (.p (.str l)) (.p (.str m)) st=if l.length+m.length≤1000000 then .ok (.p (.str (l++m))) st else .no:=rfl
@[simp]theorem vIadd_str(l m:Str):zIO (.p (.str l)) (.p (.str m)) st=if l.length+m.length≤1000000 then .ok (.p (.str (l++m))) st else .no:=rfl
@[simp]theorem Str.len_append(a b:Str):(a++b).length=a.length+b.length:=by
 show(a.cps++b.cps).size=_;rw[Array.size_append];rfl
@[simp]theorem Str.len_empty:Str.empty.length=0:=rfl
def okP:Nat→P→Bool
 |_,.non=>true
 |_,.bl _=>true
 |_,.int _=>true
 |_,.str s=>PyData.strOk s
 |n+1,.tup l=>l.all (okP n)
 |n+1,.lst l=>l.all (okP n)
 |_,_=>false
theorem zJr{n:Nat} (ih:∀x,okP n x=true→∃d,toD x=some d∧d.canLay0=true∧d.depth≤n):∀ {l:List P},l.all (okP n)=true→∃ds,toDs l=some ds∧PyData.canLayAll0 ds=true∧PyData.depthAll ds≤n∧ds.length=l.length
 |[],_=>⟨[],rfl,rfl,J3 _,rfl⟩
 |x::l,h=>by
  rw[jj,Js]at h;obtain⟨d,e1,e2,e3⟩:=ih x h.1;obtain⟨ds,f1,f2,f3,f4⟩:=zJr ih h.2;refine⟨d::ds,by rw[toDs,e1,f1],?_,?_,by simp[f4]⟩
  ·rw[PyData.canLayAll0,e2,f2];rfl
  ·rw[PyData.depthAll];exact Nat.max_le.mpr ⟨e3,f3⟩
theorem zKS:∀(n:Nat) (x:P),okP n x=true→∃d,toD x=some d∧d.canLay0=true∧d.depth≤n
 |n,.non,_=>⟨.none,by rw[toD],by rw[PyData.canLay0],by rw[PyData.depth];exact J3 _⟩
 |n,.bl b,_=>⟨.bool b,by rw[toD],by rw[PyData.canLay0],by rw[PyData.depth];exact J3 _⟩
 |n,.int i,_=>⟨.int i,by rw[toD],by rw[PyData.canLay0],by rw[PyData.depth];exact J3 _⟩
 |n,.str s,h=>⟨.str s,by rw[toD],by
   rw[PyData.canLay0];cases n<;>(rw[okP]at h;exact h),by rw[PyData.depth];exact J3 _⟩
 |0,.tup l,h=>by rw[okP]at h<;>first|cases h|(intros;contradiction)
 |0,.lst l,h=>by rw[okP]at h<;>first|cases h|(intros;contradiction)
 |n+1,.tup l,h=>by
  rw[okP]at h;obtain⟨ds,f1,f2,f3,f4⟩:=zJr (zKS n) h;refine⟨.tuple ds,by rw[toD,f1],by rw[PyData.canLay0];exact f2,?_⟩
  rw[PyData.depth];omega
 |n+1,.lst l,h=>by
  rw[okP]at h;obtain⟨ds,f1,f2,f3,f4⟩:=zJr (zKS n) h;refine⟨.list ds,by rw[toD,f1],by rw[PyData.canLay0];exact f2,?_⟩
  rw[PyData.depth];omega
 |n,.scr _,h=>by cases n<;>(rw[okP]at h<;>first|cases h|(intros;contradiction))
 |n,.dk _ _,h=>by cases n<;>(rw[okP]at h<;>first|cases h|(intros;contradiction))
 |n,.obj _ _,h=>by cases n<;>(rw[okP]at h<;>first|cases h|(intros;contradiction))
 |n,.exn _ _,h=>by cases n<;>(rw[okP]at h<;>first|cases h|(intros;contradiction))
 |n,.lam _ _,h=>by cases n<;>(rw[okP]at h<;>first|cases h|(intros;contradiction))
 |n,.cls _,h=>by cases n<;>(rw[okP]at h<;>first|cases h|(intros;contradiction))
 |n,.fd _ _,h=>by cases n<;>(rw[okP]at h<;>first|cases h|(intros;contradiction))
 |n,.fn _ _,h=>by cases n<;>(rw[okP]at h<;>first|cases h|(intros;contradiction))
mutual
def pEq:P→P→Bool
 | .non,.non=>true
 | .bl a,.bl b=>a==b
 | .bl a,.int j=>(if a then 1 else 0)==j
 | .int i,.bl b=>i==(if b then 1 else 0)
 | .int i,.int j=>i==j
 | .str x,.str y=>x==y
 | .lst l,.lst m=>pEqs l m
 | .tup l,.tup m=>pEqs l m
 |_,_=>false
def pEqs:List P→List P→Bool
 |[],[]=>true
 |x::l,y::m=>pEq x y&&pEqs l m
 |_,_=>false
end
@[simp]theorem okP_non(n:Nat):okP n .non=true:=by cases n<;>rfl
@[simp]theorem okP_bl(n:Nat) (b:Bool):okP n (.bl b)=true:=by cases n<;>rfl
@[simp]theorem okP_int(n:Nat) (b:Int):okP n (.int b)=true:=by cases n<;>rfl
@[simp]theorem okP_str(n:Nat) (b:Str):okP n (.str b)=PyData.strOk b:=by cases n<;>rfl
@[simp]theorem zRt{n:Nat} (h:0<n) (l:List P):okP n (.tup l)=l.all (okP (n-1)):=by
 cases n with
 |zero=>omega
 |succ n=>rfl
@[simp]theorem zNu{n:Nat} (h:0<n) (l:List P):okP n (.lst l)=l.all (okP (n-1)):=by
 cases n with
 |zero=>omega
 |succ n=>rfl
@[simp]theorem strOk_ofS(a:String):PyData.strOk (Str.ofString a)=true:=by
 rw[Yf];unfold PyData.strOk;simp only[List.all_toArray,VR,Jp];intro c _;have h:=c.valid;simp only[Function.comp_apply,Jz];show c.val.toNat<_;rcases h with h|⟨_,h⟩
 ·have:c.val.toNat<55296:=h
  omega
 ·have:c.val.toNat<1114112:=h
  omega
@[simp]theorem pEqs_nil:pEqs [] []=true:=by rw[pEqs]
@[simp]theorem zIx(x y:P) (l m:List P):pEqs (x::l) (y::m)=(pEq x y&&pEqs l m):=by rw[pEqs]
@[simp]theorem pEqs_nc(y:P) (m:List P):pEqs [] (y::m)=false:=by rw[pEqs]<;>simp
@[simp]theorem pEqs_cn(y:P) (m:List P):pEqs (y::m) []=false:=by rw[pEqs]<;>simp
@[simp]theorem pEq_int(i j:Int):pEq (.int i) (.int j)=(i==j):=by rw[pEq]
@[simp]theorem pEq_str(i j:Str):pEq (.str i) (.str j)=(i==j):=by rw[pEq]
@[simp]theorem pEq_bl(i j:Bool):pEq (.bl i) (.bl j)=(i==j):=by rw[pEq]
@[simp]theorem zSS(i j:List P):pEq (.tup i) (.tup j)=pEqs i j:=by rw[pEq]
@[simp]theorem zNP(i j:List P):pEq (.lst i) (.lst j)=pEqs i j:=by rw[pEq]
theorem zEQ{n:Nat} (hn:n≤64){x:P} (h:okP n x=true):∃d,toD x=some d∧SeqAt.shaped d=true:=by
 obtain⟨d,e1,e2,e3⟩:=zKS n x h;exact⟨d,e1,by unfold SeqAt.shaped;rw[e2,JD (Vs e3 hn)];rfl⟩
mutual
theorem zKW:∀ {x y:P}{d e:PyData},toD x=some d→toD y=some e→PyData.eqv d e=pEq x y
 |x,y,d,e,hx,hy=>by
  cases x with
  |non=>rw[toD]at hx;cases hx;cases y<;>simp only[toD]at hy<;>first|(cases hy;rw[PyData.eqv,pEq]<;>simp)|(split at hy<;>cases hy<;>(rw[PyData.eqv,pEq]<;>simp))|cases hy
  |bl b=>rw[toD]at hx;cases hx;cases y<;>simp only[toD]at hy<;>first|(cases hy;rw[PyData.eqv,pEq]<;>simp)|(split at hy<;>cases hy<;>(rw[PyData.eqv,pEq]<;>simp))|cases hy
  |int i=>rw[toD]at hx;cases hx;cases y<;>simp only[toD]at hy<;>first|(cases hy;rw[PyData.eqv,pEq]<;>simp)|(split at hy<;>cases hy<;>(rw[PyData.eqv,pEq]<;>simp))|cases hy
  |str z=>rw[toD]at hx;cases hx;cases y<;>simp only[toD]at hy<;>first|(cases hy;rw[PyData.eqv,pEq]<;>simp)|(split at hy<;>cases hy<;>(rw[PyData.eqv,pEq]<;>simp))|cases hy
  |tup l =>
   rw[toD]at hx;split at hx
   ·rename_i ds e1
    cases hx;cases y with
    |tup m =>
     rw[toD]at hy;split at hy
     ·rename_i es e2
      cases hy;rw[PyData.eqv,pEq,zH1 e1 e2]
     ·cases hy
    |lst m=>rw[toD]at hy;split at hy<;>cases hy;rw[PyData.eqv,pEq]<;>simp
    |non=>rw[toD]at hy;cases hy;rw[PyData.eqv,pEq]<;>simp
    |bl b=>rw[toD]at hy;cases hy;rw[PyData.eqv,pEq]<;>simp
    |int b=>rw[toD]at hy;cases hy;rw[PyData.eqv,pEq]<;>simp
    |str b=>rw[toD]at hy;cases hy;rw[PyData.eqv,pEq]<;>simp
    |scr b=>rw[toD]at hy;cases hy
    |dk b c=>rw[toD]at hy;cases hy
    |obj b c=>rw[toD]at hy;cases hy
    |exn b c=>rw[toD]at hy;cases hy
    |lam b c=>rw[toD]at hy;cases hy
    |cls b=>rw[toD]at hy;cases hy
    |fd _ _=>rw[toD]at hy;cases hy
    |fn _ _=>rw[toD]at hy;cases hy
   ·cases hx
  |lst l =>
   rw[toD]at hx;split at hx
   ·rename_i ds e1
    cases hx;cases y with
    |lst m =>
     rw[toD]at hy;split at hy
     ·rename_i es e2
      cases hy;rw[PyData.eqv,pEq,zH1 e1 e2]
     ·cases hy
    |tup m=>rw[toD]at hy;split at hy<;>cases hy;rw[PyData.eqv,pEq]<;>simp
    |non=>rw[toD]at hy;cases hy;rw[PyData.eqv,pEq]<;>simp
    |bl b=>rw[toD]at hy;cases hy;rw[PyData.eqv,pEq]<;>simp
    |int b=>rw[toD]at hy;cases hy;rw[PyData.eqv,pEq]<;>simp
    |str b=>rw[toD]at hy;cases hy;rw[PyData.eqv,pEq]<;>simp
    |scr b=>rw[toD]at hy;cases hy
    |dk b c=>rw[toD]at hy;cases hy
    |obj b c=>rw[toD]at hy;cases hy
    |exn b c=>rw[toD]at hy;cases hy
    |lam b c=>rw[toD]at hy;cases hy
    |cls b=>rw[toD]at hy;cases hy
    |fd _ _=>rw[toD]at hy;cases hy
    |fn _ _=>rw[toD]at hy;cases hy
   ·cases hx
  |scr _=>rw[toD]at hx;cases hx
  |dk _ _=>rw[toD]at hx;cases hx
  |obj _ _=>rw[toD]at hx;cases hx
  |exn _ _=>rw[toD]at hx;cases hx
  |lam _ _=>rw[toD]at hx;cases hx
  |cls _=>rw[toD]at hx;cases hx
  |fd _ _=>rw[toD]at hx;cases hx
  |fn _ _=>rw[toD]at hx;cases hx
theorem zH1:∀ {l m:List P}{ds es:List PyData},toDs l=some ds→toDs m=some es→PyData.eqvAll ds es=pEqs l m
 |[],[],ds,es,h1,h2=>by rw[toDs]at h1 h2;cases h1;cases h2;rw[PyData.eqvAll,pEqs]
 |[],y::m,ds,es,h1,h2=>by
  rw[toDs]at h1;rw[toDs]at h2;cases h1;split at h2
  ·cases h2;rw[PyData.eqvAll,pEqs]<;>simp
  ·cases h2
 |x::l,[],ds,es,h1,h2=>by
  rw[toDs]at h1;rw[toDs]at h2;cases h2;split at h1
  ·cases h1;rw[PyData.eqvAll,pEqs]<;>simp
  ·cases h1
 |x::l,y::m,ds,es,h1,h2=>by
  rw[toDs]at h1;rw[toDs]at h2;split at h1
  ·rename_i d ds' e1 e2
   cases h1;split at h2
   ·rename_i e es' f1 f2
    cases h2;rw[PyData.eqvAll,pEqs,zKW e1 f1,zH1 e2 f2]
   ·cases h2
  ·cases h1
end
theorem zCi{n:Bool}{x y:P} (h:okP 64 x=true) (h2:okP 64 y=true):vEqB n (.p x) (.p y) st=.ok (.p (.bl (if n=true then !pEq x y else pEq x y))) st:=by
 obtain⟨d,e1,e2⟩:=zEQ (JH _) h;obtain⟨e,f1,f2⟩:=zEQ (JH _) h2;unfold vEqB;cases hs:eqW (.p x) (.p y)with
 |some k =>
  have:pEq x y=k:=by
   have hs:eqS x y=some k:=hs;cases x<;>cases y<;>first|(unfold eqS at hs;cases hs;done)|(cases hs;rw[pEq]<;>simp)
  rw[this]
 |none =>
  unfold unD;simp only[unC_p,bP,e1,f1];rw[JW ⟨e2,f2⟩,zKW e1 f1]
@[simp]theorem dkGet_nil(l:List P) (k:Key):dkGet [] l k=none:=rfl
@[simp]theorem zTI(k0:Key) (ks:List Key) (x:P) (l:List P) (k:Key):dkGet (k0::ks) (x::l) k=if k0=k then some x else dkGet ks l k:=by
 unfold dkGet;rw[JY,VT]
 by_cases h:k0=k<;>simp[h]
theorem zMF(l:List Str):strsOf (l.map P.str)=some l:=by
 induction l with
 |nil=>rfl
 |cons b l ih=>rw[Jl,strsOf,ih]
@[simp]theorem zTN:strsOf []=some []:=rfl
@[simp]theorem zSa(s:Str) (l:List P):strsOf (.str s::l)=(strsOf l).map (s :: ·):=by
 rw[strsOf];cases strsOf l<;>rfl
@[simp]theorem zGW{α:Type} (l:List α) (f:α→Str):strsOf (l.map fun x=>P.str (f x))=some (l.map f):=by
 have:=zMF (l.map f)
 rwa [Jm]at this
@[simp]theorem zSN{α:Type} (l:List α) (f:α→Str):strsOf (l.map (P.str∘f))=some (l.map f):=zGW l f
def joinR(a:Str) (o:Option (List Str)) (st:List Cell):Res W:=match o with
 |some ys=>if(ys.map (·.length)).sum+ys.length*a.length≤1000000 then .ok (.p (.str (Txt.join a ys))) st else .no
 |none=>.no
@[simp]theorem joinR_e(a:Str) (ys:List Str):joinR a (some ys) st=if(ys.map (·.length)).sum+ys.length*a.length≤1000000 then .ok (.p (.str (Txt.join a ys))) st else .no:=rfl
@[simp]theorem zS3(a:Str) (w:W):zFv (.p (.str a)) [w] st=joinR a ((seqP st w).bind strsOf) st:=by unfold zFv joinR;rfl
def forL(t:Tg) (b:SMm):List W→Sg→List Cell→SR
 |[],σ,st=>.ok .nx σ st
 |w::l,σ,st=>match t.put w σ with
  |none=>.no
  |some σ1=>match b σ1 st with
    | .ok .nx σ2 st2=>forL t b l σ2 st2
    | .ok .ct σ2 st2=>forL t b l σ2 st2
    | .ok .bk σ2 st2=>.ok .nx σ2 st2
    |r=>r
theorem zMt{l:List W} (get:List Cell→Nat→Option (Option W)) (t:Tg) (b:SMm) (n0:Nat) (hg:∀st i,i≤l.length→get st i=some l[i]?):∀(n i:Nat) (σ:Sg) (st:List Cell),i≤l.length→l.length-i<n→forF ⟨get,n0⟩ t b n i σ st=forL t b (l.drop i) σ st:=by
 intro n
 induction n with
 |zero=>intro i σ st hi h;omega
 |succ n ih =>
  intro i σ st hi h;rw[forF];show(match get st i with|none=>SR.no|some none=>.ok .nx σ st|some (some w)=>_)=_
  rw[hg st i hi]
  by_cases hl:i<l.length
  ·rw[Ja hl,Vi hl,forL];simp only;cases t.put l[i] σ with
   |none=>rfl
   |some σ1 =>
    simp only;have e:∀σ2 st2,forF ⟨get,n0⟩ t b n (i+1) σ2 st2=forL t b (l.drop (i+1)) σ2 st2:=fun σ2 st2=>ih (i+1) σ2 st2 ∅ ∅
    cases b σ1 st with
    |ok f σ2 st2=>cases f<;>simp only[e]
    |exc _ _ _=>rfl
    |no=>rfl
  ·rw[Jt ∅,Vl ∅,forL]
theorem zOE(l:List W) (t:Tg) (b:SMm) (σ:Sg) (st:List Cell):forF (srcL l) t b (l.length+1) 0 σ st=forL t b l σ st:=by
 have:=zMt (l:=l) (fun _ i=>some l[i]?) t b l.length (fun _ _ _=>rfl) (l.length+1) 0 σ st ∅ ∅
 rw[VE]at this;exact this
theorem zN5(l:List W) (t:Tg) (b:SMm) (σ:Sg) (st:List Cell):forF (srcZ l) t b (l.length+1) 0 σ st=forL t b l σ st:=by
 have:=zMt (l:=l) (fun _ i=>if i≤l.length then some l[i]? else none) t b l.length (fun _ i hi=>JW hi) (l.length+1) 0 σ st ∅ ∅
 rw[VE]at this;exact this
@[simp]theorem zQ8(l:List W):(srcL l).n=l.length:=rfl
@[simp]theorem zQq(l:List W):(srcZ l).n=l.length:=rfl
def zMO(t:Tg) (b:SMm) (σ:Sg) (src:Src) (st1:List Cell):SR:=forF src t b (src.n+1) 0 σ st1
theorem zIT(t:Tg) (b:SMm) (src:Src):zMO t b σ src st=forF src t b (src.n+1) 0 σ st:=rfl
@[simp]theorem sFor_e(m:IM) (t:Tg) (b:SMm):sFor m t b σ st=(m σ st).to σ (zMO t b σ):=rfl
def forK(t:Tg) (b:SMm) (l:List W) (r:SR):SR:=match r with
    | .ok .nx σ2 st2=>forL t b l σ2 st2
    | .ok .ct σ2 st2=>forL t b l σ2 st2
    | .ok .bk σ2 st2=>.ok .nx σ2 st2
    |r=>r
def forP(t:Tg) (b:SMm) (l:List W) (st:List Cell) (o:Option Sg):SR:=match o with
 |none=>.no
 |some σ1=>forK t b l (b σ1 st)
@[simp]theorem zDL(t:Tg) (b:SMm):forL t b [] σ st=.ok .nx σ st:=rfl
@[simp]theorem zAn(t:Tg) (b:SMm) (w:W) (l:List W):forL t b (w::l) σ st=forP t b l st (t.put w σ):=by
 rw[forL];unfold forP forK;rfl
@[simp]theorem forP_e(t:Tg) (b:SMm) (l:List W):forP t b l st (some σ)=forK t b l (b σ st):=rfl
@[simp]theorem forK_nx(t:Tg) (b:SMm) (l:List W):forK t b l (.ok .nx σ st)=forL t b l σ st:=rfl
@[simp]theorem forK_ct(t:Tg) (b:SMm) (l:List W):forK t b l (.ok .ct σ st)=forL t b l σ st:=rfl
@[simp]theorem forK_bk(t:Tg) (b:SMm) (l:List W):forK t b l (.ok .bk σ st)=.ok .nx σ st:=rfl
@[simp]theorem forK_rt(t:Tg) (b:SMm) (l:List W) (w:W):forK t b l (.ok (.rt w) σ st)=.ok (.rt w) σ st:=rfl
@[simp]theorem forK_no(t:Tg) (b:SMm) (l:List W):forK t b l .no=.no:=rfl
@[simp]theorem forK_ite(t:Tg) (b:SMm) (l:List W){c:Prop} [Decidable c] (x y:SR):forK t b l (if c then x else y)=if c then forK t b l x else forK t b l y:=by split<;>rfl
def zS1(b:SMm) (st:List Cell) (o:Option Sg):SR:=match o with
 |some σ1=>b σ1 st
 |none=>.no
@[simp]theorem zKf(b:SMm):zS1 b st (some σ)=b σ st:=rfl
def zFW(t:Tg) (b:SMm) (w:W) (σ:Sg) (st:List Cell):SR:=zS1 b st (t.put w σ)
@[simp]theorem zLG(i:Nat) (b:SMm) (w:W):zFW (.nm i) b w σ st=b (σ.set i (some w)) st:=by unfold zFW;simp
@[simp]theorem stepS_tp(ts:List Tg) (b:SMm) (l:List P):zFW (.tp ts) b (.p (.tup l)) σ st=zS1 b st (Tg.puts ts l σ):=by unfold zFW;simp
def Sq(I:Sg→List Cell→Prop) (F:SR→Prop) (r:SR):Prop:=match r with
 | .ok .nx σ st=>I σ st
 | .ok .ct σ st=>I σ st
 | .ok .bk σ st=>F (.ok .nx σ st)
 | .ok (.rt w) σ st=>F (.ok (.rt w) σ st)
 |_=>False
@[simp]theorem Sq_nx(I:Sg→List Cell→Prop) (F:SR→Prop):Sq I F (.ok .nx σ st)=I σ st:=rfl
@[simp]theorem Sq_ct(I:Sg→List Cell→Prop) (F:SR→Prop):Sq I F (.ok .ct σ st)=I σ st:=rfl
@[simp]theorem Sq_bk(I:Sg→List Cell→Prop) (F:SR→Prop):Sq I F (.ok .bk σ st)=F (.ok .nx σ st):=rfl
@[simp]theorem Sq_rt(I:Sg→List Cell→Prop) (F:SR→Prop) (w:W):Sq I F (.ok (.rt w) σ st)=F (.ok (.rt w) σ st):=rfl
@[simp]theorem Sq_no(I:Sg→List Cell→Prop) (F:SR→Prop):Sq I F .no=False:=rfl
@[simp]theorem Sq_ite(I:Sg→List Cell→Prop) (F:SR→Prop){c:Prop} [Decidable c] (a b:SR):Sq I F (if c then a else b)=if c then Sq I F a else Sq I F b:=by split<;>rfl
theorem zAm{t:Tg}{b:SMm} (F:SR→Prop) (I:Nat→Sg→List Cell→Prop):∀ {l:List W}{σ:Sg}{st:List Cell},I 0 σ st →
  (∀(i:Nat) (w:W) σ st,l[i]?=some w→I i σ st→Sq (I (i+1)) F (zFW t b w σ st))→(∀σ st,I l.length σ st→F (.ok .nx σ st))→F (forL t b l σ st):=by
 have go:∀ {l:List W}{k:Nat}{σ:Sg}{st:List Cell},I k σ st→(∀(i:Nat) (w:W) σ st,l[i]?=some w→I (k+i) σ st→Sq (I (k+i+1)) F (zFW t b w σ st))→(∀σ st,I (k+l.length) σ st→F (.ok .nx σ st))→F (forL t b l σ st):=by
  intro l
  induction l with
  |nil=>intro k σ st h _ e;exact e σ st h
  |cons w l ih =>
   intro k σ st h s e;have s0:=s 0 w σ st rfl h;rw[zAn];unfold zFW at s0;cases ep:t.put w σ with
   |none=>rw[ep]at s0;exact s0.elim
   |some σ1 =>
    rw[ep,zKf]at s0;rw[forP_e]
    have nxt:∀σ2 st2,I (k+0+1) σ2 st2→F (forL t b l σ2 st2):=fun σ2 st2 h2=>ih (k:=k+0+1) h2
     (fun i w' σ' st' g g2=>by
      have:=s (i+1) w' σ' st' (by simpa using g) (by rw[show k+(i+1)=k+0+1+i by omega];exact g2)
      rw[show k+(i+1)+1=k+0+1+i+1 by omega]at this
      exact this)
     (fun σ' st' g=>e σ' st' (by rw[JJ,show k+(l.length+1)=k+0+1+l.length by omega];exact g))
    cases hr:b σ1 st with
    |ok f σ2 st2 =>
     rw[hr]at s0;cases f with
     |nx=>exact nxt σ2 st2 s0
     |ct=>exact nxt σ2 st2 s0
     |bk=>exact s0
     |rt v=>exact s0
    |exc _ _ _=>rw[hr]at s0;exact s0.elim
    |no=>rw[hr]at s0;exact s0.elim
 intro l σ st h s e;refine go (k:=0) h (fun i w σ st g g2=>?_) (fun σ st g=>e σ st (by rw[Yz]at g;exact g))
 rw[Yz]at g2 ⊢;exact s i w σ st g g2
def lcL(t:Tg) (c:TM) (e:EM) (σ0:Sg):List W→List Cell→Res (List W)
 |[],st=>.ok [] st
 |w::l,st=>match t.put w σ0 with
   |none=>.no
   |some σ1=>(c σ1 st).nox.bind fun k st1=>if k=true then(e σ1 st1).nox.bind fun w st2=>(lcL t c e σ0 l st2).bind fun ws st3=>.ok (w::ws) st3 else lcL t c e σ0 l st1
theorem zQU{l:List W} (get:List Cell→Nat→Option (Option W)) (t:Tg) (c:TM) (e:EM) (σ0:Sg) (n0:Nat) (hg:∀st i,i≤l.length→get st i=some l[i]?):∀(n i:Nat) (st:List Cell),i≤l.length→l.length-i<n→lcF ⟨get,n0⟩ t c e σ0 n i st=lcL t c e σ0 (l.drop i) st:=by
 intro n
 induction n with
 |zero=>intro i st hi h;omega
 |succ n ih =>
  intro i st hi h;rw[lcF];show(match get st i with|none=>Res.no|some none=>.ok [] st|some (some w)=>_)=_
  rw[hg st i hi]
  by_cases hl:i<l.length
  ·rw[Ja hl,Vi hl,lcL];simp only;cases t.put l[i] σ0 with
   |none=>rfl
   |some σ1 =>
    simp only
    congr 1;funext k st1
    rw[ih (i+1) st1 ∅ ∅]
    by_cases hk:k=true
    ·rw[JW hk,JW hk]
     congr 1;funext w st2
     rw[ih (i+1) st2 ∅ ∅]
    ·rw[Vh hk,Vh hk]
  ·rw[Jt ∅,Vl ∅,lcL]
theorem zOw(l:List W) (t:Tg) (c:TM) (e:EM) (σ0:Sg) (st:List Cell):lcF (srcL l) t c e σ0 (l.length+1) 0 st=lcL t c e σ0 l st:=by
 have:=zQU (l:=l) (fun _ i=>some l[i]?) t c e σ0 l.length (fun _ _ _=>rfl) (l.length+1) 0 st ∅ ∅
 rw[VE]at this;exact this
theorem zO1(l:List W) (t:Tg) (c:TM) (e:EM) (σ0:Sg) (st:List Cell):lcF (srcZ l) t c e σ0 (l.length+1) 0 st=lcL t c e σ0 l st:=by
 have:=zQU (l:=l) (fun _ i=>if i≤l.length then some l[i]? else none) t c e σ0 l.length (fun _ i hi=>JW hi) (l.length+1) 0 st ∅ ∅
 rw[VE]at this;exact this
def lcK(t:Tg) (vs:List Nat) (c:TM) (e:EM) (fin:List W→List Cell→Res W) (σ:Sg) (src:Src) (st1:List Cell):Res W:=if src.n≤1000000 then(lcF src t c e (zAv σ vs) (src.n+1) 0 st1).bind fin else .no
theorem zNA(t:Tg) (vs:List Nat) (c:TM) (e:EM) (fin:List W→List Cell→Res W) (src:Src):lcK t vs c e fin σ src st=if src.n≤1000000 then(lcF src t c e (zAv σ vs) (src.n+1) 0 st).bind fin else .no:=rfl
@[simp]theorem mLc_e(m:IM) (t:Tg) (vs:List Nat) (c:TM) (e:EM) (fin:List W→List Cell→Res W):mLc m t vs c e fin σ st=(m σ st).bind (lcK t vs c e fin σ):=rfl
@[simp]theorem lcK_L(t:Tg) (vs:List Nat) (c:TM) (e:EM) (fin:List W→List Cell→Res W) (l:List W):lcK t vs c e fin σ (srcL l) st=if l.length≤1000000 then(lcL t c e (zAv σ vs) l st).bind fin else .no:=by
 rw[zNA,zQ8,zOw]
@[simp]theorem lcK_Z(t:Tg) (vs:List Nat) (c:TM) (e:EM) (fin:List W→List Cell→Res W) (l:List W):lcK t vs c e fin σ (srcZ l) st=if l.length≤1000000 then(lcL t c e (zAv σ vs) l st).bind fin else .no:=by
 rw[zNA,zQq,zO1]
@[simp]theorem sforK_L(t:Tg) (b:SMm) (l:List W):zMO t b σ (srcL l) st=forL t b l σ st:=by
 rw[zIT,zQ8,zOE]
@[simp]theorem sforK_Z(t:Tg) (b:SMm) (l:List W):zMO t b σ (srcZ l) st=forL t b l σ st:=by
 rw[zIT,zQq,zN5]
@[simp]theorem zNy:mYes σ st=.ok true st:=rfl
@[simp]theorem wipeS_nil:zAv σ []=σ:=rfl
@[simp]theorem zTD(v:Nat) (vs:List Nat):zAv σ (v::vs)=(zAv σ vs).set v none:=rfl
@[simp]theorem finP_e(ws:List W):finP ws st=pR (fun l=>.p (.lst l)) (pures ws) st:=by unfold finP pR;rfl
@[simp]theorem finC_e(ws:List W):finC ws st=.ok (.r st.length) (st++[.lst ws]):=rfl
def lcP(t:Tg) (c:TM) (e:EM) (σ0:Sg) (l:List W) (st:List Cell) (o:Option Sg):Res (List W):=match o with
 |none=>.no
 |some σ1=>(c σ1 st).nox.bind fun k st1=>if k=true then(e σ1 st1).nox.bind fun w st2=>(lcL t c e σ0 l st2).bind fun ws st3=>.ok (w::ws) st3 else lcL t c e σ0 l st1
@[simp]theorem lcL_nil(t:Tg) (c:TM) (e:EM) (σ0:Sg):lcL t c e σ0 [] st=.ok [] st:=rfl
@[simp]theorem zE5(t:Tg) (c:TM) (e:EM) (σ0:Sg) (w:W) (l:List W):lcL t c e σ0 (w::l) st=lcP t c e σ0 l st (t.put w σ0):=by
 rw[lcL];unfold lcP;rfl
def lcC2(t:Tg) (c:TM) (e:EM) (σ0:Sg) (l:List W) (w:W) (st2:List Cell):Res (List W):=(lcL t c e σ0 l st2).bind (zHd w)
@[simp]theorem zNX(t:Tg) (c:TM) (e:EM) (σ0:Sg) (l:List W) (w:W):lcC2 t c e σ0 l w st=(lcL t c e σ0 l st).bind (zHd w):=rfl
def lcC(t:Tg) (c:TM) (e:EM) (σ0:Sg) (l:List W) (σ:Sg) (k:Bool) (st1:List Cell):Res (List W):=if k=true then(e σ st1).nox.bind (lcC2 t c e σ0 l)else lcL t c e σ0 l st1
@[simp]theorem zRz(t:Tg) (c:TM) (e:EM) (σ0:Sg) (l:List W) (k:Bool):lcC t c e σ0 l σ k st=if k=true then(e σ st).nox.bind (lcC2 t c e σ0 l)else lcL t c e σ0 l st:=rfl
@[simp]theorem zNl(t:Tg) (c:TM) (e:EM) (σ0:Sg) (l:List W):lcP t c e σ0 l st (some σ)=(c σ st).nox.bind (lcC t c e σ0 l σ):=rfl
def El(I:W→List Cell→Prop) (r:Res W):Prop:=match r with
 | .ok w st=>I w st
 |_=>False
@[simp]theorem El_ok(I:W→List Cell→Prop) (w:W):El I (.ok w st)=I w st:=rfl
@[simp]theorem El_no(I:W→List Cell→Prop):El I .no=False:=rfl
@[simp]theorem El_ite(I:W→List Cell→Prop){c:Prop} [Decidable c] (a b:Res W):El I (if c then a else b)=if c then El I a else El I b:=by split<;>rfl
def zRG(e:EM) (st:List Cell) (o:Option Sg):Res W:=match o with
 |some σ1=>e σ1 st
 |none=>.no
@[simp]theorem zSc(e:EM):zRG e st (some σ)=e σ st:=rfl
def zJ9(t:Tg) (e:EM) (w:W) (σ:Sg) (st:List Cell):Res W:=zRG e st (t.put w σ)
@[simp]theorem stepE_nm(i:Nat) (e:EM) (w:W):zJ9 (.nm i) e w σ st=e (σ.set i (some w)) st:=by unfold zJ9;simp
@[simp]theorem stepE_tp(ts:List Tg) (e:EM) (l:List P):zJ9 (.tp ts) e (.p (.tup l)) σ st=zRG e st (Tg.puts ts l σ):=by unfold zJ9;simp
theorem zHt{t:Tg}{e:EM}{σ0:Sg} (F:Res (List W)→Prop) (I:Nat→List W→List Cell→Prop){l:List W}{st:List Cell} (h:I 0 [] st)
  (s:∀(i:Nat) (w:W) acc st,l[i]?=some w→acc.length=i→I i acc st→El (fun x st'=>I (i+1) (acc++[x]) st') (zJ9 t e w σ0 st)) (he:∀ws st,ws.length=l.length→I l.length ws st→F (.ok ws st)):F (lcL t mYes e σ0 l st):=by
 have go:∀ {l:List W}{k:Nat}{acc:List W}{st:List Cell},acc.length=k→I k acc st→(∀(i:Nat) (w:W) acc st,l[i]?=some w→acc.length=k+i→I (k+i) acc st→El (fun x st'=>I (k+i+1) (acc++[x]) st') (zJ9 t e w σ0 st))→∃ws st2,lcL t mYes e σ0 l st=.ok ws st2∧(acc++ws).length=k+l.length∧I (k+l.length) (acc++ws) st2:=by
  intro l
  induction l with
  |nil=>intro k acc st ha h _;exact⟨[],st,rfl,by simpa using ha,by simpa using h⟩
  |cons w l ih =>
   intro k acc st ha h s;have s0:=s 0 w acc st rfl ha h;rw[zE5];unfold zJ9 at s0;cases ep:t.put w σ0 with
   |none=>rw[ep]at s0;exact s0.elim
   |some σ1 =>
    rw[ep,zSc]at s0;cases hr:e σ1 st with
    |ok x st2 =>
     rw[hr]at s0
     obtain⟨ws,st3,e1,e2,e3⟩:=ih (k:=k+0+1) (acc:=acc++[x]) (st:=st2) (by simp[ha]) s0 fun i w' acc' st' g ga g2=>by
      have:=s (i+1) w' acc' st' (by simpa using g) ∅ (by rw[show k+(i+1)=k+0+1+i by omega];exact g2)
      rw[show k+(i+1)+1=k+0+1+i+1 by omega]at this
      exact this
     refine⟨x::ws,st3,?_,?_,?_⟩
     ·rw[zNl,zNy];simp only[Res.nox_ok,Res.bind_ok,zRz,Ye,hr,zNX,e1,zLo]
     ·simp only[Ju,JJ,bW]at e2 ⊢;omega
     ·rw[Yl]at e3;rw[JJ,show k+(l.length+1)=k+0+1+l.length by omega]
      exact e3
    |exc _ _=>rw[hr]at s0;exact s0.elim
    |no=>rw[hr]at s0;exact s0.elim
 obtain⟨ws,st2,e1,e2,e3⟩:=go (k:=0) (acc:=[]) rfl h fun i w acc st g ga g2=>by
  rw[Yz]at ga g2 ⊢;exact s i w acc st g ga g2
 rw[e1];rw[Yz,V5]at e2 e3;exact he ws st2 e2 e3
theorem zFz{α:Type}{l:List α}{f:α→W}{t:Tg}{e:EM}{σ0:Sg}{st:List Cell} (g:α→P) (H:∀x∈l,∃σ1,t.put (f x) σ0=some σ1∧e σ1 st=.ok (.p (g x)) st):lcL t mYes e σ0 (l.map f) st=.ok (l.map fun x=>.p (g x)) st:=by
 induction l with
 |nil=>rfl
 |cons x l ih =>
  obtain⟨σ1,e1,e2⟩:=H x Jg;rw[Jl,zE5,e1,zNl,zNy];simp only[Res.nox_ok,Res.bind_ok,zRz,Ye,e2,zNX];rw[ih fun y m=>H y (Jf _ m)]
  rfl
def srcR(o:Option Src) (st:List Cell):Res Src:=match o with
 |some s=>.ok s st
 |none=>.no
@[simp]theorem srcR_e(s:Src):srcR (some s) st=.ok s st:=rfl
def srcK(w:W) (st1:List Cell):Res Src:=srcR (vSrc st1 w) st1
@[simp]theorem srcK_e(w:W):srcK w st=srcR (vSrc st w) st:=rfl
@[simp]theorem mSrc_e(m:EM):mSrc m σ st=(m σ st).bind srcK:=rfl
@[simp]theorem vSrc_lst(l:List P):vSrc st (.p (.lst l))=some (srcL (l.map .p)):=rfl
@[simp]theorem vSrc_tup(l:List P):vSrc st (.p (.tup l))=some (srcL (l.map .p)):=rfl
@[simp]theorem vSrc_str(z:Str):vSrc st (.p (.str z))=some (srcL (zGu z)):=rfl
def rngR(w:W) (st1:List Cell):Res Src:=match w with
 | .p (.int j)=>if j≤1000000 ∧ -1000000≤j then .ok (srcL (rngL 0 j.toNat)) st1 else .no
 |_=>.no
@[simp]theorem rngR_e(j:Int):rngR (.p (.int j)) st=if j≤1000000 ∧ -1000000≤j then .ok (srcL (rngL 0 j.toNat)) st else .no:=rfl
@[simp]theorem mRng1_e(a:EM):zBO a σ st=(a σ st).bind rngR:=rfl
@[simp]theorem zCg(lo:Int) (n:Nat):(rngL lo n).length=n:=by unfold rngL;simp
theorem zDl{lo:Int}{n i:Nat}{w:W} (h:(rngL lo n)[i]?=some w):i<n∧w=.p (.int (lo+i)):=by
 unfold rngL at h;rw[Jd]at h
 by_cases hi:i<n
 ·rw[JZ hi]at h;exact⟨hi,(Jk h).symm⟩
 ·rw[Jt (by simpa using hi)]at h;cases h
def zipR(x y:Option (List P)) (st:List Cell):Res Src:=match x,y with
 |some l,some m=>.ok (srcZ (zipL l m)) st
 |_,_=>.no
@[simp]theorem zipR_e(l m:List P):zipR (some l) (some m) st=.ok (srcZ (zipL l m)) st:=rfl
def zSC(x y:W) (st1:List Cell):Res Src:=zipR (zD5 x) (zD5 y) st1
@[simp]theorem zipK2_e(x y:W):zSC x y st=zipR (zD5 x) (zD5 y) st:=rfl
def zipK(b:EM) (σ:Sg) (x:W) (st1:List Cell):Res Src:=(b σ st1).bind (zSC x)
@[simp]theorem zipK_e(b:EM) (x:W):zipK b σ x st=(b σ st).bind (zSC x):=rfl
@[simp]theorem mZipA_e(a b:EM):zS0 a b σ st=(a σ st).bind (zipK b σ):=rfl
@[simp]theorem zTM(l:List P):zD5 (.p (.lst l))=some l:=rfl
@[simp]theorem zTC(l:List P):zD5 (.p (.tup l))=some l:=rfl
@[simp]theorem zTA(z:Str):zD5 (.p (.str z))=some (z.cps.toList.map fun c=>.str ⟨#[c]⟩):=rfl
@[simp high] theorem zS6:zD5 (.p (.str (Str.ofString "abc")))=some [.str (Str.ofString "a"),.str (Str.ofString "b"),.str (Str.ofString "c")]:=rfl
@[simp]theorem zM1(x y:P) (l m:List P):zipL (x::l) (y::m)=.p (.tup [x,y])::zipL l m:=rfl
@[simp]theorem zipL_nil(m:List P):zipL [] m=[]:=by unfold zipL;rfl
@[simp]theorem zipL_nil2(m:List P):zipL m []=[]:=by cases m<;>rfl
@[simp]theorem chars_abc:zGu (Str.ofString "abc")=[.p (.str (Str.ofString "a")),.p (.str (Str.ofString "b")),.p (.str (Str.ofString "c"))]:=by
 unfold zGu;rfl
def Gv(r:Res W) (x:P):Prop:=match r with
 | .ok w _=>w=.p x
 |_=>False
@[simp]theorem Gv_ok(w:W) (x:P):Gv (.ok w st) x=(w=.p x):=rfl
@[simp]theorem Gv_no(x:P):Gv .no x=False:=rfl
@[simp]theorem Gv_ite{c:Prop} [Decidable c] (a b:Res W) (x:P):Gv (if c then a else b) x=if c then Gv a x else Gv b x:=by split<;>rfl
theorem Gv.ex{r:Res W}{x:P} (h:Gv r x):∃st',r=.ok (.p x) st':=by
 unfold Gv at h;split at h
 ·subst h;exact⟨_,rfl⟩
 ·exact h.elim
def Pu(F:FM) (xs:List P) (r:P):Prop:=Gv (F (xs.map W.p) []) r
theorem zDK:∀(xs:List P),argRefs (xs.map W.p)=[]
 |[]=>rfl
 |x::xs=>by show argRefs (xs.map W.p)=[];exact zDK xs
theorem zEP:∀(xs:List P) (k:Nat),argIn k (xs.map W.p)=xs.map W.p
 |[],_=>rfl
 |x::xs,k=>by show W.p x::argIn k (xs.map W.p)=_;rw[zEP xs k];rfl
theorem Pu.call{F:FM}{xs:List P}{r:P} (h:Pu F xs r) (st:List Cell):zAM F (xs.map W.p) st=.ok (.p r) st:=by
 obtain⟨st',h⟩:=Gv.ex h;unfold zAM;rw[zDK,zEP,JW Yt];show callEnd 0 [] st (F (xs.map W.p) [])=_;rw[h];simp[Y.callEnd,Y.putCells]
theorem Pu.of1{F:FM}{x r:P} (h:Gv (F [.p x] []) r):Pu F [x] r:=h
theorem Pu.of2{F:FM}{x y r:P} (h:Gv (F [.p x,.p y] []) r):Pu F [x,y] r:=h
theorem Pu.of3{F:FM}{x y z r:P} (h:Gv (F [.p x,.p y,.p z] []) r):Pu F [x,y,z] r:=h
theorem Pu.call1{F:FM}{x r:P} (h:Pu F [x] r) (st:List Cell):zAM F [.p x] st=.ok (.p r) st:=h.call st
theorem Pu.call2{F:FM}{x y r:P} (h:Pu F [x,y] r) (st:List Cell):zAM F [.p x,.p y] st=.ok (.p r) st:=h.call st
theorem Pu.call3{F:FM}{x y z r:P} (h:Pu F [x,y,z] r) (st:List Cell):zAM F [.p x,.p y,.p z] st=.ok (.p r) st:=h.call st
theorem Pu.call4{F:FM}{x y z u r:P} (h:Pu F [x,y,z,u] r) (st:List Cell):zAM F [.p x,.p y,.p z,.p u] st=.ok (.p r) st:=h.call st
def Gm(c:Nat) (m:List P) (r:Res W):Prop:=match r with
 | .ok (.p .non) (.ins c' l::_)=>c'=c∧l=m.map W.p
 |_=>False
@[simp]theorem Gm_ok(c c':Nat) (m:List P) (l:List W) (r:List Cell):Gm c m (.ok (.p .non) (.ins c' l::r))=(c'=c∧l=m.map W.p):=rfl
@[simp]theorem Gm_no(c:Nat) (m:List P):Gm c m .no=False:=rfl
@[simp]theorem Gm_ite(n:Nat) (m:List P){c:Prop} [Decidable c] (a b:Res W):Gm n m (if c then a else b)=if c then Gm n m a else Gm n m b:=by split<;>rfl
end
section
variable {σ:Sg}{st:List Cell}{α β:Type}
@[simp]theorem Res.nox_exc(x:Exn):(Res.exc x st:Res α).nox=.no:=rfl
@[simp]theorem Res.to_exc(x:Exn) (k:α→List Cell→SR):(Res.exc x st:Res α).to σ k=.exc x σ st:=rfl
@[simp]theorem SR.then_exc(x:Exn) (k:Sg→List Cell→SR):(SR.exc x σ st).then k=.exc x σ st:=rfl
@[simp]theorem SR.nox_exc(x:Exn):(SR.exc x σ st).nox=.no:=rfl
@[simp]theorem forK_exc(t:Tg) (b:SMm) (l:List W) (x:Exn):forK t b l (.exc x σ st)=.exc x σ st:=rfl
def zFC:SR→Res W
 | .ok .nx _ st=>.ok (.p .non) st
 | .ok (.rt w) _ st=>.ok w st
 | .exc x _ st=>.exc x st
 |_=>.no
@[simp]theorem runRX_nx:zFC (.ok .nx σ st)=.ok (.p .non) st:=rfl
@[simp]theorem runRX_rt(w:W):zFC (.ok (.rt w) σ st)=.ok w st:=rfl
@[simp]theorem runRX_exc(x:Exn):zFC (.exc x σ st)=.exc x st:=rfl
@[simp]theorem runRX_no:zFC .no=.no:=rfl
@[simp]theorem runRX_ite{c:Prop} [Decidable c] (a b:SR):zFC (if c then a else b)=if c then zFC a else zFC b:=by split<;>rfl
theorem zCs(np N:Nat) (m:SMm) (ws:List W):runX np N m ws st=if ws.length=np then zFC (m (ws.map some++List.replicate (N-np) none) st)else .no:=by
 unfold runX zFC;split<;>rfl
@[simp]theorem noxF_e(F:FM) (ws:List W):noxF F ws st=(F ws st).nox:=rfl
theorem zMc(F:FM) (ws:List W):zAM (noxF F) ws st=(zAM F ws st).nox:=by
 unfold zAM;split
 ·split
  ·rename_i cs _
   show Y.callEnd _ _ _ (F (argIn 0 ws) cs).nox=_;cases F (argIn 0 ws) cs with
   |ok a s=>unfold Y.callEnd;simp only[Res.nox_ok];repeat (first|rfl|split)
   |exc x s=>unfold Y.callEnd;simp only[Res.nox_exc];repeat (first|rfl|split)
   |no=>rfl
  ·rfl
 ·rfl
@[simp]theorem sRaise0_e(c:Nat) (T:Str):zEj c T σ st=.exc ⟨c,[.str T]⟩ σ st:=rfl
def zN6(c:Nat) (T:Str) (σ:Sg) (w:W) (st1:List Cell):SR:=match w with
 | .p x=>.exc ⟨c,[x,.str T]⟩ σ st1
 |_=>.no
@[simp]theorem raiseK_e(c:Nat) (T:Str) (x:P):zN6 c T σ (.p x) st=.exc ⟨c,[x,.str T]⟩ σ st:=rfl
@[simp]theorem sRaise1_e(c:Nat) (m:EM) (T:Str):zEE c m T σ st=(m σ st).to σ (zN6 c T σ):=by
 unfold zEE zN6;rfl
@[simp]theorem mCallX_e(F:FM) (a:AM):zBm F a σ st=(a σ st).bind (zAM F):=rfl
def zO9(F:FM) (w:W) (ok:Bool) (r:Res (List W)):Res W:=if ok=true then r.bind fun ws st2=>zAM F (w::ws) st2 else .no
def zQS(F:FM) (w:W) (ws:List W) (st1:List Cell):Res W:=zAM F (w::ws) st1
@[simp]theorem callOX_e(F:FM) (w:W) (ws:List W):zQS F w ws st=zAM F (w::ws) st:=rfl
@[simp]theorem clsRX_e(F:FM) (w:W) (r:Res (List W)):zO9 F w true r=r.bind (zQS F w):=rfl
def zNJ(c:Nat) (F:FM) (a:AM) (σ:Sg) (w:W) (st1:List Cell):Res W:=zO9 F w (decide (clsOf st1 w=some c)) (a σ st1)
@[simp]theorem methKX_e(c:Nat) (F:FM) (a:AM) (w:W):zNJ c F a σ w st=zO9 F w (decide (clsOf st w=some c)) (a σ st):=rfl
@[simp]theorem mMethX_e(c:Nat) (F:FM) (o:EM) (a:AM):zDw c F o a σ st=(o σ st).bind (zNJ c F a σ):=by
 unfold zDw zNJ zO9
 congr 1
 funext w st1
 by_cases h:clsOf st1 w=some c<;>simp[h]
@[simp]theorem mMakeX_e(c n:Nat) (F:FM) (a:AM):zMe c n F a σ st=(a σ st).bind (zHI c n F):=rfl
def zPU(F:FM) (w:W) (st1:List Cell) (ok:Bool):Res W:=if ok=true then(zAM F [w] st1).nox else .no
@[simp]theorem propR_e(F:FM) (w:W):zPU F w st true=(zAM F [w] st).nox:=rfl
def zOo(c:Nat) (F:FM) (w:W) (st1:List Cell):Res W:=zPU F w st1 (decide (clsOf st1 w=some c))
@[simp]theorem propK2_e(c:Nat) (F:FM) (w:W):zOo c F w st=zPU F w st (decide (clsOf st w=some c)):=rfl
@[simp]theorem mProp_e(c:Nat) (F:FM) (o:EM):zPh c F o σ st=(o σ st).bind (zOo c F):=by
 unfold zPh zOo zPU
 congr 1
 funext w st1
 by_cases h:clsOf st1 w=some c<;>simp[h]
@[simp]theorem isLenR_e(i:Int):zLA (.ok (.p (.int i)) st)=if 0≤i∧i≤1000000 then .ok (.p (.int i)) st else .no:=rfl
def zSB(f:Res W→Res W) (F:FM) (w:W) (st:List Cell) (ok:Bool):Res W:=if ok=true then f (zAM F [w] st)else .no
@[simp]theorem own1R_e(f:Res W→Res W) (F:FM) (w:W):zSB f F w st true=f (zAM F [w] st):=rfl
@[simp]theorem vLenO_e(c:Nat) (F:FM) (w:W):zEz c F [w] st=zSB zLA F w st (decide (clsOf st w=some c)):=by
 unfold zEz zSB
 by_cases h:clsOf st w=some c<;>simp[h]
@[simp]theorem clsOf_non:clsOf st (.p .non)=none:=rfl
@[simp]theorem clsOf_bl(b:Bool):clsOf st (.p (.bl b))=none:=rfl
@[simp]theorem clsOf_int(b:Int):clsOf st (.p (.int b))=none:=rfl
@[simp]theorem clsOf_str(b:Str):clsOf st (.p (.str b))=none:=rfl
@[simp]theorem clsOf_tup(b:List P):clsOf st (.p (.tup b))=none:=rfl
@[simp]theorem clsOf_lst(b:List P):clsOf st (.p (.lst b))=none:=rfl
end
section
variable {st:List Cell}
theorem zMQ{c n:Nat}{F:FM}{xs m:List P} (h:Gm c m (F (.r 0::xs.map W.p) [.ins c []])) (hm:m.length=n) (st:List Cell):zHI c n F (xs.map W.p) st=.ok (.p (.obj c m)) st:=by
 unfold Gm at h;split at h
 ·rename_i c' l r e
  obtain⟨rfl,rfl⟩:=h;unfold zHI;rw[zDK,zEP];simp[Y.getCells,e,hm,Y.putCells]
 ·exact h.elim
@[simp]theorem sWhile_e(n:Nat) (c:TM) (b:SMm) (σ:Sg) (st:List Cell):zD8 n c b σ st=zDx c b n σ st:=rfl
theorem zC7{c:TM}{b:SMm} (F:SR→Prop) (I:Nat→Sg→List Cell→Prop){n:Nat} (m:Nat){σ:Sg}{st:List Cell} (hn:m<n) (h:I m σ st)
  (hs:∀m σ st,I m σ st→(∃st1,c σ st=.ok false st1∧F (.ok .nx σ st1))∨∃st1 m',c σ st=.ok true st1∧m'<m∧Sq (I m') F (b σ st1)):F (zDx c b n σ st):=by
 induction n generalizing m σ st with
 |zero=>omega
 |succ n ih =>
  rw[zDx];rcases hs m σ st h with⟨st1,e,hF⟩|⟨st1,m',e,hm,hb⟩
  ·rw[e];exact hF
  ·rw[e];have go:∀ {σ2:Sg}{st2:List Cell},I m' σ2 st2→F (zDx c b n σ2 st2):=fun h2=>ih m' ∅ h2
   show F (Res.to (.ok true st1) σ _);rw[Y.Res.to];simp only[Ye];cases er:b σ st1 with
   |ok f σ2 st2 =>
    rw[er]at hb;cases f with
    |nx=>exact go hb
    |ct=>exact go hb
    |bk=>exact hb
    |rt v=>exact hb
   |exc _ _ _=>rw[er]at hb;exact hb.elim
   |no=>rw[er]at hb;exact hb.elim
theorem zGD:∀ {l:List P},(∀x∈l,pEq x x=true)→pEqs l l=true
 |[],_=>by simp
 |x::l,h=>by rw[zIx,h x Jg,zGD fun y m=>h y (Jf _ m)];rfl
theorem zIi:∀(n:Nat) (x:P),okP n x=true→pEq x x=true
 |n,.non,_=>by rw[pEq]
 |n,.int i,_=>by simp
 |n,.str i,_=>by simp
 |n,.bl i,_=>by simp
 |0,.tup l,h=>by rw[okP]at h<;>first|cases h|(intros;contradiction)
 |0,.lst l,h=>by rw[okP]at h<;>first|cases h|(intros;contradiction)
 |n+1,.tup l,h=>by
  rw[okP,Jp]at h;rw[zSS];exact zGD fun x m=>zIi n x (h x m)
 |n+1,.lst l,h=>by
  rw[okP,Jp]at h;rw[zNP];exact zGD fun x m=>zIi n x (h x m)
 |n,.scr _,h=>by cases n<;>(rw[okP]at h<;>first|cases h|(intros;contradiction))
 |n,.obj _ _,h=>by cases n<;>(rw[okP]at h<;>first|cases h|(intros;contradiction))
 |n,.exn _ _,h=>by cases n<;>(rw[okP]at h<;>first|cases h|(intros;contradiction))
 |n,.lam _ _,h=>by cases n<;>(rw[okP]at h<;>first|cases h|(intros;contradiction))
 |n,.cls _,h=>by cases n<;>(rw[okP]at h<;>first|cases h|(intros;contradiction))
 |n,.fd _ _,h=>by cases n<;>(rw[okP]at h<;>first|cases h|(intros;contradiction))
 |n,.fn _ _,h=>by cases n<;>(rw[okP]at h<;>first|cases h|(intros;contradiction))
 |n,.dk _ _,h=>by cases n<;>(rw[okP]at h<;>first|cases h|(intros;contradiction))
end
section
variable {σ:Sg}{st:List Cell}
def zSQ(j:Nat) (c:Option Cell):Option Src:=match c with
 |some (.lst l)=>some (srcC j l.length)
 |_=>none
@[simp]theorem srcCO_e(j:Nat) (l:List W):zSQ j (some (.lst l))=some (srcC j l.length):=rfl
@[simp]theorem vSrc_r(j:Nat):vSrc st (.r j)=zSQ j st[j]?:=by
 show(match st[j]? with|some (.lst l)=>some (srcC j l.length)|_=>none)=_
 unfold zSQ;rfl
theorem zF6{j n i:Nat}{l:List W} (h:st[j]?=some (.lst l)):(srcC j n).get st i=some l[i]?:=by
 show(match st[j]? with|some (.lst l)=>some l[i]?|_=>none)=_
 rw[h]
theorem zGT{t:Tg}{b:SMm} (F:SR→Prop) (I:Nat→Sg→List Cell→Prop){j m:Nat}{l:List W}{σ:Sg}{st:List Cell} (hm:m=l.length) (hc:∀i σ st,i≤l.length→I i σ st→st[j]?=some (.lst l)) (h:I 0 σ st)
  (hs:∀(i:Nat) (w:W) σ st,l[i]?=some w→I i σ st→Sq (I (i+1)) F (zFW t b w σ st)) (he:∀σ st,I l.length σ st→F (.ok .nx σ st)):F (zMO t b σ (srcC j m) st):=by
 subst hm;rw[zIT]
 have go:∀(n i:Nat) (σ:Sg) (st:List Cell),i≤l.length→l.length-i<n→I i σ st→F (forF (srcC j l.length) t b n i σ st):=by
  intro n
  induction n with
  |zero=>intro i σ st _ h;omega
  |succ n ih =>
   intro i σ st hi hn h;rw[forF,zF6 (hc i σ st hi h)]
   by_cases hl:i<l.length
   ·rw[Ja hl];have s0:=hs i l[i] σ st (Ja hl) h;unfold zFW at s0;simp only;cases ep:t.put l[i] σ with
    |none=>rw[ep]at s0;exact s0.elim
    |some σ1 =>
     rw[ep,zKf]at s0;simp only;cases hr:b σ1 st with
     |ok f σ2 st2 =>
      rw[hr]at s0;cases f with
      |nx=>exact ih (i+1) σ2 st2 ∅ ∅ s0
      |ct=>exact ih (i+1) σ2 st2 ∅ ∅ s0
      |bk=>exact s0
      |rt v=>exact s0
     |exc _ _ _=>rw[hr]at s0;exact s0.elim
     |no=>rw[hr]at s0;exact s0.elim
   ·rw[Jt ∅];obtain rfl:i=l.length:=by omega
    exact he σ st h
 exact go (l.length+1) 0 σ st (J3 _) ∅ h
def FmOk(t:Tg) (c:TM) (e:EM) (σ0:Sg) (st:List Cell) (g:W→Option W) (w:W):Prop :=
 ∃σ1,t.put w σ0=some σ1∧((g w=none∧c σ1 st=.ok false st)∨∃y,g w=some y∧c σ1 st=.ok true st∧e σ1 st=.ok y st)
theorem zLg{t:Tg}{c:TM}{e:EM}{σ0:Sg}{g:W→Option W}:∀ {l:List W},(∀w∈l,FmOk t c e σ0 st g w)→lcL t c e σ0 l st=.ok (l.filterMap g) st
 |[],_=>rfl
 |w::l,h=>by
  obtain⟨σ1,e1,e2⟩:=h w Jg;have ih:=zLg (l:=l) fun x hx=>h x (Jf _ hx)
  rw[zE5,e1,zNl];rcases e2 with⟨e2,e3⟩|⟨y,e2,e3,e4⟩
  ·rw[e3,JT,e2];simp[ih]
  ·rw[e3,JT,e2];simp[e4,ih,zHd]
theorem lcC_fm{t:Tg}{vs:List Nat}{c:TM}{e:EM}{fin:List W→List Cell→Res W}{j m:Nat}{l:List W} (g:W→Option W) (hm:m=l.length) (hc:st[j]?=some (.lst l)) (hl:l.length≤1000000) (h:∀w∈l,FmOk t c e (zAv σ vs) st g w) :
  lcK t vs c e fin σ (srcC j m) st=fin (l.filterMap g) st:=by
 subst hm;rw[zNA,JW (show(srcC j l.length).n≤1000000 from hl)]
 have go:∀(n i:Nat),i≤l.length→l.length-i<n→lcF (srcC j l.length) t c e (zAv σ vs) n i st=.ok ((l.drop i).filterMap g) st:=by
  intro n
  induction n with
  |zero=>intro i _ h;omega
  |succ n ih =>
   intro i hi hn;rw[lcF,zF6 hc]
   by_cases hl:i<l.length
   ·rw[Ja hl,Vi hl];obtain⟨σ1,e1,e2⟩:=h l[i] (JL hl);have ih2:=ih (i+1) ∅ ∅;simp only;rw[e1];rcases e2 with⟨e2,e3⟩|⟨y,e2,e3,e4⟩
    ·rw[JT,e2];simp[e3,ih2]
    ·rw[JT,e2];simp[e3,e4,ih2]
   ·rw[Jt ∅,Vl ∅];rfl
 have:=go (l.length+1) 0 (J3 _) ∅
 rw[VE]at this;show(lcF (srcC j l.length) t c e (zAv σ vs) (l.length+1) 0 st).bind fin=_;rw[this];rfl
def lrK(w:W) (st1:List Cell):Res W:=match w with
 | .p (.int n)=>if 0≤n∧n≤1000000 then .ok (.p (.lst ((List.range n.toNat).map fun(i:Nat)=>P.int (i:Int)))) st1 else .no
 |_=>.no
@[simp]theorem lrK_e(n:Int):lrK (.p (.int n)) st=if 0≤n∧n≤1000000 then .ok (.p (.lst ((List.range n.toNat).map fun(i:Nat)=>P.int (i:Int)))) st else .no:=rfl
@[simp]theorem zTL(a:EM):zCe a σ st=(a σ st).bind lrK:=rfl
def srtR(o:Option (List P)) (st1:List Cell):Res W:=match o with
 |some l=>.ok (.p (.lst l)) st1
 |none=>.no
@[simp]theorem srtR_e(l:List P):srtR (some l) st=.ok (.p (.lst l)) st:=rfl
def srtT(l:List P):Option (List P):=match pairsOf l with
 |some m=>if m.length<1000 then some ((zDd m).map tupP)else none
 |none=>none
@[simp]theorem zSr(l:List P):zBY [.p (.tup l)] st=srtR (srtT l) st:=by
 unfold zBY srtT;simp only;cases pairsOf l with
 |none=>rfl
 |some m=>simp only;split<;>rfl
def srtK(o:Option (List P)) (st1:List Cell):Res W:=srtR (o.bind srtL) st1
@[simp]theorem srtK_e(l:List P):srtK (some l) st=srtR (srtL l) st:=rfl
@[simp]theorem zR8(l:List P):zBY [.p (.lst l)] st=srtR (srtL l) st:=by
 unfold zBY;simp only[zHf];cases srtL l<;>rfl
@[simp]theorem vSorted_r(i:Nat):zBY [.r i] st=srtK (seqC st[i]?) st:=by
 unfold zBY;simp only[zLi];unfold srtK;cases seqC st[i]? with
 |none=>rfl
 |some l=>simp only[bP];cases srtL l<;>rfl
theorem zGs(l:List Int):srtL (l.map P.int)=some ((sortI l).map P.int):=by
 unfold srtL;rw[zDf]
theorem zEm:∀ {l:List (Int×Int)},(∀q∈l,zCC q)→pairsOf (l.map tupP)=some l
 |[],_=>rfl
 |q::l,h=>by
  show(if 0≤q.1∧q.1<1000∧0≤q.2∧q.2<1000 then(pairsOf (l.map tupP)).map ((q.1,q.2) :: ·)else none)=_
  rw[JW (show 0≤q.1∧q.1<1000∧0≤q.2∧q.2<1000 from h q Jg),zEm fun x hx=>h x (Jf _ hx)]
  rfl
theorem zEp{l:List (Int×Int)} (h:∀q∈l,zCC q) (hl:l.length<1000):srtL (l.map tupP)=some ((zDd l).map tupP):=by
 cases l with
 |nil=>unfold srtL zDd;simp[intsOf,sortI]
 |cons q l =>
  unfold srtL;rw[show intsOf ((q::l).map tupP)=none from rfl,zEm h]
  simp only;rw[JW hl]
theorem zMd{l:List (Int×Int)} (h:∀q∈l,zCC q) (hl:l.length<1000):srtT (l.map tupP)=some ((zDd l).map tupP):=by
 unfold srtT;rw[zEm h];simp only;rw[JW hl]
@[simp]theorem vCount_e(a b:Str):zLD (.p (.str a)) [.p (.str b)] st=.ok (.p (.int (Txt.count a b))) st:=rfl
def zLL(o:Option Key) (y:W) (st2:List Cell):Res W:=match o with
 |some k=>.ok (.r st2.length) (st2++[.dk [k] [y]])
 |none=>.no
@[simp]theorem ddispR_e(k:Key) (y:W):zLL (some k) y st=.ok (.r st.length) (st++[.dk [k] [y]]):=rfl
def zIH(x:W) (y:W) (st2:List Cell):Res W:=match x with
 | .p z=>zLL (keyP z) y st2
 |_=>.no
@[simp]theorem ddisp2K_e(z:P) (y:W):zIH (.p z) y st=zLL (keyP z) y st:=rfl
def zMv(mv:EM) (σ:Sg) (x:W) (st1:List Cell):Res W:=(mv σ st1).nox.bind (zIH x)
@[simp]theorem ddispK_e(mv:EM) (x:W):zMv mv σ x st=(mv σ st).nox.bind (zIH x):=rfl
@[simp]theorem mDisp1_e(mk mv:EM):zHU mk mv σ st=(mk σ st).nox.bind (zMv mv σ):=by
 unfold zHU zMv zIH zLL;rfl
@[simp]theorem keyP_int(i:Int):keyP (.int i)=some (.inl i):=rfl
@[simp]theorem keyP_str(z:Str):keyP (.str z)=some (.inr z):=rfl
def keysC(c:Option Cell):Option (List Key):=match c with
 |some (.dk ks _)=>some ks
 |_=>none
@[simp]theorem keysC_e(ks:List Key) (l:List W):keysC (some (.dk ks l))=some ks:=rfl
@[simp]theorem keysW_r(i:Nat):zJ6 st (.r i)=keysC st[i]?:=rfl
@[simp]theorem keysW_dk(ks:List Key) (l:List P):zJ6 st (.p (.dk ks l))=some ks:=rfl
def inKR(neg:Bool) (o:Option Key) (ks:Option (List Key)) (st1:List Cell):Res W:=match o,ks with
 |some k,some ks=>.ok (.p (.bl (hasK ks k != neg))) st1
 |_,_=>.no
@[simp]theorem inKR_e(neg:Bool) (k:Key) (ks:List Key):inKR neg (some k) (some ks) st=.ok (.p (.bl (hasK ks k != neg))) st:=rfl
@[simp]theorem vInK_e(neg:Bool) (z:P) (y:W):vInK neg (.p z) y st=inKR neg (keyP z) (zJ6 st y) st:=by
 unfold vInK inKR
 first
  |(cases keyP z<;>cases zJ6 st y<;>rfl)
  |(simp only;cases keyP z<;>cases zJ6 st y<;>rfl)
  |simp only
def zPY(i:Nat) (σ:Sg) (c:Option Cell) (o:Option Key) (x:W) (st3:List Cell):SR:=match c,o with
 |some (.dk ks l),some kk=>if ks.length<1000000 then .ok .nx σ (st3.set i (.dk (zEA ks l kk x).1 (zEA ks l kk x).2))else .no
 |_,_=>.no
@[simp]theorem dputR_e(i:Nat) (ks:List Key) (l:List W) (kk:Key) (x:W):zPY i σ (some (.dk ks l)) (some kk) x st=if ks.length<1000000 then .ok .nx σ (st.set i (.dk (zEA ks l kk x).1 (zEA ks l kk x).2))else .no:=rfl
def zKx(σ:Sg) (x w k:W) (st3:List Cell):SR:=match w,k with
 | .r i,.p z=>zPY i σ st3[i]? (keyP z) x st3
 |_,_=>.no
@[simp]theorem dputK3_e(x:W) (i:Nat) (z:P):zKx σ x (.r i) (.p z) st=zPY i σ st[i]? (keyP z) x st:=rfl
def zLx(ix:EM) (σ:Sg) (x w:W) (st2:List Cell):SR:=(ix σ st2).to σ (zKx σ x w)
@[simp]theorem dputK2_e(ix:EM) (x w:W):zLx ix σ x w st=(ix σ st).to σ (zKx σ x w):=rfl
def zMh(o ix:EM) (σ:Sg) (x:W) (st1:List Cell):SR:=(o σ st1).to σ (zLx ix σ x)
@[simp]theorem dputK1_e(o ix:EM) (x:W):zMh o ix σ x st=(o σ st).to σ (zLx ix σ x):=rfl
@[simp]theorem sPutK_e(o ix m:EM):zFx o ix m σ st=(m σ st).to σ (zMh o ix σ):=by
 unfold zFx zMh zLx zKx zPY;rfl
end
section
theorem zLc{α:Type}{l:List α}{f:α→W}{t:Tg}{c:TM}{e:EM}{σ0:Sg}{st:List Cell} (p:α→Bool) (g:α→P) (H:∀x∈l,∃σ1,t.put (f x) σ0=some σ1∧c σ1 st=.ok (p x) st∧(p x=true→e σ1 st=.ok (.p (g x)) st)) :
  lcL t c e σ0 (l.map f) st=.ok (((l.filter p).map g).map W.p) st:=by
 induction l with
 |nil=>rfl
 |cons x l ih =>
  obtain⟨σ1,e1,e2,e3⟩:=H x Jg;have ih:=ih fun y m=>H y (Jf _ m)
  rw[Jl,zE5,e1,zNl,e2];simp only[Res.nox_ok,Res.bind_ok,zRz]
  by_cases hp:p x=true
  ·rw[JW hp,e3 hp];simp only[Res.nox_ok,Res.bind_ok,zNX,ih,zLo,Vv,hp,Ye,Jl]
  ·rw[Vh hp,ih,Vv,Vh hp]
theorem zDA{α:Type}{l:List α}{f:α→W}{t:Tg}{e:EM}{σ0:Sg}{st:List Cell} (g:α→P) (H:∀x∈l,∃σ1,t.put (f x) σ0=some σ1∧e σ1 st=.ok (.p (g x)) st):lcL t mYes e σ0 (l.map f) st=.ok ((l.map g).map W.p) st:=by
 rw[zFz g H,Jm];rfl
@[simp]theorem zSA(i j:Nat) (x y:P) (σ:Sg):(Tg.tp [.nm i,.nm j]).put (.p (.tup [x,y])) σ=some ((σ.set i (some (.p x))).set j (some (.p y))):=by simp
theorem zE8(z:Str):zGu z=z.cps.toList.map fun c=>W.p (.str ⟨#[c]⟩):=rfl
theorem zHk(n:Bool) (i j:Str) (st:List Cell):vInB n (.p (.str i)) (.p (.str j)) st=.ok (.p (.bl (if n=true then !occ i j else occ i j))) st:=rfl
theorem zOa(c:Nat) (z:Str):occ ⟨#[c]⟩ z=decide (c∈z.cps.toList):=StrLaws.found_one z c
theorem cnt_eq(c:Nat) (l:List Nat):PyProof.Rows.cnt c l=(l.count c:Nat):=by
 induction l with
 |nil=>rfl
 |cons n l ih =>
  rw[PyProof.Rows.cnt_cons,ih,List.count_cons]
  by_cases h:n=c<;>simp[h]
  omega
theorem zNo(x:Str) (c:Nat):Txt.count x ⟨#[c]⟩=(x.cps.toList.count c:Nat):=by
 rw[PyProof.Rows.count_is];exact cnt_eq c _
theorem zSe(z:Str):occ (Str.ofString "m") z=decide (109∈z.cps.toList):=zOa 109 z
theorem zNH(z:Str):Txt.count z (Str.ofString "m")=(z.cps.toList.count 109:Nat):=zNo z 109
theorem zLa:∀(l:List P) (k:Nat),(enmL k l).length=l.length
 |[],_=>rfl
 |x::l,k=>by simp[enmL,zLa l]
theorem zOY{α:Type}{l:List α}{f:α→W}{t:Tg}{vs:List Nat}{c:TM}{e:EM}{fin:List W→List Cell→Res W}{j m:Nat}{σ:Sg}{st:List Cell} (p:α→Bool) (g:α→P) (hm:m=l.length) (hc:st[j]?=some (.lst (l.map f))) (hl:l.length≤1000000)
  (H:∀x∈l,∃σ1,t.put (f x) (zAv σ vs)=some σ1∧c σ1 st=.ok (p x) st∧(p x=true→e σ1 st=.ok (.p (g x)) st)):lcK t vs c e fin σ (srcC j m) st=fin (((l.filter p).map g).map W.p) st:=by
 subst hm;rw[zNA,JW (show(srcC j l.length).n≤1000000 from hl)]
 have go:∀(n i:Nat),i≤l.length→l.length-i<n→lcF (srcC j l.length) t c e (zAv σ vs) n i st=.ok ((((l.drop i).filter p).map g).map W.p) st:=by
  intro n
  induction n with
  |zero=>intro i _ h;omega
  |succ n ih =>
   intro i hi hn;rw[lcF,zF6 hc]
   by_cases hl:i<l.length
   ·rw[Jd,Ja hl,Vi hl];obtain⟨σ1,e1,e2,e3⟩:=H l[i] (JL hl);have ih2:=ih (i+1) ∅ ∅;simp only[VF];rw[e1]
    by_cases hp:p l[i]=true
    ·rw[Vv,JW hp];simp[e2,hp,e3 hp,ih2]
    ·rw[Vv,Vh hp];simp only[Bool.not_eq_true]at hp;simp[e2,hp,ih2]
   ·rw[Jt (by rw[Jc];omega),Vl ∅]
    rfl
 have:=go (l.length+1) 0 (J3 _) ∅
 rw[VE]at this;show(lcF (srcC j l.length) t c e (zAv σ vs) (l.length+1) 0 st).bind fin=_;rw[this];rfl
theorem zJP(n:Nat):rngL 0 n=(List.range n).map fun(i:Nat)=>W.p (.int (i:Int)):=by
 unfold rngL;exact Vw fun i _=>by simp
theorem zRX{l:List P}{i:Nat}{w:W} (h:(enmL 0 l)[i]?=some w):∃x,l[i]?=some x∧w=.p (.tup [.int (i:Nat),x]):=by
 rw[Y.enmL_get]at h;obtain⟨x,h1,h2⟩:=Jx.mp h;exact⟨x,h1,by rw[←h2,Yz]⟩
variable {σ:Sg}{st:List Cell}
end
section
variable {σ σ0:Sg}{st:List Cell}
def cmR(c:Nat) (F:FM) (dfl:List P) (ws:List W):List Cell→Res W:=fun st1=>zAM F (.p (.cls c)::(ws++dfl.map W.p)) st1
@[simp]theorem mCMeth_e(c:Nat) (F:FM) (dfl:List P) (a:AM):zHb c F dfl a σ st=(a σ st).bind (cmR c F dfl):=rfl
@[simp]theorem cmR_e(c:Nat) (F:FM) (dfl:List P) (ws:List W):cmR c F dfl ws st=zAM F (.p (.cls c)::(ws++dfl.map W.p)) st:=rfl
@[simp]theorem isCls_e(i c:Nat):zPr i c σ=(match σ[i]? with
 |some (some (.p (.cls d)))=>d==c
 |_=>false):=rfl
@[simp]theorem mMakeL_e(i c n:Nat) (F:FM) (a:AM):zKu i c n F a σ st=if zPr i c σ=true then(a σ st).bind (fun ws st1=>zHI c n F ws st1)else .no:=rfl
def srcDK(w:W):List Cell→Res Src:=fun st=>match vSrcD w with
 |some s=>.ok s st
 |none=>.no
@[simp]theorem mSrcD_e(m:EM):zPy m σ st=(m σ st).bind srcDK:=rfl
@[simp]theorem srcDK_e(ks:List Key) (l:List P):srcDK (.p (.fd ks l)) st=.ok (srcL (ks.map fun k=>.p (keyD k))) st:=rfl
def zQ4(a:EM) (σ:Sg) (w:W):List Cell→Res W:=fun st1=>(a σ st1).bind (zL2 w)
@[simp]theorem mDGetD_e(o a:EM):zJB o a σ st=(o σ st).bind (zQ4 a σ):=rfl
@[simp]theorem dgetD1_e(a:EM) (w:W):zQ4 a σ w st=(a σ st).bind (zL2 w):=rfl
@[simp]theorem dgetD_s(ks:List Key) (l:List P) (z:Str):zL2 (.p (.fd ks l)) (.p (.str z)) st=(match dkGet ks l (.inr z)with
  |some z=>.ok (.p z) st
  |none=>.no):=rfl
@[simp]theorem dgetD_i(ks:List Key) (l:List P) (z:Int):zL2 (.p (.fd ks l)) (.p (.int z)) st=(match dkGet ks l (.inl z)with
  |some z=>.ok (.p z) st
  |none=>.no):=rfl
@[simp]theorem keyD_r(z:Str):keyD (.inr z)=.str z:=rfl
@[simp]theorem keyD_l(z:Int):keyD (.inl z)=.int z:=rfl
end
section
variable {σ σ0:Sg}{st:List Cell}
theorem vInN_e{neg:Bool}{ks l:List P}{z:P}{k:NestedKey} (h:nkT z=some k):vInN neg (.p z) (.p (.fn ks l)) st=.ok (.p (.bl (inN ks k != neg))) st:=by
 unfold vInN;simp only[h]
end
section
variable {σ σ0:Sg}{st:List Cell}{ys:List P}
@[simp]theorem GR.then_nx(k:Sg→List Cell→List P→GR):(GR.ok .nx σ st ys).then k=k σ st ys:=rfl
@[simp]theorem GR.then_rt(w:W) (k:Sg→List Cell→List P→GR):(GR.ok (.rt w) σ st ys).then k=.ok (.rt w) σ st ys:=rfl
@[simp]theorem GR.then_bk(k:Sg→List Cell→List P→GR):(GR.ok .bk σ st ys).then k=.ok .bk σ st ys:=rfl
@[simp]theorem GR.then_ct(k:Sg→List Cell→List P→GR):(GR.ok .ct σ st ys).then k=.ok .ct σ st ys:=rfl
@[simp]theorem GR.then_exc(x:Exn) (k:Sg→List Cell→List P→GR):(GR.exc x σ st).then k=.exc x σ st:=rfl
@[simp]theorem GR.then_no(k:Sg→List Cell→List P→GR):GR.no.then k=.no:=rfl
@[simp]theorem GR.then_ite{c:Prop} [Decidable c] (a b:GR) (k:Sg→List Cell→List P→GR):(if c then a else b).then k=if c then a.then k else b.then k:=by split<;>rfl
@[simp]theorem SR.gr_ok(f:Fl):(SR.ok f σ st).gr ys=.ok f σ st ys:=rfl
@[simp]theorem SR.gr_exc(x:Exn):(SR.exc x σ st).gr ys=.exc x σ st:=rfl
@[simp]theorem SR.gr_no:SR.no.gr ys=.no:=rfl
@[simp]theorem Res.gto_ok{α:Type} (a:α) (k:α→List Cell→GR):(Res.ok a st).gto σ k=k a st:=rfl
@[simp]theorem Res.gto_exc{α:Type} (x:Exn) (k:α→List Cell→GR):(Res.exc x st:Res α).gto σ k=.exc x σ st:=rfl
@[simp]theorem Res.gto_no{α:Type} (k:α→List Cell→GR):(Res.no:Res α).gto σ k=.no:=rfl
@[simp]theorem pj_id(x:P):Pjk.pj .id x=some x:=rfl
@[simp]theorem pj_fst'(a b:P):Pjk.pj .fst (.tup [a,b])=some a:=rfl
@[simp]theorem lsE_ok(l:List Nat) (w:W):lsE l (.ok w st)=.ok w st:=rfl
@[simp]theorem lsE_exc(l:List Nat) (x:Exn):lsE l (.exc x st)=if l.contains x.c=true then .exc x st else .no:=rfl
end
section
open Y
variable {σ:Sg}{st:List Cell}
def zLs(w x:W) (st2:List Cell):Res W:=match w,x with
 | .r i,.p y=>match st2[i]?,keyP y with
  |some (.dk ks l),some k=>(match dkGet ks l k with
   |some z=>.ok z st2
   |none=>.no)
  |_,_=>.no
 |_,_=>.no
def zMo(c:Option Cell) (o:Option Key) (st2:List Cell):Res W:=match c,o with
  |some (.dk ks l),some k=>(match dkGet ks l k with
   |some z=>.ok z st2
   |none=>.no)
  |_,_=>.no
@[simp]theorem dgetC2_r(i:Nat) (y:P):zLs (.r i) (.p y) st=zMo st[i]? (keyP y) st:=rfl
theorem zIf(ks:List Key) (l:List W) (k:Key){z:W} (h:dkGet ks l k=some z):zMo (some (.dk ks l)) (some k) st=.ok z st:=by
 unfold zMo;simp only[h]
def zNQ(a:EM) (σ:Sg) (w:W) (st1:List Cell):Res W:=(a σ st1).bind (zLs w)
@[simp]theorem dgetC1_e(a:EM) (w:W):zNQ a σ w st=(a σ st).bind (zLs w):=rfl
@[simp]theorem mDGetC_e(o a:EM):zFK o a σ st=(o σ st).bind (zNQ a σ):=by
 unfold zFK zNQ zLs;rfl
theorem zIN{α:Type}{f:α→P}{g:α→PyData} (h:∀a,toD (f a)=some (g a)):∀l:List α,toDs (l.map f)=some (l.map g)
 |[]=>by rw[VS,toDs];rfl
 |a::l=>by rw[Jl,toDs,h,zIN h l];rfl
theorem zLV{α:Type}{f:α→P}{g:α→PyData} (h:∀a,toD (f a)=some (g a)) (ha:∀a b,PySem.W.alike (g a) (g b)=true) (ht:∀a,zNr (g a)=true) (hd:∀a,(g a).depth≤8) (l:List α):zMJ (l.map f)=true:=by
 unfold zMJ;rw[zIN h];show zIu _=true;unfold zIu;simp only[VR,Js,bX];refine⟨Jp.mpr fun a _=>Jp.mpr fun b _=>ha a b,.inl (Jp.mpr fun a _=>ht a),Jp.mpr fun a _=>?_⟩
 simpa using hd a
end
section
open Y NS
variable {σ:Sg}{st:List Cell}
@[simp]theorem mSrtSet_e(a:EM):zKN a σ st=(a σ st).bind zGE:=rfl
theorem zJh{w:W}{l:List P} (e:listOf st w=some l) (h1:setOk l=true) (h2:zMJ l=true):zGE w st=.ok (.p (.lst (srtD (ddK l)))) st:=by
 unfold zGE;simp only[e,h1,h2,and_self,Ye]
end
end YZ
namespace YS
open Y YZ NS
def zBg:FM:=runF 1 3 (sSeq (sSet 1 (zKN (mVar 0)))
  (sRet (mLc (mSrc (mVar 0)) (.nm 2) [2] mYes (mBm "list" zEq (mVar 1) %[(mVar 2)|0]) finP)))
mutual
theorem zQi:∀a b:NestedKey,PyData.eqv a.data b.data=true↔a=b
 | .none,.none=>by simp[NestedKey.data,PyData.eqv]
 | .num i,.num j=>by simp[NestedKey.data,PyData.eqv]
 | .text x,.text y=>by simp[NestedKey.data,PyData.eqv]
 | .tup ks,.tup ls=>by
  simp only[NestedKey.data,PyData.eqv,zMm ks ls,NestedKey.tup.injEq]
 | .none,.num _=>by simp[NestedKey.data,PyData.eqv]
 | .none,.text _=>by simp[NestedKey.data,PyData.eqv]
 | .none,.tup _=>by simp[NestedKey.data,PyData.eqv]
 | .num _,.none=>by simp[NestedKey.data,PyData.eqv]
 | .num _,.text _=>by simp[NestedKey.data,PyData.eqv]
 | .num _,.tup _=>by simp[NestedKey.data,PyData.eqv]
 | .text _,.none=>by simp[NestedKey.data,PyData.eqv]
 | .text _,.num _=>by simp[NestedKey.data,PyData.eqv]
 | .text _,.tup _=>by simp[NestedKey.data,PyData.eqv]
 | .tup _,.none=>by simp[NestedKey.data,PyData.eqv]
 | .tup _,.num _=>by simp[NestedKey.data,PyData.eqv]
 | .tup _,.text _=>by simp[NestedKey.data,PyData.eqv]
theorem zMm:∀ks ls:List NestedKey,PyData.eqvAll (NestedKey.datas ks) (NestedKey.datas ls)=true↔ks=ls
 |[],[]=>by simp[NestedKey.datas,PyData.eqvAll]
 |[],_::_=>by simp[NestedKey.datas,PyData.eqvAll]
 |_::_,[]=>by simp[NestedKey.datas,PyData.eqvAll]
 |k::ks,l::ls=>by
  simp only[NestedKey.datas,PyData.eqvAll,Js,zQi k l,zMm ks ls,VH]
end
structure Kys (l:List P):Prop where
 ok:∀x∈l,nkT x=some (nkOf x)
 few:l.length<64
 srt:zMJ l=true
 lay:∀x∈l,(nkOf x).data.canLay0=true
theorem Kys.set{l:List P} (h:Kys l):setOk l=true:=by
 unfold setOk;rw[Js,Jz];exact⟨Jp.mpr fun x hx=>by rw[h.ok x hx];rfl,h.few⟩
def ord(l:List P):List P:=srtD (ddK l)
theorem zGl{l:List P}{x:P} (h:x∈ord l):x∈l:=zD2 l x ((J9 _ _).mem_iff.mp h)
theorem ord_nd(l:List P):((ord l).map nkOf).Nodup:=((J9 _ _).map nkOf).nodup_iff.mpr (zLP l)
theorem zSl{l:List P}{x:P} (h:x∈l):nkOf x∈(ord l).map nkOf:=((J9 _ _).map nkOf).mem_iff.mpr (zHp l x h)
def pos(l:List P) (x:P):Nat:=(ord l).findIdx fun y=>decide (nkOf y=nkOf x)
theorem zKo{l:List P}{x:P} (h:x∈l):pos l x<(ord l).length:=by
 obtain⟨y,hy,e⟩:=Jj.mp (zSl h);exact List.findIdx_lt_length_of_exists ⟨y,hy,JD e⟩
theorem nk_eq{l:List P} (h:Kys l){x y:P} (hx:x∈l) (hy:y∈l) (e:nkOf x=nkOf y):x=y:=by
 obtain⟨_,_,e1,_⟩:=zCn (h.ok x hx);obtain⟨_,_,e2,_⟩:=zCn (h.ok y hy);rw[e]at e1;exact zJs e1 e2
theorem zN1{l:List P} (h:Kys l){x:P} (hx:x∈l):(ord l)[pos l x]?=some x:=by
 have hl:=zKo hx;rw[Ja hl];have e:=List.findIdx_getElem (w:=hl);rw[nk_eq h (zGl (JL hl)) hx (JB e)]
theorem pos_of{l:List P} (h:Kys l){j:Nat} (hj:j<(ord l).length):∃x∈l,pos l x=j:=by
 refine⟨(ord l)[j],zGl (JL hj),?_⟩;have hx:=zGl (JL hj);have e:=zN1 h hx;have hl:=zKo hx;have nd:=ord_nd l
 have e1:((ord l).map nkOf)[pos l (ord l)[j]]?=((ord l).map nkOf)[j]?:=by
  rw[Jd,Jd,e,Ja hj]
 exact(List.getElem?_inj (by rw[Jc];exact hl) nd).mp e1
theorem zSY{l:List P} (h:Kys l){x y:P} (hx:x∈l) (hy:y∈l) (e:pos l x=pos l y):x=y:=by
 have a:=zN1 h hx;rw[e,zN1 h hy]at a;exact(Jk a).symm
theorem zJO:∀ {l:List P},(∀x∈l,nkT x=some (nkOf x))→toDs l=some (l.map fun x=>(nkOf x).data)
 |[],_=>by rw[toDs];rfl
 |x::l,h=>by
  obtain⟨_,_,e,_⟩:=zCn (h x Jg);rw[toDs,zLl e,zJO fun y hy=>h y (Jf _ hy)]
  rfl
theorem zEe:∀ {l:List P},(∀x∈l,(nkOf x).data.canLay0=true)→PyData.canLayAll0 (l.map fun x=>(nkOf x).data)=true
 |[],_=>rfl
 |x::l,h=>by
  rw[Jl,PyData.canLayAll0,Js];exact⟨h x Jg,zEe fun y hy=>h y (Jf _ hy)⟩
mutual
theorem zIR:∀k:NestedKey,k.data.depth=k.depth
 | .none=>by rw[NestedKey.data,PyData.depth,NestedKey.depth]
 | .num _=>by rw[NestedKey.data,PyData.depth,NestedKey.depth]
 | .text _=>by rw[NestedKey.data,PyData.depth,NestedKey.depth]
 | .tup ks=>by rw[NestedKey.data,PyData.depth,NestedKey.depth,zJj ks]
theorem zJj:∀ks:List NestedKey,PyData.depthAll (NestedKey.datas ks)=NestedKey.depthAll ks
 |[]=>by rw[NestedKey.datas,PyData.depthAll,NestedKey.depthAll]
 |k::ks=>by rw[NestedKey.datas,PyData.depthAll,NestedKey.depthAll,zIR k,zJj ks]
end
theorem zFO:∀ {l:List P},(∀x∈l,nkT x=some (nkOf x))→PyData.depthAll (l.map fun x=>(nkOf x).data)≤8
 |[],_=>by rw[VS,PyData.depthAll];omega
 |x::l,h=>by
  obtain⟨_,_,_,d⟩:=zCn (h x Jg)
  have:=zFO fun y hy=>h y (Jf _ hy)
  rw[Jl,PyData.depthAll,zIR];omega
theorem zK9{l:List P} (h:Kys l){x:P} (hx:x∈l){w:W}{st:List Cell} (e:listOf st w=some (ord l)):zEq w [.p x] st=.ok (.p (.int (pos l x:Nat))) st:=by
 have ho:∀y∈ord l,nkT y=some (nkOf y):=fun y hy=>h.ok y (zGl hy)
 obtain⟨_,_,e1,d1⟩:=zCn (h.ok x hx);unfold zEq;simp only[e,zJO ho,zLl e1]
 have sh:(SeqAt.shaped (.list ((ord l).map fun x=>(nkOf x).data))&&SeqAt.shaped (nkOf x).data)=true:=by
  rw[Js];refine⟨?_,?_⟩
  ·unfold SeqAt.shaped;rw[Js,Jz,PyData.canLay0,PyData.depth];exact⟨zEe fun y hy=>h.lay y (zGl hy),by have:=zFO ho;omega⟩
  ·unfold SeqAt.shaped;rw[Js,Jz,zIR];exact⟨h.lay x hx,∅⟩
 have fi:((ord l).map fun x=>(nkOf x).data).findIdx? (fun z=>PyData.eqv z (nkOf x).data)=some (pos l x):=by
  rw[List.findIdx?_map]
  have ef:((fun z=>PyData.eqv z (nkOf x).data)∘fun x:P=>(nkOf x).data)=fun y=>decide (nkOf y=nkOf x):=by
   funext y
   rw[Vu,decide_eq_true_iff];exact zQi _ _
  rw[ef,List.findIdx?_eq_some_iff_findIdx_eq];exact⟨zKo hx,rfl⟩
 unfold ixD;rw[JW sh,fi]
theorem zFk{l:List P} (h:Kys l) (st:List Cell):zAM zBg [.p (.lst l)] st=.ok (.p (.lst ((l.map fun x=>((pos l x:Nat):Int)).map P.int))) st:=by
 refine Pu.call1 (Pu.of1 ?_) st;have v:=fun st=>zJh (st:=st) (w:=.p (.lst l)) rfl h.set h.srt
 have lim:l.length≤1000000:=by have:=h.few;omega
 have L:=zDA (f:=W.p) (l:=l) (t:=.nm 2) (e:=mBm "list" zEq (mVar 1) %[(mVar 2)|0]) (σ0:=[some (.p (.lst l)),some (.p (.lst (ord l))),none]) (st:=[]) (fun x=>P.int (pos l x:Nat)) fun x hx=>by
  refine⟨_,zBl _ _,?_⟩;have ix:=zK9 h hx (w:=.p (.lst (ord l))) (st:=[]) rfl;have tw:tyW [] (W.p (P.lst (ord l)))=some "list" := rfl;simp[ix,tw]
 have e:(l.map fun x=>P.int (pos l x:Nat))=(l.map fun x=>((pos l x:Nat):Int)).map P.int:=by rw[Jm];rfl
 rw[e]at L;have vo:srtD (ddK l)=ord l:=rfl;rw[vo]at v;simp[zBg,zAQ,v,lim,L]
end YS
namespace YZ
open Y
def bagC(ns:List Int) (a b s:Int):Cell:=.lst [.p (.lst (ns.map .int)),.p (.int a),.p (.int b),.p (.int s)]
def GB(c:Cell):Prop:=∃ns a b s,c=bagC ns a b s∧0≤a∧0≤b∧0≤s∧s<2147483587
theorem GB.plain{c:Cell} (h:GB c):zAx c=true:=by
 obtain⟨ns,a,b,s,rfl,_⟩:=h;rfl
def Gb(R:P→Prop) (r:Res W):Prop:=match r with
 | .ok (.p x) (c::_)=>GB c∧R x
 |_=>False
@[simp]theorem zPB(R:P→Prop) (x:P) (c:Cell) (l:List Cell):Gb R (.ok (.p x) (c::l))=(GB c∧R x):=rfl
@[simp]theorem Gb_ite{R:P→Prop}{c:Prop} [Decidable c] (a b:Res W):Gb R (if c then a else b)=if c then Gb R a else Gb R b:=by split<;>rfl
@[simp]theorem Gb_no(R:P→Prop):Gb R .no=False:=rfl
theorem Gb.ex{R:P→Prop}{r:Res W} (h:Gb R r):∃x c l,r=.ok (.p x) (c::l)∧GB c∧R x:=by
 unfold Gb at h;split at h
 ·exact⟨_,_,_,rfl,h.1,h.2⟩
 ·exact h.elim
def Bg(F:FM) (xs:List P) (R:P→Prop):Prop:=∀c,GB c→Gb R (F (.r 0::xs.map W.p) [c])
theorem Bg.call{F:FM}{xs:List P}{R:P→Prop} (h:Bg F xs R){c:Cell} (g:GB c) (rest:List Cell):∃x c',zAM F (.r 0::xs.map W.p) (c::rest)=.ok (.p x) (c'::rest)∧GB c'∧R x:=by
 obtain⟨x,c',l,e,g',hr⟩:=Gb.ex (h c g);refine⟨x,c',?_,g',hr⟩;have e1:argRefs (.r 0::xs.map W.p)=[0]:=by show 0::argRefs (xs.map W.p)=_;rw[zDK]
 have e2:argIn 0 (.r 0::xs.map W.p)=.r 0::xs.map W.p:=by show W.r 0::argIn 1 (xs.map W.p)=_;rw[zEP]
 unfold zAM;rw[e1,JW (by simp),e2]
 simp[Y.getCells,g.plain,e,Y.callEnd,Y.putCells,g'.plain]
theorem Bg.call1{F:FM}{y:P}{R:P→Prop} (h:Bg F [y] R){c:Cell} (g:GB c) (rest:List Cell):∃x c',zAM F [.r 0,.p y] (c::rest)=.ok (.p x) (c'::rest)∧GB c'∧R x:=h.call g rest
theorem Bg.call2{F:FM}{y z:P}{R:P→Prop} (h:Bg F [y,z] R){c:Cell} (g:GB c) (rest:List Cell):∃x c',zAM F [.r 0,.p y,.p z] (c::rest)=.ok (.p x) (c'::rest)∧GB c'∧R x:=h.call g rest
theorem Bg.call3{F:FM}{y z u:P}{R:P→Prop} (h:Bg F [y,z,u] R){c:Cell} (g:GB c) (rest:List Cell):∃x c',zAM F [.r 0,.p y,.p z,.p u] (c::rest)=.ok (.p x) (c'::rest)∧GB c'∧R x:=h.call g rest
end YZ
namespace YS
open Y YZ
def zCw:FM:=runF 1 3 (sSeq (sSet 1 (mC (.int 3845)))
  (sSeq (sFor (mSrc (mSl (mVar 0) zE4 (zFM (mC (.int 63))))) (.nm 2) (sSet 1 (mBin vMod (zAH vInt %[(mBin vAdd (mBin vAdd (mBin zHG (mVar 1) (mC (.int 48611))) (mBin vMod (zAH vInt %[(mVar 2)|0]) (mC (.int 2147483423)))) (mC (.int 31)))|0]) (mC (.int 2147483587)))))
  (sRet (zDB %[(zAH zGi %[(mSl (mVar 0) zE4 (zFM (mC (.int 63))))|0]),(mC (.int 0)),(mC (.int 0)),(mVar 1)|0]))))
def zAG:FM:=runF 2 5 (sSeq (sIf (zEX (mTst (mBin (vEqB false) (mBin vIx (mVar 0) (mC (.int 2))) (mC (.int 0)))) (mTst (mBin vLt (mBin vIx (mVar 0) (mC (.int 1))) (zAH vLen %[(mBin vIx (mVar 0) (mC (.int 0)))|0])))) (sSeq (sSet 3 (mBin vIx (mBin vIx (mVar 0) (mC (.int 0))) (mBin vIx (mVar 0) (mC (.int 1)))))
  (sSeq (zFG (mVar 0) (mC (.int 1)) (mBin vAdd (mBin vIx (mVar 0) (mC (.int 1))) (mC (.int 1))))
  (sIf (mTst (mBin vGe (mVar 3) (mBin vPow (mC (.int 10)) (mC (.int 18))))) (zFG (mVar 0) (mC (.int 2)) (mVar 3)) (zFG (mVar 0) (mC (.int 3)) (mBin vMod (zAH vInt %[(mBin vAdd (mBin vAdd (mBin zHG (mBin vIx (mVar 0) (mC (.int 3))) (mC (.int 45989))) (mBin zHG (mBin vMod (zAH vInt %[(mVar 3)|0]) (mC (.int 2147483423))) (mC (.int 1409)))) (mC (.int 23)))|0]) (mC (.int 2147483587))))))) sNx)
  (sSeq (sIf (mTst (mBin vGt (mBin vIx (mVar 0) (mC (.int 2))) (mC (.int 0)))) (sSeq (sSet 4 (mBin vMod (zAH vInt %[(mBin vIx (mVar 0) (mC (.int 2)))|0]) (mVar 1)))
  (sSeq (zFG (mVar 0) (mC (.int 2)) (mBin vFdv (mBin vIx (mVar 0) (mC (.int 2))) (mVar 1)))
  (sRet (mVar 4)))) sNx)
  (sSeq (sSet 2 (mBin vIx (mVar 0) (mC (.int 3))))
  (sSeq (zFG (mVar 0) (mC (.int 3)) (mBin vMod (zAH vInt %[(mBin vAdd (mBin vAdd (mBin zHG (mVar 2) (mVar 2)) (mBin zHG (mVar 2) (mC (.int 31013)))) (mC (.int 1400033)))|0]) (mC (.int 2147483587))))
  (sRet (mBin vMod (zAH vInt %[(mBin vAdd (mBin vFdv (mBin vIx (mVar 0) (mC (.int 3))) (mC (.int 71))) (mBin zHG (mBin vMod (zAH vInt %[(mBin vIx (mVar 0) (mC (.int 3)))|0]) (mC (.int 8087))) (mC (.int 61))))|0]) (mVar 1)))))))
def zAW:FM:=runF 2 2 (sRet (mBin vIx (mVar 1) (zAF zAG %[(mVar 0),(zAH vLen %[(mVar 1)|0])|0])))
def zAh:FM:=runF 2 4 (sSeq (sSet 2 (zDB mNil))
  (sSeq (sFor (mSrc (mVar 1)) (.nm 3) (zBo (mBm "list" zFV (mVar 2) %[(zAF zAG %[(mVar 0),(mBin vAdd (zAH vLen %[(mVar 2)|0]) (mC (.int 1)))|0]),(mVar 3)|0])))
  (sRet (mFrz (mVar 2)))))
theorem zLK{n:Int} (h0:0<n) (z:Int):0≤z%n∧z%n<n:=⟨Int.emod_nonneg _ ∅,Int.emod_lt_of_pos _ h0⟩
theorem GB.mk{ns:List Int}{a b s:Int} (ha:0≤a) (hb:0≤b) (hs:0≤s∧s<2147483587):GB (Cell.lst [W.p (P.lst (List.map P.int ns)),W.p (P.int a),W.p (P.int b),W.p (P.int s)]):=⟨ns,a,b,s,rfl,ha,hb,hs.1,hs.2⟩
theorem zAk{n:Int} (h0:0<n) (h1:n.natAbs.log2<9000):Bg zAG [.int n] fun x=>∃k:Int,x=.int k∧0≤k∧k<n:=by
 rintro c ⟨ns,a,b,s,rfl,ha,hb,hs,hs2⟩;have m1:zE7 s 45989=true:=mulOk_of (Sm.small ∅) (Sm.small ∅);have m2:∀z:Int,zE7 (z%2147483423) 1409=true:=fun z=>mulOk_of (Sm.small ∅) (Sm.small ∅)
 have m3:∀z:Int,zE7 (z%2147483587) (z%2147483587)=true:=fun z=>mulOk_of (Sm.small ∅) (Sm.small ∅)
 have m4:∀z:Int,zE7 (z%2147483587) 31013=true:=fun z=>mulOk_of (Sm.small ∅) (Sm.small ∅)
 have m5:∀z:Int,zE7 (z%8087) 61=true:=fun z=>mulOk_of (Sm.small ∅) (Sm.small ∅)
 have m6:zE7 s s=true:=mulOk_of (Sm.small ∅) (Sm.small ∅);have m7:zE7 s 31013=true:=mulOk_of (Sm.small ∅) (Sm.small ∅);have l71:Nat.log2 71<9000:=by decide
 have pm:=zLK h0;have p7:=zLK (n:=2147483587) (!0);have qn:0≤b/n:=Int.ediv_nonneg hb ∅
 by_cases hc:b=0∧a<ns.length
 ·obtain⟨rfl,hl⟩:=hc
  have hx:L2.atI (ns.map P.int) a=some (.int (ns[a.toNat]'(by omega))):=by
   rw[atI_nat ha,Jd,Ja ∅];rfl
  generalize ns[a.toNat]'(by omega)=x at hx
  by_cases hb2:(1000000000000000000:Int)≤x
  ·have hx0:0<x:=by omega
   have hxn:0≤x/n:=Int.ediv_nonneg ∅ ∅;simp[zAG,zAQ,bagC,hl,hx,hb2,hx0,h0,h1,GB.mk (show 0≤a+1 by omega) hxn ⟨hs,hs2⟩,pm]
  ·simp[zAG,zAQ,bagC,hl,hx,hb2,m1,m2,m3,m4,m5,l71,h0,h1,GB.mk (show 0≤a+1 by omega) (jh 0) (p7 _),pm]
 ·have hc':b=0→¬a<ns.length:=fun e h=>hc ⟨e,h⟩
  by_cases hb0:b=0
  ·subst hb0;simp[zAG,zAQ,bagC,hc' rfl,m6,m7,m5,l71,h0,h1,GB.mk ha (jh 0) (p7 _),pm]
  ·have hb1:0<b:=by omega
   simp[zAG,zAQ,bagC,hb0,hb1,h0,h1,GB.mk ha qn ⟨hs,hs2⟩,pm]
theorem zOy(ns:List Int):∃c,zAM zCw [.p (.scr ns)] []=.ok (.r 0) [c]∧GB c:=by
 have e2:∃s,zCw [.p (.scr ns)] []=.ok (.r 0) [bagC (ns.take 63) 0 0 s]∧0≤s∧s<2147483587:=by
  simp[zCw,zAQ];refine zAm (fun r=>∃s:Int,runR (r.then _)=Res.ok (W.r 0) [bagC (List.take 63 ns) 0 0 s]∧0≤s∧s<2147483587) (fun _ σ st=>∃s x,σ=[some (.p (.scr ns)),some (.p (.int s)),x]∧st=[]∧0≤s∧s<2147483587) ⟨3845,none,rfl,rfl,!0,!0⟩ ?_ ?_
  ·rintro i w σ st hw ⟨s,x,rfl,rfl,h1,h2⟩;have hm:=List.mem_of_mem_take (Ji hw);obtain⟨z,hz,rfl⟩:=Jj.mp hm;have m1:zE7 s 48611=true:=mulOk_of (Sm.small ∅) (Sm.small ∅)
   conv=>arg 3;simp[m1]
   exact⟨_,_,rfl,rfl,∅,∅⟩
  ·rintro σ st ⟨s,x,rfl,rfl,h1,h2⟩;refine⟨s,?_,h1,h2⟩;simp[bagC]
 obtain⟨s,e2,h1,h2⟩:=e2;refine⟨bagC (ns.take 63) 0 0 s,?_,ns.take 63,0,0,s,rfl,!0,!0,h1,h2⟩;unfold zAM;simp[argRefs,argIn,Y.getCells,e2,Y.callEnd,Y.putCells,bagC,zAx,content]
theorem zAT{n:Int} (h0:0≤n) (h:n≤1000000000):n.natAbs.log2<9000:=Nat.lt_trans (log2_lt (k:=30) (by have:(2:Nat)^30=1073741824:=rfl;omega) (!0)) (!0)
theorem zRl{l:List P} (h:l≠[]) (h1:l.length≤1000000):Bg zAW [.lst l] fun x=>x∈l:=by
 intro c hc;have hl:0<l.length:=List.length_pos_iff.mpr h;obtain⟨r,c',e,hc',k,rfl,k0,k1⟩:=(zAk (n:=l.length) ∅ (zAT ∅ ∅)).call1 hc [];have hk:L2.atI l k=some (l[k.toNat]'(by omega)):=by rw[atI_nat k0,Ja ∅]
 simp[zAW,zAQ,e,hk,hc']
theorem zIL{l:List P} (h1:l.length<100000):Bg zAh [.lst l] fun x=>∃m,x=.lst m∧m.Perm l:=by
 intro c hc;simp[zAh,zAQ];refine zAm (fun r=>Gb _ (runR (r.then _))) (fun i σ st=>∃x m c',σ=[some (.r 0),some (.p (.lst l)),some (.r 1),x]∧st=[c',.lst (m.map W.p)]∧GB c'∧m.Perm (l.take i)) ⟨none,[],c,rfl,rfl,hc,.nil⟩ ?_ ?_
 ·rintro i w σ st hw ⟨x,m,c1,rfl,rfl,h1c,hp⟩;rw[Jd]at hw;obtain⟨y,hy,rfl⟩:=Jx.mp hw;have hi:i<l.length:=(Jb.mp hy).1;have hml:m.length=i:=by rw[hp.length_eq,Vy];omega
  obtain⟨r,c2,e,hc2,k,rfl,k0,k1⟩:=(zAk (n:=m.length+1) ∅ (zAT ∅ ∅)).call1 h1c [.lst (m.map W.p)]
  conv=>arg 3;simp[e,k0,show m.length<1000000 by omega,show k≤1000000 by omega]
  refine⟨_,m.take k.toNat++y::m.drop k.toNat,c2,rfl,by simp,hc2,?_⟩
  rw[VD,hy];refine bQ.trans ?_
  rw[YN];refine List.Perm.trans (List.Perm.cons y hp) ?_
  exact(bf y _).symm
 ·rintro σ st ⟨x,m,c',rfl,rfl,hc',hp⟩;rw[Jc,Vk (JH _)]at hp;simp[hc',hp]
abbrev Arcs:=List (Int×Int)
inductive Rch (A:Arcs) (a:Int):Int→Prop
 |refl:Rch A a a
 |step {b c:Int}:Rch A a b→(b,c)∈A→Rch A a c
theorem Rch.trans{A:Arcs}{a b c:Int} (h:Rch A a b) (k:Rch A b c):Rch A a c:=by
 induction k with
 |refl=>exact h
 |step _ m ih=>exact .step ih m
theorem Rch.mono{A B:Arcs} (s:∀q∈A,q∈B){a b:Int} (h:Rch A a b):Rch B a b:=by
 induction h with
 |refl=>exact .refl
 |step _ m ih=>exact .step ih (s _ m)
def swp(q:Int×Int):Int×Int:=(q.2,q.1)
theorem Rch.back{A:Arcs}{a b:Int} (h:Rch A a b):Rch (A.map swp) b a:=by
 induction h with
 |refl=>exact .refl
 |@step b c _ m ih=>exact Rch.trans (.step .refl (Jj.mpr ⟨(b,c),m,rfl⟩)) ih
def InN(n:Nat) (A:Arcs):Prop:=∀q∈A,0≤q.1∧q.1<n∧0≤q.2∧q.2<n
theorem InN.swp{n:Nat}{A:Arcs} (h:InN n A):InN n (A.map swp):=fun q hq=>by
 obtain⟨p,hp,rfl⟩:=Jj.mp hq;obtain⟨h1,h2,h3,h4⟩:=h p hp;exact⟨h3,h4,h1,h2⟩
def Conn(n:Nat) (A:Arcs):Prop:=∀a b:Int,0≤a→a<n→0≤b→b<n→Rch A a b
theorem Conn.swp{n:Nat}{A:Arcs} (h:Conn n A):Conn n (A.map swp):=fun a b a0 a1 b0 b1=>(h b a b0 b1 a0 a1).back
theorem Conn.mono{n:Nat}{A B:Arcs} (h:Conn n A) (s:∀q∈A,q∈B):Conn n B:=fun a b a0 a1 b0 b1=>(h a b a0 a1 b0 b1).mono s
theorem Conn.of0{n:Nat}{A:Arcs} (h:∀b:Int,0≤b→b<n→Rch A 0 b) (k:∀b:Int,0≤b→b<n→Rch (A.map YS.swp) 0 b):Conn n A:=fun a b a0 a1 b0 b1=>by
 have z:=(k a a0 a1).back;have e:(A.map YS.swp).map YS.swp=A:=by rw[Jm];exact List.map_id'' (fun q=>rfl) A
 rw[e]at z;exact z.trans (h b b0 b1)
theorem zA6{α:Type} [DecidableEq α]:∀(l D:List α),l.Nodup→(∀x∈l,x∈D)→l.length≤D.length
 |[],_,_,_=>J3 _
 |x::l,D,hn,hs=>by
  obtain⟨h1,h2⟩:=JV.mp hn;have hx:x∈D:=hs x Jg
  have ih:=zA6 l (D.erase x) h2 fun y hy=>by
   have hne:y≠x:=fun e=>h1 (e▸hy)
   exact(List.mem_erase_of_ne hne).2 (hs y (Jf _ hy))
  have e:=List.length_erase_of_mem hx
  have:=List.length_pos_of_mem hx
  rw[JJ];omega
theorem zOU{α:Type} [DecidableEq α] {l D:List α} (hn:l.Nodup) (hs:∀x∈l,x∈D) (he:D.length≤l.length):∀y∈D,y∈l:=fun y hy=>by
 by_cases h:y∈l
 ·exact h
 ·exfalso
  have:=zA6 (y::l) D (JV.mpr ⟨h,hn⟩) fun x hx=>by
   rcases Jo.mp hx with rfl|hx
   ·exact hy
   ·exact hs x hx
  rw[JJ]at this;omega
def nodes(n:Nat):List Int:=(List.range n).map fun(i:Nat)=>(i:Int)
theorem zBr{n:Nat}{x:Int}:x∈nodes n↔0≤x∧x<n:=by
 unfold nodes;rw[Jj];constructor
 ·rintro⟨i,hi,rfl⟩
  have:=Jy.mp hi
  omega
 ·rintro⟨h1,h2⟩;exact⟨x.toNat,Jy.mpr ∅,∅⟩
theorem zGN(n:Nat):(nodes n).Nodup:=by
 unfold nodes;exact List.Pairwise.map _ (fun a b h e=>h (Int.ofNat_inj.mp e)) Yd
theorem zCH(n:Nat):(nodes n).length=n:=by unfold nodes;simp
structure RL (n:Nat) (A:Arcs) (b:Int) (l:List Int):Prop where
 nd:l.Nodup
 mem:∀x,x∈l↔Rch A b x
 inn:∀x∈l,0≤x∧x<n
theorem RL.le{n:Nat}{A:Arcs}{b:Int}{l:List Int} (h:RL n A b l):l.length≤n:=by
 have:=zA6 l (nodes n) h.nd fun x hx=>zBr.mpr (h.inn x hx)
 rwa [zCH]at this
theorem RL.full{n:Nat}{A:Arcs}{b:Int}{l:List Int} (h:RL n A b l):l.length=n↔∀x:Int,0≤x→x<n→Rch A b x:=by
 constructor
 ·intro e x h0 h1;exact(h.mem x).mp (zOU h.nd (fun x hx=>zBr.mpr (h.inn x hx)) (by rw[zCH];omega) x (zBr.mpr ⟨h0,h1⟩))
 ·intro e
  have:=zA6 (nodes n) l (zGN n) fun x hx=>by
   obtain⟨h0,h1⟩:=zBr.mp hx;exact(h.mem x).mpr (e x h0 h1)
  rw[zCH]at this
  have:=h.le
  omega
structure Bfs (n:Nat) (A:Arcs) (b:Int) (l:List Int) (i:Nat):Prop where
 nd:l.Nodup
 inn:∀x∈l,0≤x∧x<n
 rch:∀x∈l,Rch A b x
 beg:b∈l
 dn:∀(j:Nat) (x y:Int),j<i→l[j]?=some x→(x,y)∈A→y∈l
theorem Bfs.start{n:Nat}{A:Arcs}{b:Int} (h0:0≤b) (h1:b<n):Bfs n A b [b] 0 :=
 ⟨by simp,fun x hx=>by simp at hx;subst hx;exact⟨h0,h1⟩,fun x hx=>by simp at hx;subst hx;exact .refl,by simp,fun j x y hj=>by omega⟩
theorem Bfs.le{n:Nat}{A:Arcs}{b:Int}{l:List Int}{i:Nat} (h:Bfs n A b l i):l.length≤n:=by
 have:=zA6 l (nodes n) h.nd fun x hx=>zBr.mpr (h.inn x hx)
 rwa [zCH]at this
theorem Bfs.fin{n:Nat}{A:Arcs}{b:Int}{l:List Int}{i:Nat} (h:Bfs n A b l i) (hi:l.length≤i):RL n A b l:=by
 refine⟨h.nd,fun x=>⟨h.rch x,fun r=>?_⟩,h.inn⟩
 induction r with
 |refl=>exact h.beg
 |@step c d _ m ih =>
  obtain⟨j,hj⟩:=JF ih;exact h.dn j c d (by have:=(Jb.mp hj).1;omega) hj m
theorem Bfs.more{n:Nat}{A:Arcs}{b:Int}{l:List Int}{y:Int}{i:Nat} (h:Bfs n A b l i) (hi:i≤l.length) (hy:y∉l) (y0:0≤y∧y<n) (yr:Rch A b y):Bfs n A b (l++[y]) i:=by
 refine⟨Vx.mpr ⟨h.nd,by simp,fun a ha c hc=>?_⟩,fun x hx=>?_,fun x hx=>?_,Vr _ h.beg,fun j x z hj e a=>?_⟩
 ·simp at hc;subst hc;exact fun e=>hy (e▸ha)
 ·rcases JI.mp hx with hx|hx
  ·exact h.inn x hx
  ·simp at hx;subst hx;exact y0
 ·rcases JI.mp hx with hx|hx
  ·exact h.rch x hx
  ·simp at hx;subst hx;exact yr
 ·rw[Je ∅]at e;exact Vr _ (h.dn j x z hj e a)
theorem Bfs.next{n:Nat}{A:Arcs}{b:Int}{l:List Int}{i:Nat}{u:Int} (h:Bfs n A b l i) (hu:l[i]?=some u) (all:∀y,(u,y)∈A→y∈l):Bfs n A b l (i+1):=by
 refine⟨h.nd,h.inn,h.rch,h.beg,fun j x y hj e a=>?_⟩
 by_cases hl:j<i
 ·exact h.dn j x y hl e a
 ·obtain rfl:j=i:=by omega
  rw[hu]at e;cases e;exact all y a
def tgs(A:Arcs) (v:Int):List Int:=(A.filter fun q=>decide (q.1=v)).map (·.2)
theorem zIX{A:Arcs}{v y:Int}:y∈tgs A v↔(v,y)∈A:=by
 unfold tgs;rw[Jj];constructor
 ·rintro⟨q,hq,rfl⟩;obtain⟨h1,h2⟩:=Yi.mp hq
  have:=JB h2
  subst this;exact h1
 ·intro h;exact⟨(v,y),Yi.mpr ⟨h,by simp⟩,rfl⟩
theorem zKy(A:Arcs) (q:Int×Int) (v:Int):tgs (A++[q]) v=if q.1=v then tgs A v++[q.2]else tgs A v:=by
 unfold tgs;rw[List.filter_append]
 by_cases h:q.1=v<;>simp[h,Vv]
def cyc(o:List Int):Arcs:=(List.range o.length).map fun k=>(o.getD k 0,o.getD ((k+1)%o.length) 0)
theorem zH6{n:Nat}{o:List Int} (p:o.Perm (nodes n)):Conn n (cyc o):=by
 have hl:o.length=n:=by rw[p.length_eq,zCH]
 have arc:∀k,k<n→(o.getD k 0,o.getD ((k+1)%n) 0)∈cyc o:=fun k hk=>by
  unfold cyc;rw[hl];exact Jj.mpr ⟨k,Jy.mpr hk,rfl⟩
 have far:∀(j k:Nat),k<n→Rch (cyc o) (o.getD k 0) (o.getD ((k+j)%n) 0):=by
  intro j
  induction j with
  |zero=>intro k hk;rw[Nat.add_zero,Nat.mod_eq_of_lt hk];exact .refl
  |succ j ih =>
   intro k hk;refine .step (ih k hk) ?_
   have:=arc ((k+j)%n) (jc _ ∅)
   rw[show((k+j)%n+1)%n=(k+(j+1))%n by rw[Nat.mod_add_mod,Nat.add_assoc]]at this
   exact this
 intro a b a0 a1 b0 b1;obtain⟨i,hi⟩:=JF (p.mem_iff.mpr (zBr.mpr ⟨a0,a1⟩));obtain⟨j,hj⟩:=JF (p.mem_iff.mpr (zBr.mpr ⟨b0,b1⟩));have li:=(Jb.mp hi).1;have lj:=(Jb.mp hj).1;have ei:o.getD i 0=a:=by rw[J0,hi];rfl
 have ej:o.getD j 0=b:=by rw[J0,hj];rfl
 have z:=far (n-i+j) i ∅;rw[show i+(n-i+j)=j+n by omega,Nat.add_mod_right,Nat.mod_eq_of_lt ∅,ei,ej]at z
 exact z
theorem zM3{n:Nat}{o:List Int} (p:o.Perm (nodes n)):InN n (cyc o):=by
 have hl:o.length=n:=by rw[p.length_eq,zCH]
 have g:∀k,k<n→0≤o.getD k 0∧o.getD k 0<n:=fun k hk=>by
  have e:o.getD k 0=o[k]:=by rw[J0,Ja ∅];rfl
  rw[e];exact zBr.mp (p.mem_iff.mp (JL _))
 intro q hq;unfold cyc at hq;rw[hl]at hq;obtain⟨k,hk,rfl⟩:=Jj.mp hq;have hk:=Jy.mp hk;obtain⟨h1,h2⟩:=g k hk;obtain⟨h3,h4⟩:=g ((k+1)%n) (jc _ ∅);exact⟨h1,h2,h3,h4⟩
def zJa:List (Str×Str):=[("at least", ">="),("at most", "<="),("equal", "=")]
def zCB:FM:=runF 1 1 (sRet (zCu (mIsi "int" (mVar 0)) (zJu (mIsi "bool" (mVar 0)))))
def zAf:FM:=runF 3 3 (sRet (zCu (zAF zCB %[(mVar 0)|0]) (zGQ vLe vLe (mVar 1) (mVar 0) (mVar 2))))
inductive Wd where
 |ge|le|eq
def Wd.s:Wd→Str
 | .ge=>Str.ofString "at least"
 | .le=>Str.ofString "at most"
 | .eq=>Str.ofString "equal"
inductive Tr where
 |at(w:Wd) (a b c n:Int)
 |rest (a b c d n:Int)
 |no (t:Tr)
 |op (b:Bool) (l:List Tr)
abbrev T3(a b c:Int):P:=.tup [.int a,.int b,.int c]
def opw(b:Bool):Str:=if b=true then Str.ofString "and" else Str.ofString "or"
mutual
def Tr.enc:Tr→P
 | .at w a b c n=>.tup [.str w.s,T3 a b c,.int n]
 | .rest a b c d n=>.tup [.str (Str.ofString "rest"),T3 a b c,.int d,.int n]
 | .no t=>.tup [.str (Str.ofString "not"),t.enc]
 | .op b l=>.tup (.str (opw b)::Tr.encs l)
def Tr.encs:List Tr→List P
 |[]=>[]
 |t::l=>t.enc::Tr.encs l
end
mutual
def Tr.depth:Tr→Nat
 | .at .. => 1
 | .rest .. => 1
 | .no t=>t.depth+1
 | .op _ l=>Tr.depths l+1
def Tr.depths:List Tr→Nat
 |[]=>0
 |t::l=>max t.depth (Tr.depths l)
end
theorem zIb(i:Int) (st:List Cell):zAM zCB [.p (.int i)] st=.ok (.p (.bl true)) st:=by
 refine Pu.call1 (Pu.of1 ?_) st;simp[zCB,zAQ]
theorem zDm(i a b:Int) (st:List Cell):zAM zAf [.p (.int i),.p (.int a),.p (.int b)] st=.ok (.p (.bl (decide (a≤i∧i≤b)))) st:=by
 refine Pu.call3 (Pu.of3 ?_) st
 by_cases h:a≤i<;>by_cases h2:i≤b<;>simp[zAf,zAQ,zIb,h,h2]
theorem Wd.lk(w:Wd):(zJa.lookup w.s).isSome=true:=by cases w<;>decide +kernel
def wt(a b c x y z:Int):Int:=a*x+(b*y+c*z)
def ans(x y z:Int):Tr→Bool
 | .at .ge a b c n=>decide (n≤wt a b c x y z)
 | .at .le a b c n=>decide (wt a b c x y z≤n)
 | .at .eq a b c n=>wt a b c x y z==n
 | .rest a b c d n=>wt a b c x y z%d==n
 |_=>false
def far(x y z:Int):Tr→Bool
 | .at w a b c n=>if wt a b c x y z=0 then ans 0 0 0 (.at w a b c n)else match w with
  | .ge=>decide (0<wt a b c x y z)
  | .le=>decide (wt a b c x y z<0)
  | .eq=>false
 | .rest a b c d n=>n==0
 |_=>false
def tb:Nat→Nat
 |0=>60
 |n+1=>4*tb n+40
def Tr.tail:Tr→List P
 | .at _ a b c n=>[T3 a b c,.int n]
 | .rest a b c d n=>[T3 a b c,.int d,.int n]
 | .no t=>[t.enc]
 | .op _ l=>l.map Tr.enc
theorem join_eq(a:Str) (ys:List Str):Txt.join a ys=Str.join a ys:=PySem.StrLaws.glued_eq_join a ys
def FM3(m a b c:Int):Prop:=(-m≤a∧a≤m)∧(-m≤b∧b≤m)∧(-m≤c∧c≤m)∧¬(a=0∧b=0∧c=0)
mutual
def Tr.ok(m b:Int):Tr→Prop
 | .at _ x y z n=>FM3 m x y z ∧ -b≤n∧n≤b
 | .rest x y z d n=>FM3 m x y z∧2≤d∧d≤5∧0≤n∧n<d
 | .no t=>t.ok m b
 | .op _ l=>2≤l.length∧l.length≤4∧Tr.oks m b l
def Tr.oks(m b:Int):List Tr→Prop
 |[]=>True
 |t::l=>t.ok m b∧Tr.oks m b l
end
theorem zKr{α β:Type}{f:α→β}:∀ {m k:List β},m.Perm k→∀l:List α,k=l.map f→∃l':List α,m=l'.map f∧l'.Perm l:=by
 intro m k h
 induction h with
 |nil=>intro l e;cases l with
  |nil=>exact⟨[],rfl,.nil⟩
  |cons a l=>cases e
 |cons x h ih=>intro l e;cases l with
  |nil=>cases e
  |cons a l =>
   rw[Jl]at e;obtain⟨e1,e2⟩:=VP e;subst e1;obtain⟨l',rfl,p⟩:=ih l e2;exact⟨a::l',rfl,p.cons a⟩
 |swap x y k=>intro l e;cases l with
  |nil=>cases e
  |cons a l=>cases l with
   |nil=>cases e
   |cons b l =>
    rw[Jl,Jl]at e;obtain⟨e1,e2⟩:=VP e;obtain⟨e3,e4⟩:=VP e2;subst e1 e3 e4;exact⟨b::a::l,rfl,.swap a b l⟩
 |trans h1 h2 ih1 ih2=>intro l e;obtain⟨l2,e2,p2⟩:=ih2 l e;obtain⟨l1,e1,p1⟩:=ih1 l2 e2;exact⟨l1,e1,p1.trans p2⟩
def fl(x:Int):Int:=if 0<x then 1 else 0
def zID:P:=.tup [.str "heard",.str "counted",.str "two-way",.str "marked"]
def zCY:FM:=runF 0 0 (sRet (mLst %[(mC (.str "heard")),(mC (.str "counted")),(mC (.str "two-way")),(mC (.str "marked"))|0]))
inductive Wy where
 |heard|counted|two|marked
def Wy.s:Wy→Str
 | .heard=>Str.ofString "heard"
 | .counted=>Str.ofString "counted"
 | .two=>Str.ofString "two-way"
 | .marked=>Str.ofString "marked"
theorem zG4(st:List Cell):zAM zCY [] st=.ok (.p (.lst [.str (Str.ofString "heard"),.str (Str.ofString "counted"),.str (Str.ofString "two-way"),.str (Str.ofString "marked")])) st:=by
 refine Pu.call (xs:=[]) ?_ st;show Gv (zCY [] []) _;simp[zCY,zAQ]
def BB:Int:=10000000000000000000000000000000000000000
def zAY:Nat→FM
 |0=>fun _ _=>.no
 |n+1=>runF 2 4 (sSeq (sIf (mOrT (mTru (mIsi "list" (mVar 1))) (mTru (mIsi "tuple" (mVar 1)))) (sSeq (sIf (mOrT (mTst (mBin (vEqB true) (mIsi "list" (mVar 0)) (mIsi "list" (mVar 1)))) (mTst (mBin (vEqB true) (mIsi "tuple" (mVar 0)) (mIsi "tuple" (mVar 1))))) (sRet (mC (.bl false))) sNx)
  (sRet (zCu (mBin (vEqB false) (zAH vLen %[(mVar 0)|0]) (zAH vLen %[(mVar 1)|0])) (zAH (zGy fun bs=>bs.all id) %[(mLc (zS0 (mVar 0) (mVar 1)) (.tp [(.nm 2),(.nm 3)]) [2,3] mYes (zAF (zAY n) %[(mVar 2),(mVar 3)|0]) finP)|0])))) sNx)
  (sSeq (sIf (mOrT (mTst (mBin (vIsN false) (mVar 1) (mC .non))) (mTst (mBin (vIsN false) (mVar 0) (mC .non)))) (sRet (zCu (mBin (vIsN false) (mVar 1) (mC .non)) (mBin (vIsN false) (mVar 0) (mC .non)))) sNx)
  (sSeq (sIf (mOrT (mTst (mBin (vEqB true) (mIsi "bool" (mVar 0)) (mIsi "bool" (mVar 1)))) (mTst (mBin (vEqB true) (mIsi "int" (mVar 0)) (mIsi "int" (mVar 1))))) (sRet (mC (.bl false))) sNx)
  (sRet (zCu (mBin (vEqB false) (mIsi "str" (mVar 0)) (mIsi "str" (mVar 1))) (mBin (vEqB false) (mVar 0) (mVar 1)))))))
def datP:Nat→P→Bool
 |_,.non=>true
 |_,.bl _=>true
 |_,.int _=>true
 |_,.str _=>true
 |n+1,.tup l=>decide (l.length≤100000)&&l.all (datP n)
 |n+1,.lst l=>decide (l.length≤100000)&&l.all (datP n)
 |_,_=>false
theorem zGO:∀l:List P,zipL l l=l.map fun x=>.p (.tup [x,x])
 |[]=>rfl
 |x::l=>by rw[zM1,zGO l];rfl
theorem same_refl:∀(n:Nat) (x:P),datP n x=true→∀st,zAM (zAY (n+1)) [.p x,.p x] st=.ok (.p (.bl true)) st:=by
 intro n
 induction n with
 |zero =>
  intro x h st;refine Pu.call2 (Pu.of2 ?_) st;cases x with
  |non=>simp[zAY,zAQ]
  |bl b=>simp[zAY,zAQ]
  |int b=>simp[zAY,zAQ]
  |str b=>simp[zAY,zAQ]
  |tup l=>rw[datP]at h<;>first|cases h|(intros;contradiction)
  |lst l=>rw[datP]at h<;>first|cases h|(intros;contradiction)
  |scr l=>rw[datP]at h<;>first|cases h|(intros;contradiction)
  |dk _ _=>rw[datP]at h<;>first|cases h|(intros;contradiction)
  |obj _ _=>rw[datP]at h<;>first|cases h|(intros;contradiction)
  |exn _ _=>rw[datP]at h<;>first|cases h|(intros;contradiction)
  |lam _ _=>rw[datP]at h<;>first|cases h|(intros;contradiction)
  |cls _=>rw[datP]at h<;>first|cases h|(intros;contradiction)
  |fd _ _=>rw[datP]at h<;>first|cases h|(intros;contradiction)
  |fn _ _=>rw[datP]at h<;>first|cases h|(intros;contradiction)
 |succ n ih =>
  intro x h st;refine Pu.call2 (Pu.of2 ?_) st;cases x with
  |non=>simp[zAY,zAQ]
  |bl b=>simp[zAY,zAQ]
  |int b=>simp[zAY,zAQ]
  |str b=>simp[zAY,zAQ]
  |tup l =>
   rw[datP,Js]at h;have hl:=JB h.1;rw[zAY,zAQ];simp[zGO,show l.length≤1000000 by omega]
   rw[zFz (fun _=>.bl true) (fun x mx=>⟨_,by simp;rfl,by simp[ih x (Jp.mp h.2 x mx)]⟩)]
   simp
  |lst l =>
   rw[datP,Js]at h;have hl:=JB h.1;rw[zAY,zAQ];simp[zGO,show l.length≤1000000 by omega]
   rw[zFz (fun _=>.bl true) (fun x mx=>⟨_,by simp;rfl,by simp[ih x (Jp.mp h.2 x mx)]⟩)]
   simp
  |scr l=>rw[datP]at h<;>first|cases h|(intros;contradiction)
  |dk _ _=>rw[datP]at h<;>first|cases h|(intros;contradiction)
  |obj _ _=>rw[datP]at h<;>first|cases h|(intros;contradiction)
  |exn _ _=>rw[datP]at h<;>first|cases h|(intros;contradiction)
  |lam _ _=>rw[datP]at h<;>first|cases h|(intros;contradiction)
  |cls _=>rw[datP]at h<;>first|cases h|(intros;contradiction)
  |fd _ _=>rw[datP]at h<;>first|cases h|(intros;contradiction)
  |fn _ _=>rw[datP]at h<;>first|cases h|(intros;contradiction)
def zAU:FM:=runF 3 3 (sRet (zCu (mIsi "int" (mVar 0)) (zCu (zJu (mIsi "bool" (mVar 0))) (zGQ vLe vLe (mVar 1) (mVar 0) (mVar 2)))))
def zCh:FM:=runX 1 1 (sIf (mOrT (zBq (mTru (mIsi "str" (mVar 0)))) (mTst (mBin (vInB true) (mVar 0) (mC zID)))) (zEE 22 (mVar 0) "InvalidWay") sNx)
theorem zMP(w:Wy) (st:List Cell):zAM zCh [.p (.str w.s)] st=.ok (.p .non) st:=by
 refine Pu.call1 (Pu.of1 ?_) st;cases w<;>simp[zCh,zCs,zID,Wy.s]
theorem zFY{i a b:Int} (st:List Cell):zAM zAU [.p (.int i),.p (.int a),.p (.int b)] st=.ok (.p (.bl (decide (a≤i)&&decide (i≤b)))) st:=by
 refine Pu.call3 (Pu.of3 ?_) st
 by_cases h:a≤i<;>simp[zAU,zAQ,h]
theorem zFs{i:Bool}{a b:Int} (st:List Cell):zAM zAU [.p (.bl i),.p (.int a),.p (.int b)] st=.ok (.p (.bl false)) st:=by
 refine Pu.call3 (Pu.of3 ?_) st;simp[zAU,zAQ]
def zBW:FM:=runF 3 10 (sSeq (sSet 3 (mLc (zBO (mVar 0)) (.nm 9) [9] mYes (zDB mNil) finC))
  (sSeq (sFor (mSrc (mVar 1)) (.tp [(.nm 4),(.nm 5)]) (zBo (mBm "list" zAs (mBin vIx (mVar 3) (mVar 4)) %[(mVar 5)|0])))
  (sSeq (zJ0 6 7 8 %[(zDB %[(mVar 2)|0]),(zHU (mVar 2) (mC (.bl true))),(mC (.int 0))|0])
  (sSeq (zD8 1000 (mTst (mBin vLt (mVar 8) (zAH vLen %[(mVar 6)|0]))) (sSeq (sFor (mSrc (mBin vIx (mVar 3) (mBin vIx (mVar 6) (mVar 8)))) (.nm 9) (sIf (mTst (mBin (vInK true) (mVar 9) (mVar 7))) (sSeq (zFx (mVar 7) (mVar 9) (mC (.bl true)))
  (zBo (mBm "list" zAs (mVar 6) %[(mVar 9)|0]))) sNx))
  (sAug 8 zIO (mC (.int 1)))))
  (sRet (mFrz (mVar 6)))))))
def zBe:FM:=runF 2 5 (sSeq (sSet 2 (mLc (mSrc (mVar 1)) (.tp [(.nm 3),(.nm 4)]) [3,4] mYes (mTup %[(mVar 4),(mVar 3)|0]) finP))
  (sRet (zCu (mBin (vEqB false) (zAH vLen %[(zAF zBW %[(mVar 0),(mVar 1),(mC (.int 0))|0])|0]) (mVar 0)) (mBin (vEqB false) (zAH vLen %[(zAF zBW %[(mVar 0),(mVar 2),(mC (.int 0))|0])|0]) (mVar 0)))))
def zCD:FM:=runF 2 8 (sSeq (sPut (.tp [(.nm 2),(.nm 3)]) (mTup %[(mLst %[(mC (.int 0))|0]),(mC (.int 0))|0]))
  (sSeq (zD8 1000 (mTst (mBin vLt (mVar 3) (zAH vLen %[(mVar 2)|0]))) (sSeq (sSet 4 (mLc (mSrc (mVar 1)) (.tp [(.nm 5),(.nm 6)]) [5,6] (mTst (mBin (vEqB false) (mVar 5) (mBin vIx (mVar 2) (mVar 3)))) (mVar 6) finP))
  (sSeq (sSet 2 (mBin vAdd (mVar 2) (mLc (zBO (mVar 0)) (.nm 7) [7] (zEX (mTst (mBin (vInB false) (mVar 7) (mVar 4))) (mTst (mBin (vInB true) (mVar 7) (mVar 2)))) (mVar 7) finP)))
  (sSet 3 (mBin vAdd (mVar 3) (mC (.int 1)))))))
  (sRet (mVar 2))))
def zAp:FM:=runF 2 5 (sSeq (sSet 2 (mLc (mSrc (mVar 1)) (.tp [(.nm 3),(.nm 4)]) [3,4] mYes (mTup %[(mVar 4),(mVar 3)|0]) finP))
  (sRet (zCu (mBin (vEqB false) (zAH vLen %[(zAF zCD %[(mVar 0),(mVar 1)|0])|0]) (mVar 0)) (mBin (vEqB false) (zAH vLen %[(zAF zCD %[(mVar 0),(mVar 2)|0])|0]) (mVar 0)))))
def Gc(v:P) (c:Cell) (r:Res W):Prop:=match r with
 | .ok (.p x) (d::_)=>x=v∧d=c
 |_=>False
@[simp]theorem Gc_ok(v x:P) (c d:Cell) (l:List Cell):Gc v c (.ok (.p x) (d::l))=(x=v∧d=c):=rfl
theorem Gc.ex{v:P}{c:Cell}{r:Res W} (h:Gc v c r):∃l,r=.ok (.p v) (c::l):=by
 unfold Gc at h;split at h
 ·obtain⟨rfl,rfl⟩:=h;exact⟨_,rfl⟩
 ·exact h.elim
theorem zHu{α:Type}{l:List α}{i:Nat}{c:α} (h:l[i]?=some c):l.set i c=l:=by
 obtain⟨hi,e⟩:=Jb.mp h;rw[←e];exact List.set_getElem_self hi
theorem Gc.call{F:FM}{ws ws':List W}{v:P}{c:Cell}{st:List Cell}{i:Nat} (e1:argRefs ws=[i]) (e2:argIn 0 ws=ws') (h:Gc v c (F ws' [c])) (hp:zAx c=true) (hi:st[i]?=some c):zAM F ws st=.ok (.p v) st:=by
 obtain⟨l,e⟩:=h.ex;unfold zAM;rw[e1,JW (by simp),e2]
 simp[Y.getCells,hi,hp,e,Y.callEnd,Y.putCells,zHu hi]
theorem Gc.call3{F:FM}{x y v:P}{c:Cell}{st:List Cell}{i:Nat} (h:Gc v c (F [.p x,.r 0,.p y] [c])) (hp:zAx c=true) (hi:st[i]?=some c):zAM F [.p x,.r i,.p y] st=.ok (.p v) st:=Gc.call rfl rfl h hp hi
theorem Gc.call2{F:FM}{x v:P}{c:Cell}{st:List Cell}{i:Nat} (h:Gc v c (F [.p x,.r 0] [c])) (hp:zAx c=true) (hi:st[i]?=some c):zAM F [.p x,.r i] st=.ok (.p v) st:=Gc.call rfl rfl h hp hi
def wI(l:List Int):List W:=l.map fun y=>W.p (.int y)
def gls(A:Arcs) (n:Nat):List Cell:=(List.range n).map fun(v:Nat)=>Cell.lst (wI (tgs A v))
def rfs(b n:Nat):Cell:=.lst ((List.range n).map fun v=>W.r (b+v))
def knw(l:List Int):Cell:=.dk (l.map Sum.inl) (l.map fun _=>W.p (.bl true))
def stt(B:List Cell) (A:Arcs) (n:Nat) (l:List Cell):List Cell:=B++(gls A n++(rfs B.length n::l))
theorem zDo(A:Arcs) (n:Nat):(gls A n).length=n:=by unfold gls;simp
theorem zNd(B:List Cell) (A:Arcs) (n:Nat) (l:List Cell):(stt B A n l).length=B.length+(n+(l.length+1)):=by unfold stt;simp[zDo]
theorem stt_g{B:List Cell}{A:Arcs}{n:Nat}{l:List Cell}{v:Nat} (h:v<n):(stt B A n l)[B.length+v]?=some (.lst (wI (tgs A v))):=by
 unfold stt;rw[Jq ∅,YH,Je (by rw[zDo];exact h)]
 unfold gls;rw[Jd,JZ h];rfl
theorem stt_r{B:List Cell}{A:Arcs}{n:Nat}{l:List Cell}:(stt B A n l)[B.length+n]?=some (rfs B.length n):=by
 unfold stt;rw[Jq ∅,YH,Jq (by rw[zDo];omega),zDo,Nat.sub_self]
 rfl
theorem zSD{B:List Cell}{A:Arcs}{n j:Nat}{l:List Cell}:(stt B A n l)[B.length+n+1+j]?=l[j]?:=by
 unfold stt;rw[Jq ∅,Jq (by rw[zDo];omega),zDo,show B.length+n+1+j-B.length-n=j+1 by omega,Vo]
theorem zIA{B:List Cell}{A:Arcs}{n j:Nat}{l:List Cell}{c:Cell}:(stt B A n l).set (B.length+n+1+j) c=stt B A n (l.set j c):=by
 unfold stt;rw[YO _ _ ∅,YO _ _ (by rw[zDo];omega),zDo,show B.length+n+1+j-B.length-n=j+1 by omega,List.set_cons_succ]
theorem zP4{B:List Cell}{A:Arcs}{n v:Nat}{l:List Cell}{y:Int} (h:v<n):(stt B A n l).set (B.length+v) (.lst (wI (tgs A v)++[.p (.int y)]))=stt B (A++[((v:Int),y)]) n l:=by
 unfold stt;rw[YO _ _ ∅,YH,List.set_append_left _ _ (by rw[zDo];exact h)]
 congr 2
 unfold gls;apply Yk;intro i
 by_cases hi:i<n
 ·by_cases e:i=v
  ·subst e;rw[Jw (by simpa using hi),Jd,JZ hi,VF,zKy,JW rfl]
   unfold wI;rw[JE];rfl
  ·rw[Jv (bo e),Jd,Jd,JZ hi,VF,VF,zKy,Vh (by simp only;omega)]
 ·rw[Jt (by simpa using hi),Jt (by simpa using hi)]
theorem zLE{B:List Cell}{A:Arcs}{n:Nat}{l:List Cell}{c:Cell}:stt B A n l++[c]=stt B A n (l++[c]):=by
 unfold stt;simp
theorem zF2(l:List Int) (y:Int):hasK (l.map Sum.inl) (.inl y)=decide (y∈l):=by
 unfold hasK;rw[Vu];simp
theorem zOV{l:List Int}{y:Int} (h:y∉l):Cell.dk (zEA (l.map Sum.inl) (l.map fun _=>W.p (.bl true)) (.inl y) (.p (.bl true))).1 (zEA (l.map Sum.inl) (l.map fun _=>W.p (.bl true)) (.inl y) (.p (.bl true))).2=knw (l++[y]):=by
 unfold zEA;rw[Vh (by rw[zF2];simpa using h)]
 unfold knw;simp
def AsL(w:W) (B:List Cell) (A:Arcs):Prop:=(w=.p (.lst (A.map tupP))∧B=[])∨(w=.r 0∧B=[.lst (A.map (W.p∘tupP))])
def rD3:SMm:=(sSeq (sFor (mSrc (mVar 1)) (.tp [(.nm 4),(.nm 5)]) (zBo (mBm "list" zAs (mBin vIx (mVar 3) (mVar 4)) %[(mVar 5)|0])))
  (sSeq (zJ0 6 7 8 %[(zDB %[(mVar 2)|0]),(zHU (mVar 2) (mC (.bl true))),(mC (.int 0))|0])
  (sSeq (zD8 1000 (mTst (mBin vLt (mVar 8) (zAH vLen %[(mVar 6)|0]))) (sSeq (sFor (mSrc (mBin vIx (mVar 3) (mBin vIx (mVar 6) (mVar 8)))) (.nm 9) (sIf (mTst (mBin (vInK true) (mVar 9) (mVar 7))) (sSeq (zFx (mVar 7) (mVar 9) (mC (.bl true)))
  (zBo (mBm "list" zAs (mVar 6) %[(mVar 9)|0]))) sNx))
  (sAug 8 zIO (mC (.int 1)))))
  (sRet (mFrz (mVar 6))))))
theorem zKT:zBW=runF 3 10 (sSeq (sSet 3 (mLc (zBO (mVar 0)) (.nm 9) [9] mYes (zDB mNil) finC)) rD3):=rfl
theorem goals0(w:W) (B:List Cell) (n:Nat) (hn:n≤1000) (b:Int) :
    sSet 3 (mLc (zBO (mVar 0)) (.nm 9) [9] mYes (zDB mNil) finC) [some (.p (.int n)),some w,some (.p (.int b)),none,none,none,none,none,none,none] B
     = .ok .nx [some (.p (.int n)),some w,some (.p (.int b)),some (.r (B.length+n)),none,none,none,none,none,none] (stt B [] n []):=by
  simp[show n≤1000000 by omega,show -1000000≤(n:Int) by omega,show(n:Int)≤1000000 by omega]
  refine zHt (fun r=>(r.bind finC).to _ (setK 3 _)=_) (fun i acc st=>acc=(List.range i).map (fun v=>W.r (B.length+v))∧st=B++List.replicate i (.lst [])) ⟨rfl,by simp⟩ ?_ ?_
  · rintro i v acc st hv hl ⟨rfl,rfl⟩
    simp[V8,List.replicate_succ']
  · rintro ws st hl ⟨rfl,rfl⟩
    rw[zCg]
    have e:gls [] n=List.replicate n (.lst []):=by
      unfold gls tgs wI;simp;rw[List.map_const',JN]
    simp[stt,e,rfs]
theorem goals1{w:W}{B:List Cell}{A:Arcs}{n:Nat} (hw:AsL w B A) (hA:InN n A) (hl:A.length≤1000) (b:Int) (k:SMm) (F:SR→Prop)
  (hF:∀a4 a5,F (k [some (.p (.int n)),some w,some (.p (.int b)),some (.r (B.length+n)),a4,a5,none,none,none,none] (stt B A n []))) :
  F ((sFor (mSrc (mVar 1)) (.tp [(.nm 4),(.nm 5)]) (zBo (mBm "list" zAs (mBin vIx (mVar 3) (mVar 4)) %[(mVar 5)|0])) [some (.p (.int n)),some w,some (.p (.int b)),some (.r (B.length+n)),none,none,none,none,none,none] (stt B [] n [])).then k):=by
 have stp:∀(i:Nat) (v:W) σ st,(A.map (W.p∘tupP))[i]?=some v→(∃a4 a5,σ=[some (.p (.int n)),some w,some (.p (.int b)),some (.r (B.length+n)),a4,a5,none,none,none,none]∧st=stt B (A.take i) n []) →
   Sq (fun σ st=>∃a4 a5,σ=[some (.p (.int n)),some w,some (.p (.int b)),some (.r (B.length+n)),a4,a5,none,none,none,none]∧st=stt B (A.take (i+1)) n []) (fun r=>F (r.then k)) (zFW (.tp [(.nm 4),(.nm 5)]) (zBo (mBm "list" zAs (mBin vIx (mVar 3) (mVar 4)) %[(mVar 5)|0])) v σ st):=by
  rintro i v σ st hv ⟨a4,a5,rfl,rfl⟩;rw[Jd]at hv;obtain⟨q,hq,rfl⟩:=Jx.mp hv;obtain⟨h1,h2,h3,h4⟩:=hA q (Ji hq);obtain⟨v,hv⟩:∃v:Nat,q.1=v:=⟨q.1.toNat,∅⟩;have hvn:v<n:=by omega
  have e1:(stt B (A.take i) n [])[B.length+n]?=some (.lst ((List.range n).map fun v=>W.r (B.length+v))):=stt_r
  have e2:=stt_g (B:=B) (A:=A.take i) (n:=n) (l:=[]) hvn;have e3:=zP4 (B:=B) (A:=A.take i) (n:=n) (l:=[]) (y:=q.2) hvn
  have e4:A.take (i+1)=A.take i++[((v:Int),q.2)]:=by
   rw[VD,hq,←hv];rfl
  rw[e4]
  have e5:(tgs (A.take i) v).length<1000000:=by
   unfold tgs;rw[Jc]
   have:=Ve (fun q:Int×Int=>decide (q.1=v)) (A.take i)
   rw[Vy]at this;omega
  unfold wI at e2 e3
  conv=>arg 3;simp[tupP,hv,e1,JZ hvn,e2,e3,e5]
  exact⟨_,_,rfl,rfl⟩
 have fin:∀σ st,(∃a4 a5,σ=[some (.p (.int n)),some w,some (.p (.int b)),some (.r (B.length+n)),a4,a5,none,none,none,none]∧st=stt B (A.take A.length) n [])→F ((SR.ok .nx σ st).then k):=by
  rintro σ st ⟨a4,a5,rfl,rfl⟩;rw[YT];exact hF a4 a5
 rcases hw with⟨rfl,rfl⟩|⟨rfl,rfl⟩
 ·simp[-zAn];refine zAm (fun r=>F (r.then k)) (fun i σ st=>∃a4 a5,σ=[some (.p (.int n)),some (.p (.lst (A.map tupP))),some (.p (.int b)),some (.r (0+n)),a4,a5,none,none,none,none]∧st=stt [] (A.take i) n []) ⟨none,none,by simp,rfl⟩ stp ?_
  rw[Jc];exact fin
 ·have e:∀X,(stt [Cell.lst (A.map (W.p∘tupP))] X n [])[0]?=some (Cell.lst (A.map (W.p∘tupP))):=fun X=>rfl
  simp[e];refine zGT (l:=A.map (W.p∘tupP)) (fun r=>F (r.then k)) (fun i σ st=>∃a4 a5,σ=[some (.p (.int n)),some (.r 0),some (.p (.int b)),some (.r (1+n)),a4,a5,none,none,none,none]∧st=stt [.lst (A.map (W.p∘tupP))] (A.take i) n []) (by simp) ?_ ⟨none,none,rfl,rfl⟩ stp ?_
  ·rintro i σ st _ ⟨a4,a5,rfl,rfl⟩;exact e _
  ·rw[Jc];exact fin
def rWb:SMm:=(sSeq (sFor (mSrc (mBin vIx (mVar 3) (mBin vIx (mVar 6) (mVar 8)))) (.nm 9) (sIf (mTst (mBin (vInK true) (mVar 9) (mVar 7))) (sSeq (zFx (mVar 7) (mVar 9) (mC (.bl true)))
  (zBo (mBm "list" zAs (mVar 6) %[(mVar 9)|0]))) sNx))
  (sAug 8 zIO (mC (.int 1))))
def rW:SMm:=sSeq (zD8 1000 (mTst (mBin vLt (mVar 8) (zAH vLen %[(mVar 6)|0]))) rWb) (sRet (mFrz (mVar 6)))
def fnd(l:List Int):Cell:=.lst (wI l)
theorem par_ok{w:W}{B:List Cell}{A:Arcs}{n:Nat} (b:Int) (a4 a5:Option W) :
    zJ0 6 7 8 %[(zDB %[(mVar 2)|0]),(zHU (mVar 2) (mC (.bl true))),(mC (.int 0))|0] [some (.p (.int n)),some w,some (.p (.int b)),some (.r (B.length+n)),a4,a5,none,none,none,none] (stt B A n [])
     = .ok .nx [some (.p (.int n)),some w,some (.p (.int b)),some (.r (B.length+n)),a4,a5,some (.r (B.length+n+1+0)),some (.r (B.length+n+1+1)),some (.p (.int 0)),none] (stt B A n [fnd [b],knw [b]]):=by
  have e1:stt B A n []++[.lst [.p (.int b)]]=stt B A n [fnd [b]]:=zLE;have e2:stt B A n [fnd [b]]++[.dk [.inl b] [.p (.bl true)]]=stt B A n [fnd [b],knw [b]]:=zLE;have l0:(stt B A n []).length=B.length+n+1:=by rw[zNd];simp;omega
  have l1:(stt B A n [fnd [b]]).length=B.length+n+1+1:=by rw[zNd];simp;omega
  simp[e1,e2,l0,l1]
theorem zRg{w:W}{B:List Cell}{A:Arcs}{n:Nat} (hn:n≤900) (hA:InN n A) (hl:A.length≤1000){b:Int} (b0:0≤b) (b1:b<n) (Q:SR→Prop)
  (hQ:∀l σ,RL n A b l→Q (.ok (.rt (.p (.lst (l.map P.int)))) σ (stt B A n [.dead,knw l]))) (a4 a5 a9:Option W) :
  Q (rW [some (.p (.int n)),some w,some (.p (.int b)),some (.r (B.length+n)),a4,a5,some (.r (B.length+n+1+0)),some (.r (B.length+n+1+1)),some (.p (.int 0)),a9] (stt B A n [fnd [b],knw [b]])):=by
 have xF:∀l:List Int,(stt B A n [fnd l,knw l])[B.length+n+1+0]?=some (.lst (wI l)):=fun l=>zSD
 have xF':∀l l':List Int,(stt B A n [fnd l,knw l'])[B.length+n+1+0]?=some (.lst (wI l)):=fun l l'=>zSD
 have xK:∀l:List Int,(stt B A n [fnd l,knw l])[B.length+n+1+1]?=some (.dk (l.map Sum.inl) (l.map fun _=>W.p (.bl true))):=fun l=>zSD
 have xR:∀X,(stt B A n X)[B.length+n]?=some (.lst ((List.range n).map fun v=>W.r (B.length+v))):=fun X=>stt_r
 show Q ((zDx _ rWb 1000 _ _).then _);refine zC7 (fun r=>Q (r.then _)) (fun m σ st=>∃(i:Nat) (l:List Int) (a9:Option W),i+m=n∧Bfs n A b l i∧i≤l.length∧σ=[some (.p (.int n)),some w,some (.p (.int b)),some (.r (B.length+n)),a4,a5,some (.r (B.length+n+1+0)),some (.r (B.length+n+1+1)),some (.p (.int i)),a9]∧st=stt B A n [fnd l,knw l]) n ∅ ⟨0,[b],a9,∅,Bfs.start b0 b1,by simp,rfl,rfl⟩ ?_
 rintro m σ st ⟨i,l,a9,him,hb,hil,rfl,rfl⟩;have hle:=hb.le
 by_cases hc:i<l.length
 ·refine .inr ⟨stt B A n [fnd l,knw l],m-1,?_,∅,?_⟩
  ·simp[xF,wI];omega
  ·obtain⟨u,hu⟩:∃u,l[i]?=some u:=⟨_,Ja hc⟩;obtain⟨u0,u1⟩:=hb.inn u (Ji hu);obtain⟨v,rfl⟩:∃v:Nat,u=v:=⟨u.toNat,∅⟩;have hv:v<n:=by omega
   have g0:∀X,(stt B A n X)[B.length+v]?=some (.lst (wI (tgs A v))):=fun X=>stt_g hv
   have e1:(wI l)[i]?=some (.p (.int v)):=by unfold wI;rw[Jd,hu];rfl
   have e2:((List.range n).map fun v=>W.r (B.length+v))[v]?=some (.r (B.length+v)):=by rw[Jd,JZ hv];rfl
   unfold rWb
   conv=>arg 3;simp[xF,e1,xR,e2,g0]
   refine zGT (l:=wI (tgs A v)) (fun r=>Sq _ _ (r.then _)) (fun k σ st=>∃(l':List Int) (a9:Option W),l <+: l'∧Bfs n A b l' i∧(∀y∈(tgs A v).take k,y∈l')∧σ=[some (.p (.int n)),some w,some (.p (.int b)),some (.r (B.length+n)),a4,a5,some (.r (B.length+n+1+0)),some (.r (B.length+n+1+1)),some (.p (.int i)),a9]∧st=stt B A n [fnd l',knw l']) rfl ?_ ⟨l,a9,Jh _,hb,by simp,rfl,rfl⟩ ?_ ?_
   ·rintro k σ st _ ⟨l',a9,_,_,_,rfl,rfl⟩;exact g0 _
   ·rintro k x σ st hx ⟨l',a9,hpre,hb',hall,rfl,rfl⟩;unfold wI at hx;rw[Jd]at hx;obtain⟨y,hy,rfl⟩:=Jx.mp hx;have hm:=zIX.mp (Ji hy);obtain⟨_,_,y0,y1⟩:=hA _ hm;have hi':i≤l'.length:=Vs hil hpre.length_le
    have hk:∀l'':List Int,l' <+: l''→y∈l''→∀z∈(tgs A v).take (k+1),z∈l'':=fun l'' hp hyl z hz=>by
     rw[VD,hy]at hz;rcases JI.mp hz with hz|hz
     ·exact hp.subset (hall z hz)
     ·simp at hz;subst hz;exact hyl
    by_cases hyl:y∈l'
    ·conv=>arg 3;simp[xK,zF2,hyl]
     exact⟨l',_,hpre,hb',hk l' (Jh _) hyl,rfl,rfl⟩
    ·have p0:=zOV hyl;have p1:(stt B A n [fnd l',knw l']).set (B.length+n+1+1) (knw (l'++[y]))=stt B A n [fnd l',knw (l'++[y])]:=zIA
     have p2:(stt B A n [fnd l',knw (l'++[y])]).set (B.length+n+1+0) (.lst (wI l'++[.p (.int y)]))=stt B A n [fnd (l'++[y]),knw (l'++[y])]:=by
      rw[zIA];simp[fnd,wI]
     have p3:(wI l').length<1000000:=by
      have:=hb'.le
      unfold wI;rw[Jc];omega
     have p4:l'.length<1000000:=by have:=hb'.le;omega
     have hru:Rch A b v:=hb'.rch _ (hpre.subset (Ji hu))
     conv=>arg 3;simp[xK,zF2,hyl,p0,p1,xF',p2,p3,p4]
     exact⟨l'++[y],_,hpre.trans (Va _ _),hb'.more hi' hyl ⟨y0,y1⟩ (.step hru hm),hk _ (Va _ _) (by simp),rfl,rfl⟩
   ·rintro σ st ⟨l',a9,hpre,hb',hall,rfl,rfl⟩;have hi':i<l'.length:=Vb hc hpre.length_le
    have hu':l'[i]?=some (v:Int):=by
     obtain⟨t,rfl⟩:=hpre;rw[Je hc];exact hu
    have nx:=hb'.next hu' fun y hy=>hall y (by
     unfold wI;rw[Jc,YT]
     exact zIX.mpr hy)
    conv=>arg 3;simp
    exact⟨i+1,l',_,∅,nx,∅,rfl,rfl⟩
 ·refine .inl ⟨stt B A n [fnd l,knw l],?_,?_⟩
  ·simp[xF,wI];omega
  ·have hs:(stt B A n [fnd l,knw l]).set (B.length+n+1+0) .dead=stt B A n [.dead,knw l]:=zIA;have hp:pures (wI l)=some (l.map P.int):=by unfold wI;rw[show(fun y:Int=>W.p (.int y))=W.p∘P.int from rfl,←Jm];exact zBa _
   simp[xF,hp,hs];exact hQ l _ (hb.fin ∅)
theorem zOj{w:W}{B:List Cell}{A:Arcs}{n:Nat} (hw:AsL w B A) (hn:n≤900) (hA:InN n A) (hl:A.length≤1000){b:Int} (b0:0≤b) (b1:b<n) (Q:Res W→Prop)
  (hQ:∀l X,RL n A b l→Q (.ok (.p (.lst (l.map P.int))) (B++X))):Q (zBW [.p (.int n),w,.p (.int b)] B):=by
 rw[zKT];have g:=goals0 w B n ∅ b;simp only[zAQ];simp[-sSet_e,g];show Q (runR (rD3 _ _));unfold rD3;rw[zQt];refine goals1 hw hA hl b _ (fun r=>Q (runR r)) fun a4 a5=>?_
 have p:=par_ok (w:=w) (B:=B) (A:=A) (n:=n) b a4 a5;rw[zQt,p];show Q (runR (rW _ _))
 exact zRg hn hA hl b0 b1 (fun r=>Q (runR r)) (fun l σ h=>by
  show Q (.ok (.p (.lst (l.map P.int))) (stt B A n [.dead,knw l]));unfold stt
  exact hQ l _ h) a4 a5 none
theorem zRq{A:Arcs}{n:Nat} (hn:n≤900) (hA:InN n A) (hl:A.length≤1000){b:Int} (b0:0≤b) (b1:b<n):∃l,RL n A b l∧∀st,zAM zBW [.p (.int n),.p (.lst (A.map tupP)),.p (.int b)] st=.ok (.p (.lst (l.map P.int))) st:=by
 have z:=zOj (w:=.p (.lst (A.map tupP))) (B:=[]) (.inl ⟨rfl,rfl⟩) hn hA hl b0 b1 (fun r=>∃l,RL n A b l∧Gv r (.lst (l.map P.int))) fun l X h=>⟨l,h,by simp⟩
 obtain⟨l,h,g⟩:=z;exact⟨l,h,fun st=>Pu.call3 (Pu.of3 g) st⟩
theorem zHj(A:Arcs):zAx (.lst (A.map (W.p∘tupP)))=true:=by
 show(pures (A.map (W.p∘tupP))).isSome=true;rw[←Jm,zBa];rfl
theorem zSU{A:Arcs}{n:Nat} (hn:n≤900) (hA:InN n A) (hl:A.length≤1000){b:Int} (b0:0≤b) (b1:b<n):∃l,RL n A b l∧∀st i,st[i]?=some (.lst (A.map (W.p∘tupP)))→zAM zBW [.p (.int n),.r i,.p (.int b)] st=.ok (.p (.lst (l.map P.int))) st:=by
 have z:=zOj (w:=.r 0) (B:=[.lst (A.map (W.p∘tupP))]) (.inr ⟨rfl,rfl⟩) hn hA hl b0 b1 (fun r=>∃l,RL n A b l∧Gc (.lst (l.map P.int)) (.lst (A.map (W.p∘tupP))) r) fun l X h=>⟨l,h,by simp⟩
 obtain⟨l,h,g⟩:=z;exact⟨l,h,fun st i hi=>Gc.call3 g (zHj A) hi⟩
theorem zLd{A:Arcs}{n:Nat}{l m:List Int} (hn:0<n) (h:RL n A 0 l) (k:RL n (A.map swp) 0 m):(l.length=n∧m.length=n)↔Conn n A:=by
 rw[h.full,k.full];constructor
 ·rintro⟨h1,h2⟩;exact Conn.of0 h1 h2
 ·intro c;exact⟨fun x x0 x1=>c 0 x ∅ ∅ x0 x1,fun x x0 x1=>c.swp 0 x ∅ ∅ x0 x1⟩
def swW:W→Option W
 | .p (.tup [.int x,.int y])=>some (.p (.tup [.int y,.int x]))
 |_=>none
theorem zKV:∀A:Arcs,(A.map (W.p∘tupP)).filterMap swW=((A.map swp).map tupP).map W.p
 |[]=>rfl
 |q::A=>by
  rw[Jl,JT,zKV A];rfl
theorem zQ7{A:Arcs}{w:W} (hw:w∈A.map (W.p∘tupP)){st:List Cell}{σ:Sg} (i j:Nat) (hij:i≠j) (hi:i<σ.length) (hj:j<σ.length):FmOk (.tp [.nm i,.nm j]) mYes (mTup %[(mVar j),(mVar i)|0]) σ st swW w:=by
 obtain⟨q,hq,rfl⟩:=Jj.mp hw;refine⟨(σ.set i (some (.p (.int q.1)))).set j (some (.p (.int q.2))),by simp[tupP],.inr ⟨_,rfl,rfl,?_⟩⟩
 simp[List.getElem?_set,hij,hi,hj,bo hij]
theorem zHO{A:Arcs}{n:Nat} (h0:0<n) (hn:n≤900) (hA:InN n A) (hl:A.length≤1000):∃k:Bool,(k=true↔Conn n A)∧∀st i,st[i]?=some (.lst (A.map (W.p∘tupP)))→zAM zBe [.p (.int n),.r i] st=.ok (.p (.bl k)) st:=by
 obtain⟨l,hl1,e1⟩:=zSU hn hA hl (b:=0) ∅ ∅;obtain⟨m,hm1,e2⟩:=zRq hn hA.swp (by rw[Jc];exact hl) (b:=0) ∅ ∅
 refine⟨decide (l.length=n)&&decide (m.length=n),?_,fun st i hi=>Gc.call2 ?_ (zHj A) hi⟩
 ·rw[Js,Jz,Jz];exact zLd h0 hl1 hm1
 ·have q1:=e1 [.lst (A.map (W.p∘tupP))] 0 rfl;simp[zBe,zAQ];rw[lcC_fm (l:=A.map (W.p∘tupP)) swW (by simp) rfl (by simpa using(by omega:A.length≤1000000)) (fun w hw=>zQ7 hw 3 4 (!0) (by simp) (by simp)),zKV,finP_e,zBa]
  rw[Jm]at e2;have h1:((l.length:Int)=n)↔l.length=n:=by omega
  have h2:((m.length:Int)=n)↔m.length=n:=by omega
  by_cases h3:l.length=n<;>by_cases h4:m.length=n<;>simp[q1,e2,h1,h2,h3,h4,zCi]
theorem zSt(x:Int) (l:List Int):inP (.int x) (l.map P.int)=decide (x∈l):=by
 induction l with
 |nil=>rfl
 |cons y l ih =>
  rw[Jl,zPM,ih]
  have:eqF (.int y) (.int x)=decide (x=y):=by
   unfold eqF;simp;exact Vu.mpr (by simp;exact eq_comm)
  rw[this]
  by_cases h:x=y<;>simp[h]
theorem zOc(l:List Int):(l.map P.int).all zEY=true:=by
 rw[VR];exact Jp.mpr fun _ _=>rfl
theorem zD3(n:Bool) (x:Int) (l:List Int) (st:List Cell):vInB n (.p (.int x)) (.p (.lst (l.map P.int))) st=.ok (.p (.bl (if n=true then !decide (x∈l)else decide (x∈l)))) st:=by
 unfold vInB;simp[zOc,zSt,zEY]
theorem Bfs.app{n:Nat}{A:Arcs}{b:Int}{l m:List Int}{i:Nat} (h:Bfs n A b l i) (hi:i≤l.length) (nd:m.Nodup) (dj:∀y∈m,y∉l) (hy:∀y∈m,(0≤y∧y<n)∧Rch A b y):Bfs n A b (l++m) i:=by
 induction m generalizing l with
 |nil=>rw[Vt];exact h
 |cons y m ih =>
  obtain⟨n1,n2⟩:=JV.mp nd;have h1:=h.more hi (dj y Jg) (hy y Jg).1 (hy y Jg).2
  have:=ih h1 (by rw[Ju];omega) n2 (fun z hz hl=>by
   rcases JI.mp hl with hl|hl
   ·exact dj z (Jf _ hz) hl
   ·simp at hl;subst hl;exact n1 hz) fun z hz=>hy z (Jf _ hz)
  rw[Yl]at this;exact this
def tgW(v:Int):W→Option W
 | .p (.tup [.int x,.int y])=>if x=v then some (.p (.int y))else none
 |_=>none
theorem zNR(v:Int):∀A:Arcs,(A.map (W.p∘tupP)).filterMap (tgW v)=((tgs A v).map P.int).map W.p
 |[]=>rfl
 |q::A=>by
  rw[Jl,JT,zNR v A];have e:tgW v ((W.p∘tupP) q)=if q.1=v then some (W.p (.int q.2))else none:=rfl
  rw[e];unfold tgs
  by_cases h:q.1=v<;>simp[h,Vv]
def newW(s l:List Int):W→Option W
 | .p (.int x)=>if x∈s∧x∉l then some (.p (.int x))else none
 |_=>none
def newL(n:Nat) (s l:List Int):List Int:=(nodes n).filter fun x=>decide (x∈s∧x∉l)
theorem zQD(s l:List Int) (n:Nat):(rngL 0 n).filterMap (newW s l)=((newL n s l).map P.int).map W.p:=by
 have go:∀m:List Int,(m.map fun x=>W.p (.int x)).filterMap (newW s l)=(((m.filter fun x=>decide (x∈s∧x∉l))).map P.int).map W.p:=by
  intro m
  induction m with
  |nil=>rfl
  |cons x m ih =>
   rw[Jl,JT,ih];have e:newW s l (.p (.int x))=if x∈s∧x∉l then some (W.p (.int x))else none:=rfl
   rw[e]
   by_cases h:x∈s∧x∉l
   ·simp[h,Vv]
   ·rw[Vh h,Vv,Vh (by simpa using h)]
 have e:rngL 0 n=(nodes n).map fun x=>W.p (.int x):=by
  unfold rngL nodes;rw[Jm];exact Vw fun i _=>by simp
 rw[e];exact go _
theorem zFe{A:Arcs}{n:Nat} (h0:0<n) (hn:n≤900) (hA:InN n A) (hl:A.length≤1000):∃l,RL n A 0 l∧∀st,zAM zCD [.p (.int n),.p (.lst (A.map tupP))] st=.ok (.p (.lst (l.map P.int))) st:=by
 suffices z:∃l,RL n A 0 l∧Gv (zCD [.p (.int n),.p (.lst (A.map tupP))] []) (.lst (l.map P.int)) by
  obtain⟨l,h,g⟩:=z;exact⟨l,h,fun st=>Pu.call2 (Pu.of2 g) st⟩
 simp[zCD,zAQ];refine zC7 (fun r=>∃l,RL n A 0 l∧Gv (runR (r.then _)) (.lst (l.map P.int))) (fun m σ st=>∃(i:Nat) (l:List Int) (a4:Option W),i+m=n∧Bfs n A 0 l i∧i≤l.length∧σ=[some (.p (.int n)),some (.p (.lst (A.map tupP))),some (.p (.lst (l.map P.int))),some (.p (.int i)),a4,none,none,none]∧st=[]) n ∅ ⟨0,[0],none,∅,Bfs.start ∅ ∅,by simp,rfl,rfl⟩ ?_
 rintro m σ st ⟨i,l,a4,him,hb,hil,rfl,rfl⟩;have hle:=hb.le
 by_cases hc:i<l.length
 ·refine .inr ⟨[],m-1,?_,∅,?_⟩
  ·simp;omega
  ·obtain⟨u,hu⟩:∃u,l[i]?=some u:=⟨_,Ja hc⟩;obtain⟨u0,u1⟩:=hb.inn u (Ji hu)
   have L1:lcL (Tg.tp [Tg.nm 5,Tg.nm 6]) (mTst (mBin (vEqB false) (mVar 5) (mBin vIx (mVar 2) (mVar 3)))) (mVar 6) [some (.p (.int n)),some (.p (.lst (A.map tupP))),some (.p (.lst (l.map P.int))),some (.p (.int i)),a4,none,none,none] (A.map (W.p∘tupP)) []=.ok (((tgs A u).map P.int).map W.p) []:=by
    rw[zLg (g:=tgW u) fun w hw=>?_,zNR]
    obtain⟨q,hq,rfl⟩:=Jj.mp hw;refine⟨_,by simp[tupP];rfl,?_⟩
    by_cases h:q.1=u
    ·refine .inr ⟨.p (.int q.2),by show(if q.1=u then _ else _)=_;rw[JW h],by simp[hu,h],by simp⟩
    ·refine .inl ⟨by show(if q.1=u then _ else _)=_;rw[Vh h],by simp[hu,h]⟩
   have L2:lcL (Tg.nm 7) (zEX (mTst (mBin (vInB false) (mVar 7) (mVar 4))) (mTst (mBin (vInB true) (mVar 7) (mVar 2)))) (mVar 7) [some (.p (.int n)),some (.p (.lst (A.map tupP))),some (.p (.lst (l.map P.int))),some (.p (.int i)),some (.p (.lst ((tgs A u).map P.int))),none,none,none] (rngL 0 n) []=.ok (((newL n (tgs A u) l).map P.int).map W.p) []:=by
    rw[zLg (g:=newW (tgs A u) l) fun w hw=>?_,zQD]
    obtain⟨k,hk⟩:=JF hw;obtain⟨_,rfl⟩:=zDl hk;generalize (0:Int)+(k:Nat)=x;refine⟨_,by simp;rfl,?_⟩
    by_cases h1:x∈tgs A u<;>by_cases h2:x∈l
    ·exact .inl ⟨by show(if _∧_ then _ else _)=_;rw[Vh (by simp[h2])],by simp[zD3,h1,h2]⟩
    ·exact .inr ⟨_,by show(if _∧_ then _ else _)=_;rw[JW ⟨h1,h2⟩],by simp[zD3,h1,h2],by simp⟩
    ·exact .inl ⟨by show(if _∧_ then _ else _)=_;rw[Vh (by simp[h1])],by simp[zD3,h1]⟩
    ·exact .inl ⟨by show(if _∧_ then _ else _)=_;rw[Vh (by simp[h1])],by simp[zD3,h1]⟩
   have ll:l.length+(newL n (tgs A u) l).length≤1000000:=by
    have:=Ve (fun x=>decide (x∈tgs A u∧x∉l)) (nodes n)
    rw[zCH]at this;unfold newL;omega
   have hi1:(n:Int)≤1000000:=by omega
   have hi2:(-1000000:Int)≤n:=by omega
   have hi3:n≤1000000:=by omega
   have hi4:A.length≤1000000:=by omega
   conv=>arg 3;simp[L1,L2,zBa,ll,hi1,hi2,hi3,hi4]
   have hm:∀y∈newL n (tgs A u) l,(0≤y∧y<n)∧y∈tgs A u∧y∉l:=fun y hy=>by
    obtain⟨h1,h2⟩:=Yi.mp hy;exact⟨zBr.mp h1,JB h2⟩
   have hb2:=hb.app hil (m:=newL n (tgs A u) l) ((zGN n).filter _) (fun y hy=>(hm y hy).2.2) fun y hy=>⟨(hm y hy).1,.step (hb.rch u (Ji hu)) (zIX.mp (hm y hy).2.1)⟩
   have hb3:=hb2.next (u:=u) (by rw[Je hc];exact hu) fun y hy=>by
    by_cases h:y∈l
    ·exact Vr _ h
    ·refine VG _ (Yi.mpr ⟨zBr.mpr ?_,JD ⟨zIX.mpr hy,h⟩⟩);obtain⟨_,_,h3,h4⟩:=hA _ hy;exact⟨h3,h4⟩
   exact⟨i+1,l++newL n (tgs A u) l,some (.p (.lst ((tgs A u).map P.int))),∅,hb3,by rw[Ju];omega,by simp,rfl⟩
 ·refine .inl ⟨[],?_,?_⟩
  ·simp;omega
  ·simp;exact⟨l,hb.fin ∅,rfl⟩
theorem zIY{A:Arcs}{st:List Cell}{σ:Sg} (i j:Nat) (hij:i≠j) (hi:i<σ.length) (hj:j<σ.length):lcL (.tp [.nm i,.nm j]) mYes (mTup %[(mVar j),(mVar i)|0]) σ (A.map (W.p∘tupP)) st=.ok (((A.map swp).map tupP).map W.p) st:=by
 rw[zLg (g:=swW) fun w hw=>zQ7 hw i j hij hi hj,zKV]
theorem zCm{A:Arcs}{n:Nat} (h0:0<n) (hn:n≤900) (hA:InN n A) (hl:A.length≤1000):∃k:Bool,(k=true↔Conn n A)∧∀st,zAM zAp [.p (.int n),.p (.lst (A.map tupP))] st=.ok (.p (.bl k)) st:=by
 obtain⟨l,hl1,e1⟩:=zFe h0 hn hA hl;obtain⟨m,hm1,e2⟩:=zFe h0 hn hA.swp (by rw[Jc];exact hl)
 refine⟨decide (l.length=n)&&decide (m.length=n),?_,fun st=>Pu.call2 (Pu.of2 ?_) st⟩
 ·rw[Js,Jz,Jz];exact zLd h0 hl1 hm1
 ·have hi4:A.length≤1000000:=by omega
  have sw:=zIY (A:=A) (st:=[]) (σ:=[some (.p (.int n)),some (.p (.lst (A.map tupP))),none,none,none]) 3 4 (!0) (by simp) (by simp)
  have h1:((l.length:Int)=n)↔l.length=n:=by omega
  have h2:((m.length:Int)=n)↔m.length=n:=by omega
  rw[Jm]at e2
  by_cases h3:l.length=n<;>by_cases h4:m.length=n<;>simp[zAp,zAQ,hi4,sw,e1,e2,h1,h2,h3,h4,zCi]
def sOf(l:List Nat):Str:=⟨l.toArray⟩
def chP(c:Nat):P:=.str ⟨#[c]⟩
theorem zI6{s:Str} (h:0<s.length) (h1:s.length≤1000000):Bg zAW [.str s] fun x=>∃c∈s.cps.toList,x=chP c:=by
 intro c hc;obtain⟨r,c',e,hc',k,rfl,k0,k1⟩:=(zAk (n:=s.length) ∅ (zAT ∅ ∅)).call1 hc [];have hl:s.cps.toList.length=s.length:=by simp;rfl
 have hk:L2.atI s.cps.toList k=some (s.cps.toList[k.toNat]'(by omega)):=by rw[atI_nat k0,Ja ∅]
 obtain⟨d,hd,md⟩:∃d,L2.atI s.cps.toList k=some d∧d∈s.cps.toList:=⟨_,hk,JL _⟩;simp[zAW,zAQ,e,h1,hd,hc'];exact⟨d,by simpa using md,rfl⟩
theorem zEO(l:List Nat):Txt.join (Str.ofString "") (l.map fun c=>(⟨#[c]⟩:Str))=sOf l:=by
 rw[join_eq]
 induction l with
 |nil=>rfl
 |cons c l ih =>
  cases l with
  |nil=>rfl
  |cons d l =>
   show(⟨#[c]⟩:Str)++Str.ofString "" ++ Str.join (Str.ofString "") ((d::l).map fun c=>(⟨#[c]⟩:Str))=_
   rw[ih];unfold sOf;show(⟨#[c] ++ #[]++(d::l).toArray⟩:Str)=⟨(c::d::l).toArray⟩;simp
def zBx:FM:=runF 2 4 (sSeq (sSet 2 (zDB mNil))
  (sSeq (sFor (zBO (zAH vLen %[(mVar 0)|0])) (.nm 3) (sSeq (zBo (mBm "list" zAs (mVar 2) %[(mTup %[(mVar 3),(mBin vMod (mBin vAdd (mVar 3) (mC (.int 1))) (zAH vLen %[(mVar 0)|0]))|0])|0]))
  (sIf (mTru (mVar 1)) (zBo (mBm "list" zAs (mVar 2) %[(mTup %[(mBin vMod (mBin vAdd (mVar 3) (mC (.int 1))) (zAH vLen %[(mVar 0)|0])),(mVar 3)|0])|0])) sNx)))
  (sRet (mTup %[(mVar 0),(mFrz (mVar 2))|0]))))
def zA9:FM:=runF 3 11 (sSeq (sSet 3 (mBin vAdd (mC (.int 1)) (zAF zAG %[(mVar 0),(mVar 2)|0])))
  (sSeq (sSet 4 (zAF zAW %[(mVar 0),(mLst %[(mC (.str "a")),(mC (.str "ab")),(mC (.str "ab")),(mC (.str "abc")),(mC (.str "bc"))|0])|0]))
  (sSeq (sSet 5 (mLc (zBO (mVar 3)) (.nm 8) [8] mYes (zAF zAW %[(mVar 0),(mVar 4)|0]) finC))
  (sSeq (sIf (mTst (mBin (vEqB false) (mVar 1) (mC (.str "marked")))) (zFG (mVar 5) (zAF zAG %[(mVar 0),(mVar 3)|0]) (mC (.str "m"))) sNx)
  (sSeq (sSet 6 (zAF zAh %[(mVar 0),(zCe (mVar 3))|0]))
  (sSeq (sSet 7 (mLc (zBO (mVar 3)) (.nm 8) [8] mYes (mTup %[(mBin vIx (mVar 6) (mVar 8)),(mBin vIx (mVar 6) (mBin vMod (mBin vAdd (mVar 8) (mC (.int 1))) (mVar 3)))|0]) finP))
  (sSeq (sIf (zEX (mTst (mBin (vEqB false) (mVar 3) (mC (.int 1)))) (mTst (mBin (vEqB false) (zAF zAG %[(mVar 0),(mC (.int 2))|0]) (mC (.int 0))))) (sSet 7 (mLst mNil)) sNx)
  (sSeq (sSet 7 (mBin vAdd (mVar 7) (mLc (zBO (zAF zAG %[(mVar 0),(mC (.int 5))|0])) (.nm 8) [8] mYes (mTup %[(zAF zAG %[(mVar 0),(mVar 3)|0]),(zAF zAG %[(mVar 0),(mVar 3)|0])|0]) finP)))
  (sSeq (sIf (mTst (mBin (vEqB false) (mVar 1) (mC (.str "two-way")))) (sSet 7 (mBin vAdd (mVar 7) (mLc (mSrc (mVar 7)) (.tp [(.nm 9),(.nm 10)]) [9,10] mYes (mTup %[(mVar 10),(mVar 9)|0]) finP))) sNx)
  (sRet (mTup %[(mBm "str" zFv (mC (.str "")) %[(mVar 5)|0]),(zAF zAh %[(mVar 0),(mVar 7)|0])|0])))))))))))
structure Wb (s:Str) (A:Arcs):Prop where
 n0:0<s.length
 ch:∀c∈s.cps.toList,c=97∨c=98∨c=99∨c=109
 inn:InN s.length A
 cn:Conn s.length A
def wP(s:Str) (A:Arcs):P:=.tup [.str s,.lst (A.map tupP)]
def mdS:SMm:=(sSeq (sSet 7 (mBin vAdd (mVar 7) (mLc (zBO (zAF zAG %[(mVar 0),(mC (.int 5))|0])) (.nm 8) [8] mYes (mTup %[(zAF zAG %[(mVar 0),(mVar 3)|0]),(zAF zAG %[(mVar 0),(mVar 3)|0])|0]) finP)))
  (sSeq (sIf (mTst (mBin (vEqB false) (mVar 1) (mC (.str "two-way")))) (sSet 7 (mBin vAdd (mVar 7) (mLc (mSrc (mVar 7)) (.tp [(.nm 9),(.nm 10)]) [9,10] mYes (mTup %[(mVar 10),(mVar 9)|0]) finP))) sNx)
  (sRet (mTup %[(mBm "str" zFv (mC (.str "")) %[(mVar 5)|0]),(zAF zAh %[(mVar 0),(mVar 7)|0])|0]))))
def mdR:SMm:=(sSeq (sSet 6 (zAF zAh %[(mVar 0),(zCe (mVar 3))|0]))
  (sSeq (sSet 7 (mLc (zBO (mVar 3)) (.nm 8) [8] mYes (mTup %[(mBin vIx (mVar 6) (mVar 8)),(mBin vIx (mVar 6) (mBin vMod (mBin vAdd (mVar 8) (mC (.int 1))) (mVar 3)))|0]) finP))
  (sSeq (sIf (zEX (mTst (mBin (vEqB false) (mVar 3) (mC (.int 1)))) (mTst (mBin (vEqB false) (zAF zAG %[(mVar 0),(mC (.int 2))|0]) (mC (.int 0))))) (sSet 7 (mLst mNil)) sNx)
  mdS)))
def mdM:SMm:=(sIf (mTst (mBin (vEqB false) (mVar 1) (mC (.str "marked")))) (zFG (mVar 5) (zAF zAG %[(mVar 0),(mVar 3)|0]) (mC (.str "m"))) sNx)
theorem zI4:zA9=runF 3 11 (sSeq (sSet 3 (mBin vAdd (mC (.int 1)) (zAF zAG %[(mVar 0),(mVar 2)|0])))
    (sSeq (sSet 4 (zAF zAW %[(mVar 0),(mLst %[(mC (.str "a")),(mC (.str "ab")),(mC (.str "ab")),(mC (.str "abc")),(mC (.str "bc"))|0])|0]))
    (sSeq (sSet 5 (mLc (zBO (mVar 3)) (.nm 8) [8] mYes (zAF zAW %[(mVar 0),(mVar 4)|0]) finC))
    (sSeq mdM
    mdR))))
 := rfl
theorem zH7{α β:Type}{f:α→β}{m k:List β} (p:m.Perm k):∀ {l:List α},k=l.map f→∃o:List α,m=o.map f∧o.Perm l:=by
 induction p with
 |nil=>intro l e;exact⟨l,e,.refl _⟩
 |cons x p ih =>
  intro l e;cases l with
  |nil=>cases e
  |cons a l =>
   obtain⟨e1,e2⟩:=VP e;obtain⟨o,h1,h2⟩:=ih e2;exact⟨a::o,by rw[e1,h1];rfl,h2.cons a⟩
 |swap x y k =>
  intro l e
  match l,e with
  |a::b::l,e =>
   obtain⟨e1,e2⟩:=VP e;obtain⟨e2,e3⟩:=VP e2;exact⟨b::a::l,by rw[e1,e2,e3];rfl,.swap a b l⟩
 |trans p1 p2 i1 i2 =>
  intro l e;obtain⟨o,h1,h2⟩:=i2 e;obtain⟨o2,h3,h4⟩:=i1 h1;exact⟨o2,h3,h4.trans h2⟩
theorem zNY{n:Nat} (h0:0<n) (h1:n≤30) (σ:Sg) (hb:σ[0]?=some (some (.r 0))) (hn:σ[3]?=some (some (.p (.int n)))) (h8:8<σ.length){c:Cell} (hc:GB c) (rest:List Cell) (m:Nat) :
  ∃(c':Cell) (B:Arcs),GB c'∧B.length=m∧InN n B∧lcL (.nm 8) mYes (mTup %[(zAF zAG %[(mVar 0),(mVar 3)|0]),(zAF zAG %[(mVar 0),(mVar 3)|0])|0]) σ (rngL 0 m) (c::rest)=.ok (B.map (W.p∘tupP)) (c'::rest):=by
 have pn:=zAk (n:=n) ∅ (zAT ∅ ∅);refine zHt (fun r=>∃(c':Cell) (B:Arcs),GB c'∧B.length=m∧InN n B∧r=.ok (B.map (W.p∘tupP)) (c'::rest)) (fun i acc st=>∃(c':Cell) (B:Arcs),GB c'∧InN n B∧acc=B.map (W.p∘tupP)∧st=c'::rest) ⟨c,[],hc,by simp[InN],rfl,rfl⟩ ?_ ?_
 ·rintro i x acc st _ hl ⟨c1,B,hc1,hB,rfl,rfl⟩;obtain⟨_,c2,e2,hc2,k,rfl,k0,k1⟩:=pn.call1 hc1 rest;obtain⟨_,c3,e3,hc3,j,rfl,j0,j1⟩:=pn.call1 hc2 rest;have q0:(σ.set 8 (some x))[0]?=some (some (.r 0)):=by rw[Jv (!0)];exact hb
  have q3:(σ.set 8 (some x))[3]?=some (some (.p (.int n))):=by rw[Jv (!0)];exact hn
  conv=>arg 2;simp[q0,q3,e2,e3]
  refine⟨c3,B++[(k,j)],hc3,fun q hq=>?_,by simp[tupP],rfl⟩
  rcases JI.mp hq with hq|hq
  ·exact hB q hq
  ·simp at hq;subst hq;exact⟨k0,k1,j0,j1⟩
 ·rintro ws st hl ⟨c1,B,hc1,hB,rfl,rfl⟩;rw[zCg,Jc]at hl;exact⟨c1,B,hc1,hl,hB,rfl⟩
def Wof:Wy→Str→Arcs→Prop
 | .marked,s,_=>s.cps.toList.count 109=1
 | .two,s,A=>109∉s.cps.toList∧(A.map swp).Perm A
 |_,s,_=>109∉s.cps.toList
def okM(w:Wy) (ls:List Nat):Prop:=(w=.marked→ls.count 109=1)∧(w≠.marked→109∉ls)
def okC(c:Nat):Prop:=c=97∨c=98∨c=99∨c=109
theorem mdM_ok(w:Wy){c:Cell} (hc:GB c){n:Nat} (h0:0<n) (h1:n≤6){ls:List Nat} (hl:ls.length=n) (hls:∀x∈ls,okC x) (hl9:109∉ls) (a2 a4:Option W) :
  ∃(c':Cell) (ls':List Nat),GB c'∧ls'.length=n∧(∀x∈ls',okC x)∧okM w ls'∧mdM [some (.r 0),some (.p (.str w.s)),a2,some (.p (.int n)),a4,some (.r 1),none,none,none,none,none] [c,.lst (ls.map (W.p∘chP))]
   = .ok .nx [some (.r 0),some (.p (.str w.s)),a2,some (.p (.int n)),a4,some (.r 1),none,none,none,none,none] [c',.lst (ls'.map (W.p∘chP))]:=by
 obtain⟨_,c1,e1,hc1,k,rfl,k0,k1⟩:=(zAk (n:=n) ∅ (zAT ∅ ∅)).call1 hc [.lst (ls.map (W.p∘chP))];obtain⟨j,rfl⟩:∃j:Nat,k=j:=⟨k.toNat,∅⟩;cases w with
 |marked =>
  have hjl:j<ls.length:=by omega
  have h0c:ls.count 109=0:=List.count_eq_zero.mpr hl9;have hne:ls[j]≠109:=fun e=>hl9 (e▸JL hjl)
  refine⟨c1,ls.set j 109,hc1,by simpa using hl,fun x hx=>?_,⟨fun _=>by rw[List.count_set hjl,h0c];simp[hne],fun h=>absurd rfl h⟩,?_⟩
  ·rcases List.mem_or_eq_of_mem_set hx with hx|rfl
   ·exact hls x hx
   ·exact .inr (.inr (.inr rfl))
  ·have hj:j<ls.length:=by omega
   simp[mdM,Wy.s,e1,hj];rfl
 |_ =>
  refine⟨c,ls,hc,hl,hls,⟨fun h=>(by cases h),fun _=>hl9⟩,?_⟩
  simp[mdM,Wy.s]
theorem zEf(l:List Nat):(sOf l).length=l.length:=by show l.toArray.size=_;simp
theorem zE6(l:List Nat):strsOf (l.map chP)=some (l.map fun c=>(⟨#[c]⟩:Str)):=zGW l _
theorem zH2(l:List Nat):((l.map fun c=>(⟨#[c]⟩:Str)).map (·.length)).sum=l.length:=by
 induction l with
 |nil=>rfl
 |cons c l ih=>simp only[Jl,List.sum_cons,JJ];rw[ih];show 1+_=_;omega
theorem zOR(w:Wy){c:Cell} (hc:GB c){n:Nat} (h0:0<n) (h1:n≤6){ls:List Nat} (hl:ls.length=n) (hls:∀x∈ls,okC x) (hM:okM w ls){C:Arcs} (hC:InN n C) (cC:Conn n C) (lC:C.length≤n) (a2 a4 a6:Option W) :
  Gb (fun v=>∃s A,v=wP s A∧Wb s A∧s.length=n∧A.length≤2*(n+4)∧(w≠.two→A.length≤n+4)∧Wof w s A)
   (runR (mdS [some (.r 0),some (.p (.str w.s)),a2,some (.p (.int n)),a4,some (.r 1),a6,some (.p (.lst (C.map tupP))),none,none,none] [c,.lst (ls.map (W.p∘chP))])):=by
 obtain⟨_,c1,e1,hc1,k,rfl,k0,k1⟩:=(zAk (n:=5) ∅ (zAT ∅ ∅)).call1 hc [.lst (ls.map (W.p∘chP))];obtain⟨m,rfl⟩:∃m:Nat,k=m:=⟨k.toNat,∅⟩;obtain⟨c2,B,hc2,lB,hB,e2⟩:=zNY h0 ∅ [some (.r 0),some (.p (.str w.s)),a2,some (.p (.int n)),a4,some (.r 1),a6,some (.p (.lst (C.map tupP))),none,none,none] rfl rfl (by simp) hc1 [.lst (ls.map (W.p∘chP))] m
 have hD:InN n (C++B):=fun q hq=>by
  rcases JI.mp hq with hq|hq
  ·exact hC q hq
  ·exact hB q hq
 have cD:Conn n (C++B):=cC.mono fun q hq=>Vr _ hq
 have fin:∀E:Arcs,InN n E→Conn n E→E.length≤2*(n+4)→(w≠.two→E.length≤n+4)→(w=.two→(E.map swp).Perm E)→Gb (fun v=>∃s A,v=wP s A∧Wb s A∧s.length=n∧A.length≤2*(n+4)∧(w≠.two→A.length≤n+4)∧Wof w s A)
   (runR (sRet (mTup %[(mBm "str" zFv (mC (.str "")) %[(mVar 5)|0]),(zAF zAh %[(mVar 0),(mVar 7)|0])|0]) [some (.r 0),some (.p (.str w.s)),a2,some (.p (.int n)),a4,some (.r 1),a6,some (.p (.lst (E.map tupP))),none,none,none] [c2,.lst (ls.map (W.p∘chP))])):=by
  intro E iE cE l1 l2 hsy;obtain⟨_,c3,e3,hc3,mm,rfl,hp⟩:=(zIL (l:=E.map tupP) (by rw[Jc];omega)).call1 hc2 [.lst (ls.map (W.p∘chP))]
  obtain⟨E',rfl,pE⟩:=zH7 hp rfl;have sm:=zH2 ls;rw[Jm]at sm;simp[zE6,sm,zEO,e3,hl,show n≤1000000 by omega,hc3]
  have hcp:(sOf ls).cps.toList=ls:=by simp[sOf]
  have hwo:Wof w (sOf ls) E':=by
   cases w with
   |marked=>exact(show(sOf ls).cps.toList.count 109=1 by rw[hcp];exact hM.1 rfl)
   |two=>exact And.intro (by rw[hcp];exact hM.2 (by simp)) (((pE.map swp).trans (hsy rfl)).trans pE.symm)
   |heard=>exact(show 109∉(sOf ls).cps.toList by rw[hcp];exact hM.2 (by simp))
   |counted=>exact(show 109∉(sOf ls).cps.toList by rw[hcp];exact hM.2 (by simp))
  refine⟨sOf ls,E',rfl,?_,by rw[zEf];exact hl,by rw[pE.length_eq];exact l1,fun hw=>by rw[pE.length_eq];exact l2 hw,hwo⟩
  have ln:(sOf ls).length=n:=by rw[zEf];exact hl
  exact⟨∅,fun x hx=>hls x (by simpa[sOf]using hx),by rw[ln];exact fun q hq=>iE q (pE.mem_iff.mp hq),by rw[ln];exact cE.mono fun q hq=>pE.mem_iff.mpr hq⟩
 have lD:(C++B).length≤n+4:=by rw[Ju];omega
 have sw:=zIY (A:=C++B) (st:=[c2,.lst (ls.map (W.p∘chP))]) (σ:=[some (.r 0),some (.p (.str w.s)),a2,some (.p (.int n)),a4,some (.r 1),a6,some (.p (.lst ((C++B).map tupP))),none,none,none]) 9 10 (!0) (by simp) (by simp)
 have f1:=fun hw:w≠.two=>fin (C++B) hD cD ∅ (fun _=>lD) (fun h=>absurd h hw)
 have f2:=fun hw:w=.two=>fin ((C++B)++(C++B).map swp) (fun q hq=>by
  rcases JI.mp hq with hq|hq
  ·exact hD q hq
  ·exact hD.swp q hq) (cD.mono fun q hq=>Vr _ hq) (by rw[Ju,Jc];omega) (fun h=>absurd hw h) (fun _=>by
  rw[JE,Jm];have e:swp∘swp=id:=by funext q;rfl
  rw[e,List.map_id]
  exact List.perm_append_comm)
 have hm1:(m:Int)≤1000000:=by omega
 have hm2:(-1000000:Int)≤m:=by omega
 have hm3:m≤1000000:=by omega
 have hm4:C.length+B.length≤1000000:=by omega
 unfold mdS;simp only[JE]at sw f1 f2;cases w with
 |two =>
  simp only[Wy.s]at e2 sw f2
  have hp:pures (C.map (W.p∘tupP∘swp)++B.map (W.p∘tupP∘swp))=some (C.map (tupP∘swp)++B.map (tupP∘swp)):=by
   rw[show C.map (W.p∘tupP∘swp)++B.map (W.p∘tupP∘swp)=(C.map (tupP∘swp)++B.map (tupP∘swp)).map W.p by simp]
   exact zBa _
  have hm5:C.length+B.length+(C.length+B.length)≤1000000:=by omega
  have f3:=f2 trivial;simp only[JE,Jm,Yl]at f3
  conv=>arg 2;simp[e1,e2,hm1,hm2,hm3,hm4,hm5,sw,Wy.s,hp,-zQp]
  exact f3
 |_ =>
  have f1:=f1 (by simp)
  simp only[Wy.s]at e2 f1
  conv=>arg 2;simp[e1,e2,hm1,hm2,hm3,hm4,Wy.s,-zQp]
  exact f1
theorem at_ints{o:List Int}{n i:Nat} (hl:o.length=n) (hi:i<n):L2.atI (o.map P.int) (i:Int)=some (.int (o.getD i 0)):=by
 rw[YZ.atI_nat ∅,Vj,Jd,Ja ∅,J0,Ja ∅];rfl
theorem zRV{o:List Int}{n:Nat} (h0:0<n) (hl:o.length=n) (σ:Sg) (hn:σ[3]?=some (some (.p (.int n)))) (ho:σ[6]?=some (some (.p (.lst (o.map P.int))))) (h8:8<σ.length) (st:List Cell) :
  lcL (.nm 8) mYes (mTup %[(mBin vIx (mVar 6) (mVar 8)),(mBin vIx (mVar 6) (mBin vMod (mBin vAdd (mVar 8) (mC (.int 1))) (mVar 3)))|0]) σ (rngL 0 n) st=.ok (((cyc o).map tupP).map W.p) st:=by
 unfold rngL
 rw[zFz (fun(i:Nat)=>tupP (o.getD i 0,o.getD ((i+1)%n) 0)) (fun i mi=>by
  have hi:i<n:=Jy.mp mi;have a1:=at_ints hl hi
  have a2:L2.atI (o.map P.int) (((i:Int)+1)%n)=some (.int (o.getD ((i+1)%n) 0)):=by
   rw[show((i:Int)+1)%n=((i+1)%n:Nat) by rw[bR];rfl]
   exact at_ints hl (jc (i+1) h0)
  have q3:∀x,(σ.set 8 x)[3]?=some (some (.p (.int n))):=fun x=>by rw[Jv (!0)];exact hn
  have q6:∀x,(σ.set 8 x)[6]?=some (some (.p (.lst (o.map P.int)))):=fun x=>by rw[Jv (!0)];exact ho
  refine⟨_,zBl _ _,?_⟩
  simp[q3,q6,List.getElem?_set,h8,a1,a2,h0,tupP])]
 unfold cyc;rw[hl,Jm,Jm];rfl
theorem conn1(A:Arcs):Conn 1 A:=fun a b a0 a1 b0 b1=>by
 obtain rfl:a=0:=by omega
 obtain rfl:b=0:=by omega
 exact .refl
theorem mdR_ok(w:Wy){c:Cell} (hc:GB c){n:Nat} (h0:0<n) (h1:n≤6){ls:List Nat} (hl:ls.length=n) (hls:∀x∈ls,okC x) (hM:okM w ls) (a2 a4:Option W) :
  Gb (fun v=>∃s A,v=wP s A∧Wb s A∧s.length=n∧A.length≤2*(n+4)∧(w≠.two→A.length≤n+4)∧Wof w s A)
   (runR (mdR [some (.r 0),some (.p (.str w.s)),a2,some (.p (.int n)),a4,some (.r 1),none,none,none,none,none] [c,.lst (ls.map (W.p∘chP))])):=by
 obtain⟨_,c1,e1,hc1,mm,rfl,hp⟩:=(zIL (l:=(List.range n).map fun(i:Nat)=>P.int (i:Int)) (by simp;omega)).call1 hc [.lst (ls.map (W.p∘chP))]
 obtain⟨o,rfl,po⟩:=zH7 (l:=nodes n) (f:=P.int) hp (by unfold nodes;rw[Jm];rfl)
 have lo:o.length=n:=by rw[po.length_eq,zCH]
 have e2:=zRV h0 lo [some (.r 0),some (.p (.str w.s)),a2,some (.p (.int n)),a4,some (.r 1),some (.p (.lst (o.map P.int))),none,none,none,none] rfl rfl (by simp) [c1,.lst (ls.map (W.p∘chP))]
 have hn1:(n:Int)≤1000000:=by omega
 have hn2:(-1000000:Int)≤n:=by omega
 have hn3:n≤1000000:=by omega
 have lc:(cyc o).length=n:=by unfold cyc;simp[lo]
 have m1:=zOR w hc1 h0 h1 hl hls hM (zM3 po) (zH6 po) ∅ a2 a4 (some (.p (.lst (o.map P.int))));unfold mdR
 by_cases hn:n=1
 ·obtain⟨_,c2,e3,hc2,k,rfl,k0,k1⟩:=(zAk (n:=2) ∅ (zAT ∅ ∅)).call1 hc1 [.lst (ls.map (W.p∘chP))];have m2:=zOR w hc2 h0 h1 hl hls hM (zM3 po) (zH6 po) ∅ a2 a4 (some (.p (.lst (o.map P.int))));have m3:=zOR w hc2 h0 h1 hl hls hM (C:=[]) (by simp[InN]) (by rw[hn];exact conn1 _) (by simp) a2 a4 (some (.p (.lst (o.map P.int))))
  have hk:(k==0)=decide (k=0):=rfl
  by_cases k2:k=0
  ·conv=>arg 2;simp[e1,e2,hn1,hn2,hn3]
   rw[JW (show(n:Int)=1 by omega)]
   conv=>arg 2;simp[e3,k2]
   exact m3
  ·conv=>arg 2;simp[e1,e2,hn1,hn2,hn3]
   rw[JW (show(n:Int)=1 by omega)]
   conv=>arg 2;simp[e3,k2]
   exact m2
 ·have hz:¬(n:Int)=1:=by omega
  conv=>arg 2;simp[e1,e2,hn1,hn2,hn3,hz]
  exact m1
theorem zD1(w:Wy){most:Int} (h0:1≤most) (h1:most≤6):Bg zA9 [.str w.s,.int most] fun v=>∃s A,v=wP s A∧Wb s A∧(s.length:Int)≤most∧A.length≤2*(s.length+4)∧(w≠.two→A.length≤s.length+4)∧Wof w s A:=by
 intro c hc;obtain⟨_,c1,e1,hc1,k,rfl,k0,k1⟩:=(zAk (n:=most) ∅ (zAT ∅ ∅)).call1 hc [];obtain⟨sg,c2,e2,hc2,hsg⟩:=(zRl (l:=[.str (Str.ofString "a"),.str (Str.ofString "ab"),.str (Str.ofString "ab"),.str (Str.ofString "abc"),.str (Str.ofString "bc")]) (by simp) (by simp)).call1 hc1 []
 have hs:∃s:Str,sg=.str s∧0<s.length∧s.length≤1000000∧∀c∈s.cps.toList,c=97∨c=98∨c=99:=by
  simp only[Jo,VM,bC]at hsg;rcases hsg with rfl|rfl|rfl|rfl|rfl<;>exact⟨_,rfl,!0,!0,!0⟩
 obtain⟨sg,rfl,g0,g1,g2⟩:=hs;obtain⟨n,hn⟩:∃n:Nat,(n:Int)=1+k:=⟨(1+k).toNat,∅⟩;rw[zI4];simp[zAQ,e1,e2,←hn,show(n:Int)≤1000000 by omega,show(-1000000:Int)≤n by omega,show n≤1000000 by omega]
 have fl:Bg zAW [.str sg] fun x=>∃c∈sg.cps.toList,x=chP c:=zI6 g0 g1
 refine zHt (fun r=>Gb _ (runR (((r.bind finC).to _ _).then _))) (fun i acc st=>∃ls c,acc=ls.map (W.p∘chP)∧(∀x∈ls,x∈sg.cps.toList)∧st=[c]∧GB c) ⟨[],c2,rfl,by simp,rfl,hc2⟩ ?_ ?_
 ·rintro i x acc st _ hl ⟨ls,c,rfl,hls,rfl,hc⟩;obtain⟨_,c',e,hc',d,hd,rfl⟩:=fl.call1 hc []
  conv=>arg 2;simp[e]
  refine⟨ls++[d],c',by simp,?_,rfl,hc'⟩
  intro x hx;rcases JI.mp hx with hx|hx
  ·exact hls x hx
  ·simp at hx;subst hx;exact hd
 ·rintro ws st hl ⟨ls,c,rfl,hls,rfl,hc⟩;rw[zCg,Jc]at hl
  obtain⟨c',ls',hc',hl',hls',hM,eM⟩:=mdM_ok w hc (n:=n) ∅ ∅ hl (fun x hx=>by
   rcases g2 x (hls x hx)with h|h|h
   ·exact .inl h
   ·exact .inr (.inl h)
   ·exact .inr (.inr (.inl h))) (fun h9=>by rcases g2 109 (hls 109 h9)with h|h|h<;>omega) (some (.p (.int most))) (some (.p (.str sg)))
  have mR:=mdR_ok w hc' (n:=n) ∅ ∅ hl' hls' hM (some (.p (.int most))) (some (.p (.str sg)))
  conv=>arg 2;simp[eM]
  obtain⟨v,c3,l3,e3,hc3,s,A,rfl,hw,h3,h4,h5,h6⟩:=Gb.ex mR;rw[e3,zPB];exact⟨hc3,s,A,rfl,hw,∅,by rw[h3];exact h4,fun h=>by rw[h3];exact h5 h,h6⟩
def nxt(n i:Nat):Int:=Int.ofNat ((i+1)%n)
def rgA(n:Nat) (both:Bool) (m:Nat):Arcs:=(List.range m).flatMap fun(i:Nat)=>((i:Int),nxt n i)::(if both=true then[(nxt n i,(i:Int))]else[])
theorem zF0(n:Nat) (both:Bool) (m:Nat):rgA n both (m+1)=rgA n both m++(((m:Int),nxt n m)::(if both=true then[(nxt n m,(m:Int))]else[])):=by
 unfold rgA;rw[V8,Y5];simp
theorem zGF(n:Nat) (both:Bool):∀m,(rgA n both m).length≤2*m
 |0=>by simp[rgA]
 |m+1=>by
  have:=zGF n both m
  rw[zF0,Ju];cases both<;>simp<;>omega
theorem zHw{n:Nat} (h0:0<n) (both:Bool):InN n (rgA n both n):=fun q hq=>by
 obtain⟨i,hi,hq⟩:=Yu.mp hq;have hi:=Jy.mp hi
 have:=jc (i+1) h0
 have e:nxt n i=(((i+1)%n:Nat):Int):=rfl;generalize (i+1)%n=z at *
 cases both<;>simp at hq
 ·subst hq;simp only;omega
 ·rcases hq with rfl|rfl<;>simp only<;>omega
theorem zF4{n:Nat} (h0:0<n) (both:Bool):Conn n (rgA n both n):=by
 refine(zH6 (.refl (nodes n))).mono fun q hq=>?_
 unfold cyc at hq;rw[zCH]at hq;obtain⟨i,hi,rfl⟩:=Jj.mp hq
 have g:∀k,k<n→(nodes n).getD k 0=(k:Int):=fun k hk=>by
  unfold nodes;rw[J0,Jd,JZ hk];rfl
 have hi':=Jy.mp hi;rw[g i hi',g _ (jc (i+1) h0)];exact Yu.mpr ⟨i,hi,Jg⟩
theorem zGc{s:Str} (h0:0<s.length) (h1:s.length≤1000) (both:Bool) (st:List Cell):zAM zBx [.p (.str s),.p (.bl both)] st=.ok (.p (wP s (rgA s.length both s.length))) st:=by
 refine Pu.call2 (Pu.of2 ?_) st;have l1:s.length≤1000000:=by omega
 have l2:(-1000000:Int)≤s.length:=by omega
 have l3:(s.length:Int)≤1000000:=by omega
 simp[zBx,zAQ,l1,l2,l3,-zAn];refine zAm (fun r=>Gv (runR (r.then _)) _) (fun i σ st=>∃x,σ=[some (.p (.str s)),some (.p (.bl both)),some (.r 0),x]∧st=[.lst ((rgA s.length both i).map (W.p∘tupP))]) ⟨none,rfl,rfl⟩ ?_ ?_
 ·rintro i w σ st hw ⟨x,rfl,rfl⟩;obtain⟨hi,rfl⟩:=zDl hw;have hl:=zGF s.length both i
  have e:((i:Int)+1)%(s.length:Int)=nxt s.length i:=by
   unfold nxt;show _=(((i+1)%s.length:Nat):Int);rw[bR];rfl
  rw[zF0];have l4:(rgA s.length both i).length<1000000:=by omega
  have l5:(rgA s.length both i).length+1<1000000:=by omega
  have h0':(0:Int)<s.length:=by omega
  cases both<;>conv=>arg 3;simp[l1,e,l4,l5,h0',h0]
  ·exact⟨_,rfl,by simp[tupP]⟩
  ·exact⟨_,rfl,by simp[tupP]⟩
 ·rintro σ st ⟨x,rfl,rfl⟩;rw[zCg];simp[wP]
def lfA(k:Nat) (l:List ((Int×Int)×Int)):Arcs:=l.flatMap fun q=>(List.range k).map fun(i:Nat)=>(q.1.1*k+i,q.1.2*k+((i:Int)+q.2)%k)
def repS(s:Str) (k:Nat):Str:=sOf (s.cps.toList.flatMap fun c=>List.replicate k c)
theorem zK7(s:Str) (k:Nat):(repS s k).cps.toList=s.cps.toList.flatMap fun c=>List.replicate k c:=by simp[repS,sOf]
theorem zP6(l:List Nat) (k:Nat):(l.flatMap fun c=>List.replicate k c).length=l.length*k:=by
 induction l with
 |nil=>simp
 |cons c l ih=>rw[List.flatMap_cons,Ju,ih,Vm,JJ,Nat.succ_mul,Nat.add_comm]
theorem zLv(s:Str) (k:Nat):(repS s k).length=s.length*k:=by
 unfold repS;rw[zEf,zP6];rfl
theorem zIE(k:Nat):∀l:List ((Int×Int)×Int),(lfA k l).length=l.length*k
 |[]=>by simp[lfA]
 |q::l=>by
  have:=zIE k l
  unfold lfA at this ⊢;rw[List.flatMap_cons,Ju,this,Jc,JN,JJ,Nat.succ_mul,Nat.add_comm]
theorem zQR(k:Nat) (l:List ((Int×Int)×Int)) (q:(Int×Int)×Int):lfA k (l++[q])=lfA k l++(List.range k).map fun(i:Nat)=>(q.1.1*k+i,q.1.2*k+((i:Int)+q.2)%k):=by
 unfold lfA;rw[Y5];simp
theorem zNV{n k:Nat}{A:Arcs}{Z:List Int} (hA:InN n A) (hk:0<k):InN (n*k) (lfA k (A.zip Z)):=fun q hq=>by
 obtain⟨⟨p,z⟩,hp,hq⟩:=Yu.mp hq;obtain⟨i,hi,rfl⟩:=Jj.mp hq;have hi:=Jy.mp hi;obtain⟨a0,a1,b0,b1⟩:=hA p (bS hp).1;have m0:=Int.emod_nonneg ((i:Int)+z) (show(k:Int)≠0 by omega)
 have m1:=Int.emod_lt_of_pos ((i:Int)+z) (show(0:Int)<k by omega)
 have u1:p.1*k≤(n-1:Int)*k:=YQ ∅ ∅;have u2:p.2*k≤(n-1:Int)*k:=YQ ∅ ∅;have u3:0≤p.1*k:=Int.mul_nonneg a0 ∅;have u4:0≤p.2*k:=Int.mul_nonneg b0 ∅;have u5:(n-1:Int)*k=(n:Int)*k-k:=by rw[Int.sub_mul];omega
 simp only[Int.natCast_mul];omega
theorem zRE(c k:Nat):zCL ⟨#[c]⟩ k=sOf (List.replicate k c):=by
 unfold zCL sOf
 congr 2
 induction k with
 |zero=>rfl
 |succ k ih=>rw[Yx,List.flatten_cons,ih,Yx];rfl
@[simp]theorem zKl(a:Str) (k:Int) (st:List Cell):zIe (.p (.str a)) (.p (.int k)) st=if 0≤k∧k≤1000∧a.length≤1000 then .ok (.p (.str (zCL a k.toNat))) st else .no:=rfl
theorem zSZ(c:Nat) (k:Nat) (hk:k≤1000) (st:List Cell):zIe (.p (chP c)) (.p (.int k)) st=.ok (.p (.str (sOf (List.replicate k c)))) st:=by
 rw[chP,zKl,JW ⟨∅,∅,show 1≤1000 by decide⟩,Vj,zRE]
theorem zNv(l:List Nat) (k:Nat):Txt.join (Str.ofString "") (l.map fun c=>sOf (List.replicate k c))=sOf (l.flatMap fun c=>List.replicate k c):=by
 rw[join_eq]
 induction l with
 |nil=>rfl
 |cons c l ih =>
  cases l with
  |nil=>simp[sOf];rfl
  |cons d l =>
   show sOf (List.replicate k c)++Str.ofString "" ++ Str.join (Str.ofString "") ((d::l).map fun c=>sOf (List.replicate k c))=_
   rw[ih];unfold sOf;show(⟨(List.replicate k c).toArray ++ #[]++((d::l).flatMap fun c=>List.replicate k c).toArray⟩:Str)=⟨((c::d::l).flatMap fun c=>List.replicate k c).toArray⟩
   simp
def zA8:FM:=runF 3 9 (sSeq (sSet 3 (zDB mNil))
  (sSeq (sFor (zBO (zAH vLen %[(mBin vIx (mVar 0) (mC (.int 1)))|0])) (.nm 4) (sSeq (sPut (.tp [(.nm 5),(.nm 6)]) (mBin vIx (mBin vIx (mVar 0) (mC (.int 1))) (mVar 4)))
  (sFor (zBO (mVar 2)) (.nm 7) (zBo (mBm "list" zAs (mVar 3) %[(mTup %[(mBin vAdd (mBin zHG (mVar 5) (mVar 2)) (mVar 7)),(mBin vAdd (mBin zHG (mVar 6) (mVar 2)) (mBin vMod (zAH vInt %[(mBin vAdd (mVar 7) (mBin vIx (mVar 1) (mVar 4)))|0]) (mVar 2)))|0])|0])))))
  (sRet (mTup %[(mBm "str" zFv (mC (.str "")) %[(mLc (mSrc (mBin vIx (mVar 0) (mC (.int 0)))) (.nm 8) [8] mYes (mBin zIe (mVar 8) (mVar 2)) finP)|0]),(mFrz (mVar 3))|0]))))
theorem zFN{s:Str}{A:Arcs}{Z:List Int}{k:Nat} (hs:s.length≤100) (hA:InN s.length A) (hZ:Z.length=A.length) (hl:A.length≤1000) (hk0:0<k) (hk:k≤100) (st:List Cell) :
  zAM zA8 [.p (wP s A),.p (.lst (Z.map P.int)),.p (.int k)] st=.ok (.p (wP (repS s k) (lfA k (A.zip Z)))) st:=by
 refine Pu.call3 (Pu.of3 ?_) st;have l1:A.length≤1000000:=by omega
 have l2:(-1000000:Int)≤A.length:=by omega
 have l3:(A.length:Int)≤1000000:=by omega
 simp[zA8,zAQ,wP,l1,l2,l3,-zAn];refine zAm (fun r=>Gv (runR (r.then _)) _) (fun i σ st=>∃x4 x5 x6 x7,σ=[some (.p (.tup [.str s,.lst (A.map tupP)])),some (.p (.lst (Z.map P.int))),some (.p (.int k)),some (.r 0),x4,x5,x6,x7,none]∧st=[.lst ((lfA k ((A.zip Z).take i)).map (W.p∘tupP))]) ⟨none,none,none,none,rfl,rfl⟩ ?_ ?_
 ·rintro i w σ st hw ⟨x4,x5,x6,x7,rfl,rfl⟩;obtain⟨hi,rfl⟩:=zDl hw;obtain⟨q,hq⟩:∃q,A[i]?=some q:=⟨_,Ja hi⟩;obtain⟨z,hz⟩:∃z,Z[i]?=some z:=⟨_,Ja ∅⟩;have e1:(A.map tupP)[i]?=some (tupP q):=by rw[Jd,hq];rfl
  have e2:(Z.map P.int)[i]?=some (P.int z):=by rw[Jd,hz];rfl
  have et:(A.zip Z).take (i+1)=(A.zip Z).take i++[(q,z)]:=by
   rw[VD,show(A.zip Z)[i]?=some (q,z)from Yr.mpr ⟨hq,hz⟩];rfl
  obtain⟨a0,a1,b0,b1⟩:=hA q (Ji hq)
  have ll:(lfA k ((A.zip Z).take i)).length≤1000*100:=by
   rw[zIE];exact VQ (by rw[Vy,Yg];omega) hk
  have m1:zE7 q.1 k=true:=mulOk_of (Sm.small ∅) (Sm.small ∅);have m2:zE7 q.2 k=true:=mulOk_of (Sm.small ∅) (Sm.small ∅);have k1:(k:Int)≤1000000:=by omega
  have k2:(-1000000:Int)≤k:=by omega
  have k3:(0:Int)<k:=by omega
  conv=>arg 3;simp[e1,tupP,k1,k2,-zAn]
  refine zAm (fun r=>Sq _ _ r) (fun j σ st=>∃y,σ=[some (.p (.tup [.str s,.lst (A.map tupP)])),some (.p (.lst (Z.map P.int))),some (.p (.int k)),some (.r 0),some (.p (.int i)),some (.p (.int q.1)),some (.p (.int q.2)),y,none]∧st=[.lst (((lfA k ((A.zip Z).take i))++(List.range j).map fun(i:Nat)=>(q.1*k+i,q.2*k+((i:Int)+z)%k)).map (W.p∘tupP))]) ⟨x7,rfl,by simp⟩ ?_ ?_
  ·rintro j w σ st hw ⟨y,rfl,rfl⟩;obtain⟨hj,rfl⟩:=zDl hw;have l5:(lfA k ((A.zip Z).take i)).length+j<1000000:=by omega
   conv=>arg 3;simp[m1,m2,k3,hk0,e2,l5]
   exact⟨_,rfl,by rw[V8,JE];simp[tupP]⟩
  ·rintro σ st ⟨y,rfl,rfl⟩;rw[zCg];exact⟨_,_,_,_,rfl,by rw[et,zQR]⟩
 ·rintro σ st ⟨x4,x5,x6,x7,rfl,rfl⟩;have tk:(A.zip Z).take A.length=A.zip Z:=Vk (by rw[Yg];omega)
  rw[zCg,tk];have lsc:s.cps.toList.length≤100:=hs
  have L:=fun(σ:Sg) (h2:σ[2]?=some (some (.p (.int k)))) (h8:8<σ.length) st=>zDA (f:=fun c=>W.p (.str ⟨#[c]⟩)) (l:=s.cps.toList) (t:=.nm 8) (e:=mBin zIe (mVar 8) (mVar 2)) (σ0:=σ) (st:=st) (fun c=>P.str (sOf (List.replicate k c))) fun c _=>by
   refine⟨_,zBl _ _,?_⟩;have q2:(σ.set 8 (some (W.p (.str ⟨#[c]⟩))))[2]?=some (some (.p (.int k))):=by rw[Jv (!0)];exact h2
   have:=zSZ c k ∅ st
   rw[chP]at this;simp[q2,h8,-zKl,this]
  have L2:=L [some (.p (.tup [.str s,.lst (A.map tupP)])),some (.p (.lst (Z.map P.int))),some (.p (.int k)),some (.r 0),x4,x5,x6,x7,none] rfl (by simp) [.lst ((lfA k (A.zip Z)).map (W.p∘tupP))]
  have sm:((s.cps.toList.map fun c=>sOf (List.replicate k c)).map (·.length)).sum≤1000000:=by
   have:∀l:List Nat,((l.map fun c=>sOf (List.replicate k c)).map (·.length)).sum=l.length*k:=by
    intro l
    induction l with
    |nil=>simp
    |cons c l ih=>simp only[Jl,List.sum_cons,JJ];rw[ih,zEf,Vm,Nat.succ_mul,Nat.add_comm]
   rw[this]
   have:=VQ lsc hk
   omega
  have hj:=zNv s.cps.toList k;have ll:(zGu s).length≤1000000:=by rw[zE8,Jc];omega
  rw[←zE8]at L2
  conv=>arg 1;simp[ll,L2,-zKl]
  rw[Jm]at sm;rw[JW sm,hj];rfl
theorem zLy{e:EM}{R:P→Prop}{σ:Sg}{t:Tg}{rest:List Cell}:∀ {l:List W}{c:Cell},GB c→(∀w∈l,∃σ1,t.put w σ=some σ1∧∀c,GB c→∃x c',e σ1 (c::rest)=.ok (.p x) (c'::rest)∧GB c'∧R x) →
  ∃(c':Cell) (xs:List P),GB c'∧xs.length=l.length∧(∀x∈xs,R x)∧lcL t mYes e σ l (c::rest)=.ok (xs.map W.p) (c'::rest)
 |[],c,hc,_=>⟨c,[],hc,rfl,by simp,rfl⟩
 |w::l,c,hc,he=>by
  obtain⟨σ1,e1,h1⟩:=he w Jg;obtain⟨x,c1,e2,hc1,hx⟩:=h1 c hc;obtain⟨c2,xs,hc2,hl,hxs,e3⟩:=zLy (l:=l) hc1 fun w hw=>he w (Jf _ hw)
  refine⟨c2,x::xs,hc2,by simp[hl],fun y hy=>?_,?_⟩
  ·rcases Jo.mp hy with rfl|hy
   ·exact hx
   ·exact hxs y hy
  ·rw[zE5,e1,zNl,zNy];simp[e2,e3]
theorem chs_of{xs:List P}{p:Nat→Prop} (h:∀x∈xs,∃c,p c∧x=chP c):∃ls:List Nat,xs=ls.map chP∧∀c∈ls,p c:=by
 induction xs with
 |nil=>exact⟨[],rfl,by simp⟩
 |cons x xs ih =>
  obtain⟨ls,rfl,h2⟩:=ih fun y hy=>h y (Jf _ hy)
  obtain⟨c,hc,rfl⟩:=h x Jg
  exact⟨c::ls,rfl,fun d hd=>by
   rcases Jo.mp hd with rfl|hd
   ·exact hc
   ·exact h2 d hd⟩
theorem ints_of{xs:List P}{p:Int→Prop} (h:∀x∈xs,∃k,x=.int k∧p k):∃Z:List Int,xs=Z.map P.int∧∀z∈Z,p z:=by
 induction xs with
 |nil=>exact⟨[],rfl,by simp⟩
 |cons x xs ih =>
  obtain⟨ls,rfl,h2⟩:=ih fun y hy=>h y (Jf _ hy)
  obtain⟨c,rfl,hc⟩:=h x Jg
  exact⟨c::ls,rfl,fun d hd=>by
   rcases Jo.mp hd with rfl|hd
   ·exact hc
   ·exact h2 d hd⟩
def zCc:FM:=runF 2 11 (sSeq (sSet 2 (mBin (vEqB false) (mVar 1) (mC (.str "two-way"))))
  (sSeq (sSet 3 (mBm "str" zFv (mC (.str "")) %[(mLc (zBO (mBin vAdd (mC (.int 1)) (zAF zAG %[(mVar 0),(mC (.int 3))|0]))) (.nm 7) [7] mYes (zAF zAW %[(mVar 0),(mC (.str "aab"))|0]) finP)|0]))
  (sSeq (sIf (mTst (mBin (vEqB false) (zAF zAG %[(mVar 0),(mC (.int 2))|0]) (mC (.int 0)))) (sRet (zAF zBx %[(mBin zIe (mVar 3) (mBin vAdd (mC (.int 1)) (zAF zAG %[(mVar 0),(mC (.int 3))|0]))),(mVar 2)|0])) sNx)
  (sSeq (sPar 4 5 %[(zAF zA9 %[(mVar 0),(mC (.str "counted")),(mC (.int 3))|0]),(mBin vAdd (mC (.int 2)) (zAF zAG %[(mVar 0),(mC (.int 2))|0]))|0])
  (sSeq (sSet 6 (zAF zA8 %[(mVar 4),(mLc (mSrc (mBin vIx (mVar 4) (mC (.int 1)))) (.nm 8) [8] mYes (zAF zAG %[(mVar 0),(mC (.int 3))|0]) finP),(mVar 5)|0]))
  (sSeq (sIf (mTru (mVar 2)) (sSet 6 (mTup %[(mBin vIx (mVar 6) (mC (.int 0))),(mBin vAdd (mBin vIx (mVar 6) (mC (.int 1))) (mLc (mSrc (mBin vIx (mVar 6) (mC (.int 1)))) (.tp [(.nm 9),(.nm 10)]) [9,10] mYes (mTup %[(mVar 10),(mVar 9)|0]) finP))|0])) sNx)
  (sRet (mIfE (mTru (zAF zAp %[(zAH vLen %[(mBin vIx (mVar 6) (mC (.int 0)))|0]),(mBin vIx (mVar 6) (mC (.int 1)))|0])) (mVar 6) (mIfE (zBq (mTru (mVar 2))) (mVar 4) (zAF zBx %[(mVar 3),(mC (.bl true))|0]))))))))))
def evR:SMm:=(sSeq (sPar 4 5 %[(zAF zA9 %[(mVar 0),(mC (.str "counted")),(mC (.int 3))|0]),(mBin vAdd (mC (.int 2)) (zAF zAG %[(mVar 0),(mC (.int 2))|0]))|0])
  (sSeq (sSet 6 (zAF zA8 %[(mVar 4),(mLc (mSrc (mBin vIx (mVar 4) (mC (.int 1)))) (.nm 8) [8] mYes (zAF zAG %[(mVar 0),(mC (.int 3))|0]) finP),(mVar 5)|0]))
  (sSeq (sIf (mTru (mVar 2)) (sSet 6 (mTup %[(mBin vIx (mVar 6) (mC (.int 0))),(mBin vAdd (mBin vIx (mVar 6) (mC (.int 1))) (mLc (mSrc (mBin vIx (mVar 6) (mC (.int 1)))) (.tp [(.nm 9),(.nm 10)]) [9,10] mYes (mTup %[(mVar 10),(mVar 9)|0]) finP))|0])) sNx)
  (sRet (mIfE (mTru (zAF zAp %[(zAH vLen %[(mBin vIx (mVar 6) (mC (.int 0)))|0]),(mBin vIx (mVar 6) (mC (.int 1)))|0])) (mVar 6) (mIfE (zBq (mTru (mVar 2))) (mVar 4) (zAF zBx %[(mVar 3),(mC (.bl true))|0])))))))
theorem zKa:zCc=runF 2 11 (sSeq (sSet 2 (mBin (vEqB false) (mVar 1) (mC (.str "two-way"))))
  (sSeq (sSet 3 (mBm "str" zFv (mC (.str "")) %[(mLc (zBO (mBin vAdd (mC (.int 1)) (zAF zAG %[(mVar 0),(mC (.int 3))|0]))) (.nm 7) [7] mYes (zAF zAW %[(mVar 0),(mC (.str "aab"))|0]) finP)|0]))
  (sSeq (sIf (mTst (mBin (vEqB false) (zAF zAG %[(mVar 0),(mC (.int 2))|0]) (mC (.int 0)))) (sRet (zAF zBx %[(mBin zIe (mVar 3) (mBin vAdd (mC (.int 1)) (zAF zAG %[(mVar 0),(mC (.int 3))|0]))),(mVar 2)|0])) sNx)
  evR))):=rfl
theorem zSL(n m:Nat):((rgA n true m).map swp).Perm (rgA n true m):=by
 induction m with
 |zero=>simp[rgA]
 |succ m ih =>
  rw[zF0,JE];refine List.Perm.append ih ?_
  simp only[Ye,Jl,VS,swp];exact List.Perm.swap _ _ _
theorem zMA(a:Str) (n:Nat):(zCL a n).cps.toList=(List.replicate n a.cps.toList).flatten:=by simp[zCL]
def bth:Wy→Bool
 | .two=>true
 |_=>false
def zBX:FM:=runF 2 2 (sSeq (sIf (zEX (mTst (mBin (vEqB true) (mVar 1) (mC (.str "marked")))) (mTst (mBin (vEqB false) (zAF zAG %[(mVar 0),(mC (.int 2))|0]) (mC (.int 0))))) (sRet (zAF zCc %[(mVar 0),(mVar 1)|0])) sNx)
  (sRet (zAF zA9 %[(mVar 0),(mVar 1),(mC (.int 6))|0])))
def zBS:FM:=runF 1 2 (sRet (zCu (mIsi "str" (mVar 0)) (zCu (zGQ vLe vLe (mC (.int 1)) (zAH vLen %[(mVar 0)|0]) (mC (.int 30))) (zAH (zGy fun bs=>bs.all id) %[(mLc (mSrc (mVar 0)) (.nm 1) [1] mYes (mBin (vInB false) (mVar 1) (mC (.str "abcm"))) finP)|0]))))
def zEN:FM:=runF 2 3 (sRet (zCu (mIsi "tuple" (mVar 0)) (zCu (mBin (vEqB false) (zAH vLen %[(mVar 0)|0]) (mC (.int 2))) (zAH (zGy fun bs=>bs.all id) %[(mLc (mSrc (mVar 0)) (.nm 2) [2] mYes (zAF zAf %[(mVar 2),(mC (.int 0)),(mBin vSub (mVar 1) (mC (.int 1)))|0]) finP)|0]))))
def zB7:FM:=runX 3 7 (sSeq (sIf (zBq (mTru (zAF zBS %[(mVar 1)|0]))) (zEj 17 "InvalidLetters") sNx)
  (sSeq (sSet 3 (zDB mNil))
  (sSeq (sFor (mEnm (mVar 2)) (.tp [(.nm 4),(.nm 5)]) (sSeq (sIf (mOrT (mTst (mBin vGe (mVar 4) (mC (.int 200)))) (zBq (mTru (zAF zEN %[(mVar 5),(zAH vLen %[(mVar 1)|0])|0])))) (zEE 18 (mVar 4) "InvalidArc") sNx)
  (zBo (mBm "list" zAs (mVar 3) %[(mVar 5)|0]))))
  (sSeq (sIf (zBq (mTru (zAF zBe %[(zAH vLen %[(mVar 1)|0]),(mVar 3)|0]))) (zEj 19 "NotConnected") sNx)
  (sSeq (zHM [(3,0)] (mVar 0) (mVar 1))
  (sSeq (zHM [(3,1)] (mVar 0) (zAH zDW %[(mVar 3)|0]))
  (sSeq (zHM [(3,2)] (mVar 0) (mLc (zBO (zAH vLen %[(mVar 1)|0])) (.nm 6) [6] mYes (zAH zBY %[(mLc (mSrc (mVar 3)) (.nm 5) [5] (mTst (mBin (vEqB false) (mBin vIx (mVar 5) (mC (.int 1))) (mVar 6))) (mBin vIx (mVar 5) (mC (.int 0))) finP)|0]) finP))
  (zHM [(3,3)] (mVar 0) (mTup %[(mVar 1),(zAH zDW %[(zAH zBY %[(mVar 3)|0])|0])|0])))))))))
def webT:SMm:=(sSeq (sIf (zBq (mTru (zAF zBe %[(zAH vLen %[(mVar 1)|0]),(mVar 3)|0]))) (zEj 19 "NotConnected") sNx)
  (sSeq (zHM [(3,0)] (mVar 0) (mVar 1))
  (sSeq (zHM [(3,1)] (mVar 0) (zAH zDW %[(mVar 3)|0]))
  (sSeq (zHM [(3,2)] (mVar 0) (mLc (zBO (zAH vLen %[(mVar 1)|0])) (.nm 6) [6] mYes (zAH zBY %[(mLc (mSrc (mVar 3)) (.nm 5) [5] (mTst (mBin (vEqB false) (mBin vIx (mVar 5) (mC (.int 1))) (mVar 6))) (mBin vIx (mVar 5) (mC (.int 0))) finP)|0]) finP))
  (zHM [(3,3)] (mVar 0) (mTup %[(mVar 1),(zAH zDW %[(zAH zBY %[(mVar 3)|0])|0])|0]))))))
def webR:SMm:=(sSeq (sSet 3 (zDB mNil))
  (sSeq (sFor (mEnm (mVar 2)) (.tp [(.nm 4),(.nm 5)]) (sSeq (sIf (mOrT (mTst (mBin vGe (mVar 4) (mC (.int 200)))) (zBq (mTru (zAF zEN %[(mVar 5),(zAH vLen %[(mVar 1)|0])|0])))) (zEE 18 (mVar 4) "InvalidArc") sNx)
  (zBo (mBm "list" zAs (mVar 3) %[(mVar 5)|0]))))
  webT))
theorem zKI:zB7=runX 3 7 (sSeq (sIf (zBq (mTru (zAF zBS %[(mVar 1)|0]))) (zEj 17 "InvalidLetters") sNx)
  webR):=rfl
def LtS(s:Str):Prop:=0<s.length∧s.length≤30∧∀c∈s.cps.toList,okC c
theorem Wb.lt{s:Str}{A:Arcs} (h:Wb s A) (hs:s.length≤30):LtS s:=⟨h.n0,hs,h.ch⟩
theorem zEc{s:Str} (h:LtS s) (st:List Cell):zAM zBS [.p (.str s)] st=.ok (.p (.bl true)) st:=by
 refine Pu.call1 (Pu.of1 ?_) st;obtain⟨h0,h1,h2⟩:=h
 have L:=zDA (f:=fun c=>W.p (.str ⟨#[c]⟩)) (l:=s.cps.toList) (t:=.nm 1) (e:=mBin (vInB false) (mVar 1) (mC (.str "abcm"))) (σ0:=[some (.p (.str s)),none]) (st:=[]) (fun c=>P.bl true) fun c hc=>by
  refine⟨_,zBl _ _,?_⟩
  have hm:c∈(Str.ofString "abcm").cps.toList:=by
   show c∈[97,98,99,109];rcases h2 c hc with rfl|rfl|rfl|rfl<;>decide
  simp[zHk,zOa,hm]
 rw[←zE8]at L;have l1:s.length≤1000000:=by omega
 have l2:(1:Int)≤s.length:=by omega
 have l3:(s.length:Int)≤30:=by omega
 have l4:(zGu s).length≤1000000:=by rw[zE8,Jc];exact l1
 have l5:s.cps.size≠0:=fun e=>by have:s.length=0:=e;omega
 simp[zBS,zAQ,l1,l2,l3,l4,L,l5]
theorem zNh{n:Nat}{q:Int×Int} (st:List Cell):zAM zEN [.p (tupP q),.p (.int n)] st=.ok (.p (.bl (decide (0≤q.1∧q.1<n∧0≤q.2∧q.2<n)))) st:=by
 refine Pu.call2 (Pu.of2 ?_) st;have h1:(q.1≤(n:Int)-1)↔q.1<n:=by omega
 have h2:(q.2≤(n:Int)-1)↔q.2<n:=by omega
 simp[zEN,zAQ,tupP,zDm,h1,h2,Bool.and_assoc]
def srcs(A:Arcs) (v:Int):List Int:=(A.filter fun q=>decide (q.2=v)).map (·.1)
def webO(s:Str) (A:Arcs):P:=.obj 3 [.str s,.tup (A.map tupP),.lst ((List.range s.length).map fun(v:Nat)=>P.lst ((sortI (srcs A v)).map P.int)),.tup [.str s,.tup ((zDd A).map tupP)]]
theorem InN.small{n:Nat}{A:Arcs} (h:InN n A) (hn:n≤900):∀q∈A,zCC q:=fun q hq=>by
 obtain⟨a,b,c,d⟩:=h q hq;exact⟨a,∅,c,∅⟩
theorem zQL(l:List P) (m:EM) (σ:Sg) (st st1:List Cell) (h:m σ st=.ok (.p (.lst l)) st1):mEnm m σ st=.ok (srcL (enmL 0 l)) st1:=by
 unfold mEnm;rw[h];rfl
theorem zR5{s:Str}{A:Arcs} (hW:Wb s A) (hs:s.length≤30) (hl:A.length≤200) (a2 a4 a5:Option W) :
  Gm 3 [.str s,.tup (A.map tupP),.lst ((List.range s.length).map fun(v:Nat)=>P.lst ((sortI (srcs A v)).map P.int)),.tup [.str s,.tup ((zDd A).map tupP)]] (zFC (webT [some (.r 0),some (.p (.str s)),a2,some (.r 1),a4,a5,none] [.ins 3 [],.lst (A.map (W.p∘tupP))])):=by
 obtain⟨k,hk,e1⟩:=zHO hW.n0 ∅ hW.inn ∅;obtain rfl:k=true:=hk.mpr hW.cn;have l1:s.length≤1000000:=by omega
 have l2:(s.length:Int)≤1000000:=by omega
 have l3:(-1000000:Int)≤s.length:=by omega
 have l4:A.length≤1000000:=by omega
 have sp:=zEp (hW.inn.small ∅) ∅;unfold webT;simp[e1,l1,l2,l3,l4]
 have L:lcL (.nm 6) mYes (zAH zBY %[(mLc (mSrc (mVar 3)) (.nm 5) [5] (mTst (mBin (vEqB false) (mBin vIx (mVar 5) (mC (.int 1))) (mVar 6))) (mBin vIx (mVar 5) (mC (.int 0))) finP)|0]) [some (.r 0),some (.p (.str s)),a2,some (.r 1),a4,a5,none] (rngL 0 s.length) [.ins 3 [.p (.str s),.p (.tup (A.map tupP))],.lst (A.map (W.p∘tupP))]
   = .ok (((List.range s.length).map fun(v:Nat)=>P.lst ((sortI (srcs A v)).map P.int)).map W.p) [.ins 3 [.p (.str s),.p (.tup (A.map tupP))],.lst (A.map (W.p∘tupP))]:=by
  rw[zJP,zDA (fun(v:Nat)=>P.lst ((sortI (srcs A v)).map P.int))]
  intro v _;refine⟨_,zBl _ _,?_⟩;have C:=zOY (l:=A) (f:=W.p∘tupP) (t:=.nm 5) (vs:=[5]) (c:=mTst (mBin (vEqB false) (mBin vIx (mVar 5) (mC (.int 1))) (mVar 6))) (e:=mBin vIx (mVar 5) (mC (.int 0))) (fin:=finP) (j:=1) (m:=A.length) (σ:=[some (.r 0),some (.p (.str s)),a2,some (.r 1),a4,a5,some (.p (.int v))]) (st:=[.ins 3 [.p (.str s),.p (.tup (A.map tupP))],.lst (A.map (W.p∘tupP))]) (fun q=>decide (q.2=(v:Int))) (fun q=>P.int q.1) rfl rfl l4 fun q _=>⟨_,zBl _ _,by simp[tupP];rfl,fun _=>by simp[tupP]⟩
  have e:(A.filter fun q=>decide (q.2=(v:Int))).map (fun q=>P.int q.1)=(srcs A v).map P.int:=by unfold srcs;rw[Jm];rfl
  rw[e]at C;simp[C,zGs]
 simp[L,sp]
theorem zJ2{s:Str}{A:Arcs} (hW:Wb s A) (hs:s.length≤30) (hl:A.length≤200):Gm 3 [.str s,.tup (A.map tupP),.lst ((List.range s.length).map fun(v:Nat)=>P.lst ((sortI (srcs A v)).map P.int)),.tup [.str s,.tup ((zDd A).map tupP)]] (zB7 [.r 0,.p (.str s),.p (.lst (A.map tupP))] [.ins 3 []]):=by
 rw[zKI];have l1:s.length≤1000000:=by omega
 simp[zCs,zEc (hW.lt hs)];unfold webR;simp[zQL (A.map tupP),-zAn];refine zAm (fun r=>Gm _ _ (zFC (r.then webT))) (fun i σ st=>∃x4 x5,σ=[some (.r 0),some (.p (.str s)),some (.p (.lst (A.map tupP))),some (.r 1),x4,x5,none]∧st=[.ins 3 [],.lst ((A.take i).map (W.p∘tupP))]) ⟨none,none,rfl,rfl⟩ ?_ ?_
 ·rintro i w σ st hw ⟨x4,x5,rfl,rfl⟩;obtain⟨x,hx,rfl⟩:=zRX hw;rw[Jd]at hx;obtain⟨q,hq,rfl⟩:=Jx.mp hx;have hi:i<A.length:=(Jb.mp hq).1;obtain⟨a0,a1,b0,b1⟩:=hW.inn q (Ji hq);have hn:¬(200:Int)≤i:=by omega
  have lt:(A.take i).length=i:=by rw[Vy];omega
  conv=>arg 3;simp[hn,l1,zNh,a0,a1,b0,b1,show min i A.length<1000000 by omega]
  refine⟨_,_,rfl,?_⟩;rw[VD,hq];simp
 ·rintro σ st ⟨x4,x5,rfl,rfl⟩;rw[zLa,Jc,Vk (JH _)];exact zR5 hW hs hl _ _ _
theorem zJA{s:Str}{A:Arcs} (hW:Wb s A) (hs:s.length≤30) (hl:A.length≤200) (st:List Cell):zHI 3 4 zB7 [.p (.str s),.p (.lst (A.map tupP))] st=.ok (.p (webO s A)) st :=
 zMQ (xs:=[.str s,.lst (A.map tupP)]) (zJ2 hW hs hl) rfl st
theorem zO5{s:Str}{A:Arcs} (hW:Wb s A) (hs:s.length≤30) (hl:A.length<100) (st:List Cell):zHI 3 4 zB7 [.p (.str s),.p (.lst (A.map tupP))] st=.ok (.p (webO s A)) st :=
 zJA hW hs ∅ st
def zB2:FM:=runX 1 1 (sRet (zMe 3 4 zB7 %[(mBin vIx (mVar 0) (mC (.int 0))),(zAH zGi %[(mBin vIx (mVar 0) (mC (.int 1)))|0])|0]))
def zBH:FM:=runX 2 5 (sSeq (zBo (zBm zCh %[(mVar 1)|0]))
  (sSeq (sIf (mTst (mBin (vEqB false) (mVar 1) (mC (.str "marked")))) (sRet (mBin (vEqB false) (mBm "str" zLD (mFld [(3,0)] (mVar 0)) %[(mC (.str "m"))|0]) (mC (.int 1)))) sNx)
  (sSeq (sIf (mTst (mBin (vInB false) (mC (.str "m")) (mFld [(3,0)] (mVar 0)))) (sRet (mC (.bl false))) sNx)
  (sSeq (sSet 2 (mLc (mSrc (mFld [(3,1)] (mVar 0))) (.tp [(.nm 3),(.nm 4)]) [3,4] mYes (mTup %[(mVar 4),(mVar 3)|0]) finP))
  (sRet (mOrV (mBin (vEqB true) (mVar 1) (mC (.str "two-way"))) (mBin (vEqB false) (zAH zBY %[(mVar 2)|0]) (zAH zBY %[(mFld [(3,1)] (mVar 0))|0]))))))))
def symB(A:Arcs):Bool:=pEq (.lst ((zDd (A.map swp)).map tupP)) (.lst ((zDd A).map tupP))
def isW(w:Wy) (s:Str) (A:Arcs):Bool:=match w with
 | .marked=>s.cps.toList.count 109==1
 | .two => !decide (109∈s.cps.toList)&&symB A
 |_ => !decide (109∈s.cps.toList)
theorem zGS{s:Str}{A:Arcs} (hW:Wb s A) (hs:s.length≤30) (hl:A.length<100) (st:List Cell):zAM zB2 [.p (wP s A)] st=.ok (.p (webO s A)) st:=by
 refine Pu.call1 (Pu.of1 ?_) st;simp[zB2,zCs,wP,zO5 hW hs hl]
theorem zGL(A:Arcs) (n:Nat) (h:2<n):okP n (.lst (A.map tupP))=true:=by
 rw[zNu ∅];rw[VR];refine Jp.mpr fun q _=>?_
 show okP (n-1) (.tup [.int q.1,.int q.2])=true;rw[zRt ∅];simp
theorem swp_lc{A:Arcs}{st:List Cell}{σ:Sg} (i j:Nat) (hij:i≠j) (hi:i<σ.length) (hj:j<σ.length):lcL (.tp [.nm i,.nm j]) mYes (mTup %[(mVar j),(mVar i)|0]) σ (A.map (W.p∘tupP)) st=.ok (A.map (W.p∘tupP∘swp)) st:=by
 rw[zIY i j hij hi hj,Jm,Jm];rfl
theorem zRw{A:Arcs} (h:∀q∈A,zCC q) (hl:A.length<100):srtL (A.map (tupP∘swp))=some ((zDd (A.map swp)).map tupP):=by
 rw[←Jm];refine zEp (fun q hq=>?_) (by rw[Jc];omega)
 obtain⟨p,hp,rfl⟩:=Jj.mp hq;obtain⟨a,b,c,d⟩:=h p hp;exact⟨c,d,a,b⟩
theorem zPN(w:Wy){s:Str}{A:Arcs} (hA:∀q∈A,zCC q) (hs:s.length≤1000) (hl:A.length<100) (st:List Cell):zAM zBH [.p (webO s A),.p (.str w.s)] st=.ok (.p (.bl (isW w s A))) st:=by
 refine Pu.call2 (Pu.of2 ?_) st;have sw:=fun x2=>swp_lc (A:=A) (st:=[]) (σ:=[some (.p (webO s A)),some (.p (.str w.s)),x2,none,none]) 3 4 (!0) (by simp) (by simp)
 have l4:A.length≤1000000:=by omega
 have sp:=zEp hA ∅;have sq:=zRw hA hl;have o1:=zGL (zDd A) 64 (!0);have o2:=zGL (zDd (A.map swp)) 64 (!0);have nw:=zMP w;have spt:=zMd hA ∅;unfold webO at sw ⊢
 by_cases h9:109∈s.cps.toList
 ·cases w with
  |marked =>
   simp only[Wy.s]at nw;simp[zBH,zCs,Wy.s,nw,zNH,isW];rw[Vu];simp;omega
  |_ =>
   simp only[Wy.s]at nw;have h9':109∈s.cps:=by simpa using h9
   simp[zBH,zCs,Wy.s,nw,zHk,zSe,isW,h9']
 ·have h9':¬109∈s.cps:=by simpa using h9
  cases w with
  |marked =>
   simp only[Wy.s]at nw;simp[zBH,zCs,Wy.s,nw,zNH,isW];rw[Vu];simp;omega
  |two =>
   simp only[Wy.s]at nw sw;simp[zBH,zCs,Wy.s,nw,zHk,zSe,isW,h9',l4,sw,sq,sp,spt,zCi,o1,o2,symB]
  |_ =>
   simp only[Wy.s]at nw sw;simp[zBH,zCs,Wy.s,nw,zHk,zSe,isW,h9',l4,sw]
def tw(n:Nat):Int:=(2:Int)^n
def ex(S:Int) (n:Nat):Int:=if S%tw n=0 then 1 else 0
def row(x y z:Int) (n:Nat):Tr→P
 | .at _ a b c k=>.tup [.int ((wt a b c x y z-k)/tw n),.int (ex (wt a b c x y z-k) n),.int (wt a b c x y z/tw n),.int (ex (wt a b c x y z) n)]
 | .rest a b c d _=>.tup [.int (wt a b c x y z%d),.int (tw n%d)]
 |_=>.non
theorem l2:Nat.log2 2<9000:=by decide +kernel
def bl(m:Int):Nat:=if m=0 then 0 else m.natAbs.log2+1
def isN(a b:Int):P→Bool
 | .int i=>decide (a≤i)&&decide (i≤b)
 |_=>false
theorem zIa{x:P} (hx:datP 30 x=true) (st:List Cell):zAM zCB [.p x] st=.ok (.p (.bl (match x with | .int _=>true|_=>false))) st:=by
 refine Pu.call1 (Pu.of1 ?_) st;cases x<;>simp[zCB,zAQ,datP]at hx ⊢
theorem zIc{x:P} (hx:datP 30 x=true) (a b:Int) (st:List Cell):zAM zAf [.p x,.p (.int a),.p (.int b)] st=.ok (.p (.bl (isN a b x))) st:=by
 refine Pu.call3 (Pu.of3 ?_) st;have e:=fun st=>zIa hx st
 cases x with
 |int i=>by_cases h:a≤i<;>simp[zAf,zAQ,isN,h,e]
 |_=>simp[zAf,zAQ,isN,e]
def nz:P→Bool
 | .int i=>decide (i≠0)
 |_=>false
def zBf:FM:=runX 3 6 (sSeq (sIf (zBq (mTru (zAF zBS %[(mVar 1)|0]))) (zEj 17 "InvalidLetters") sNx)
  (sSeq (sPar 3 4 %[(zAH vLen %[(mVar 1)|0]),(zDB mNil)|0])
  (sSeq (sFor (zBO (mVar 3)) (.nm 5) (sSeq (zBo (mBm "list" zAs (mVar 4) %[(mTup %[(mVar 5),(mBin vMod (mBin vAdd (mVar 5) (mC (.int 1))) (mVar 3))|0])|0]))
  (sIf (mTru (mVar 2)) (zBo (mBm "list" zAs (mVar 4) %[(mTup %[(mBin vMod (mBin vAdd (mVar 5) (mC (.int 1))) (mVar 3)),(mVar 5)|0])|0])) sNx)))
  (sRet (zKu 0 3 4 zB7 %[(mVar 1),(mFrz (mVar 4))|0])))))
theorem zGj{s:Str} (h:LtS s) (b:Bool) (st:List Cell):zAM zBf [.p (.cls 3),.p (.str s),.p (.bl b)] st=.ok (.p (webO s (rgA s.length b s.length))) st:=by
 refine Pu.call3 (Pu.of3 ?_) st;have h':=h;obtain⟨h0,h1,h2⟩:=h';have l1:s.length≤1000000:=by omega
 have l2:(s.length:Int)≤1000000:=by omega
 have l3:(-1000000:Int)≤s.length:=by omega
 have hp:(0:Int)<s.length:=by omega
 have lg:=zAT (n:=(s.length:Int)) ∅ ∅;simp[zBf,zCs,zEc h,l1,l2,l3,-zAn];refine zAm (fun r=>Gv (zFC (r.then _)) _) (fun i σ st=>∃x5,σ=[some (.p (.cls 3)),some (.p (.str s)),some (.p (.bl b)),some (.p (.int s.length)),some (.r 0),x5]∧st=[.lst ((rgA s.length b i).map (W.p∘tupP))]) ⟨none,rfl,rfl⟩ ?_ ?_
 ·rintro i w σ st hw ⟨x5,rfl,rfl⟩;obtain⟨hi,rfl⟩:=zDl hw;have hl:=zGF s.length b i
  have e:((i:Int)+1)%(s.length:Int)=nxt s.length i:=by
   unfold nxt;show _=(((i+1)%s.length:Nat):Int);rw[bR];rfl
  rw[zF0];have l4:(rgA s.length b i).length<1000000:=by omega
  have l5:(rgA s.length b i).length+1<1000000:=by omega
  cases b<;>conv=>arg 3;simp[lg,hp,h0,e,l4,l5]
  ·exact⟨_,rfl,by simp[tupP]⟩
  ·exact⟨_,rfl,by simp[tupP]⟩
 ·rintro σ st ⟨x5,rfl,rfl⟩;have hl:=zGF s.length b s.length;rw[zCg];have W:Wb s (rgA s.length b s.length):=⟨h0,h2,zHw h0 b,zF4 h0 b⟩;have mk:=fun st=>zJA W h1 ∅ st
  simp[mk]
def zA3:FM:=runX 2 2 (sIf (zBq (mTru (zAF zAf %[(mVar 1),(mC (.int 0)),(mBin vSub (zAH vLen %[(mFld [(3,0)] (mVar 0))|0]) (mC (.int 1)))|0]))) (zEE 20 (mVar 1) "InvalidNode") sNx)
def zBh:FM:=runX 2 2 (sSeq (zBo (zDw 3 zA3 (mVar 0) %[(mVar 1)|0]))
  (sRet (zAH zGi %[(mBin vIx (mFld [(3,2)] (mVar 0)) (mVar 1))|0])))
theorem zD9{s:Str}{A:Arcs}{v:Int} (h0:0≤v) (h1:v<s.length) (hs:s.length≤1000) (st:List Cell):zAM zA3 [.p (webO s A),.p (.int v)] st=.ok (.p .non) st:=by
 refine Pu.call2 (Pu.of2 ?_) st;have e:=zDm v 0 (s.length-1);rw[JD (show 0≤v∧v≤(s.length:Int)-1 by omega)]at e
 simp[zA3,zCs,webO,e,show s.length≤1000000 by omega]
theorem zKv{s:Str}{A:Arcs}{v:Int} (h0:0≤v) (h1:v<s.length) (hs:s.length≤1000) (hA:A.length≤1000) (st:List Cell):zAM zBh [.p (webO s A),.p (.int v)] st=.ok (.p (.lst ((sortI (srcs A v)).map P.int))) st:=by
 refine Pu.call2 (Pu.of2 ?_) st;have e:=fun st=>zD9 (A:=A) h0 h1 hs st
 have cw:∀s A st,clsOf st (.p (webO s A))=some 3:=fun _ _ _=>rfl
 have hi:v.toNat<s.length:=by omega
 have ix:L2.atI ((List.range s.length).map fun(v:Nat)=>P.lst ((sortI (srcs A v)).map P.int)) v=some (.lst ((sortI (srcs A v)).map P.int)):=by
  rw[YZ.atI_nat h0,Jd,JZ hi];show some (P.lst ((sortI (srcs A (v.toNat:Int))).map P.int))=_;rw[Yw h0]
 have ls:(sortI (srcs A v)).length≤1000:=by
  rw[(sortI_perm _).length_eq];unfold srcs;rw[Jc];exact Vs (Ve _ _) hA
 simp[zBh,zCs,e,cw];unfold webO;simp[ix,show(sortI (srcs A v)).length≤1000000 by omega]
def okb(c:Nat):Bool:=c==97||c==98||c==99||c==109
def letB(s:Str):Bool:=decide (1≤s.length)&&decide (s.length≤30)&&s.cps.all okb
theorem LtS.of{s:Str} (h:letB s=true):LtS s:=by
 unfold letB at h;rw[Js,Js,Jz,Jz]at h;obtain⟨⟨h1,h2⟩,h3⟩:=h;refine⟨h1,h2,fun c hc=>?_⟩
 rw[Array.all_eq_true']at h3;have h4:=h3 c (by simpa using hc)
 unfold okb at h4;unfold okC;simp at h4;omega
abbrev AZ:=List ((Int×Int)×Int)
def kys(L:Arcs):List Key:=L.map fun q=>.inl q.1
def vls(L:Arcs):List W:=L.map fun q=>.p (.int q.2)
theorem zKg{L:Arcs}{u x:Int} (nd:(L.map Prod.fst).Nodup) (h:(u,x)∈L):dkGet (kys L) (vls L) (.inl u)=some (.p (.int x)):=by
 unfold kys vls dkGet
 induction L with
 |nil=>cases h
 |cons q L ih =>
  rw[Jl,JV]at nd;rw[Jl,Jl,JY,VT];rcases Jo.mp h with e|h
  ·subst e;simp
  ·have ne:q.1≠u:=fun e=>nd.1 (e▸Jj.mpr ⟨_,h,rfl⟩)
   have:decide ((Sum.inl q.1:Key)=.inl u)=false:=JM fun e=>ne (Sum.inl.inj e)
   simp only[this];exact ih nd.2 h
theorem zGB(L:Arcs) (v:Int):hasK (kys L) (.inl v)=decide (v∈L.map Prod.fst):=by
 have:kys L=(L.map Prod.fst).map Sum.inl:=by unfold kys;rw[Jm];rfl
 rw[this,zF2]
theorem zM8{L:Arcs}{v x:Int} (h:v∉L.map Prod.fst):zEA (kys L) (vls L) (.inl v) (.p (.int x))=(kys (L++[(v,x)]),vls (L++[(v,x)])):=by
 unfold zEA;rw[Vh (by rw[zGB];simpa using h)]
 unfold kys vls;simp
theorem kys_len(L:Arcs):(kys L).length=L.length:=by unfold kys;simp
theorem zGk(L:Arcs):pures (vls L)=some (L.map fun q=>P.int q.2):=by
 unfold vls;rw[show(L.map fun q=>W.p (.int q.2))=(L.map fun q=>P.int q.2).map W.p by rw[Jm];rfl]
 exact zBa _
def zCE:FM:=runF 2 6 (sSeq (sSet 2 (mBm "str" zFv (mC (.str "")) %[(mLc (mSrc (mVar 1)) (.nm 3) [3] mYes (mBin vIx (mBin vIx (mVar 0) (mC (.int 0))) (mVar 3)) finP)|0]))
  (sRet (mTup %[(mVar 2),(mLc (mSrc (mBin vIx (mVar 0) (mC (.int 1)))) (.tp [(.nm 4),(.nm 5)]) [4,5] mYes (mTup %[(mBm "list" zFn (mVar 1) %[(mVar 4)|0]),(mBm "list" zFn (mVar 1) %[(mVar 5)|0])|0]) finP)|0])))
def zBs:FM:=runF 1 1 (sRet (mFld [(3,0)] (mVar 0)))
theorem fi(v:Int):∀ {o:List Int},v∈o→o.findIdx? (· == v)=some (o.idxOf v)
 |x::l,h=>by
  rw[List.findIdx?_cons,List.idxOf_cons]
  by_cases e:x=v
  ·subst e;simp
  ·have hv:v∈l:=(Jo.mp h).resolve_left fun z=>e z.symm
   have e2:(x==v)=false:=by simpa using e
   rw[e2,fi v hv];simp
theorem zRW(l:List Nat) (h:l.length≤1000) (st:List Cell):zFv (.p (.str (Str.ofString ""))) [.p (.lst (l.map chP))] st=.ok (.p (.str (sOf l))) st:=by
 have sm:=zH2 l;rw[Jm]at sm;simp[zE6,sm,zEO,show l.length≤1000000 by omega]
structure Ord (n:Nat) (o:List Int):Prop where
 perm:o.Perm ((List.range n).map fun(i:Nat)=>(i:Int))
theorem Ord.len{n:Nat}{o:List Int} (h:Ord n o):o.length=n:=by rw[h.perm.length_eq];simp
theorem Ord.mem{n:Nat}{o:List Int} (h:Ord n o){v:Int}:v∈o↔0≤v∧v<n:=by
 rw[h.perm.mem_iff,Jj];constructor
 ·rintro⟨i,hi,rfl⟩
  have:=Jy.mp hi
  omega
 ·intro⟨h0,h1⟩;exact⟨v.toNat,Jy.mpr ∅,∅⟩
theorem Ord.nd{n:Nat}{o:List Int} (h:Ord n o):o.Nodup:=by
 refine h.perm.nodup_iff.mpr ?_
 rw[Vp,J4];exact V7 (fun{a b} (z:a<b) e=>by omega) YJ
theorem Ord.sort{n:Nat}{o:List Int} (h:Ord n o):sortI o=(List.range n).map fun(i:Nat)=>(i:Int):=by
 refine(zK1 h.perm.symm ?_).symm;rw[J4];exact V7 (fun{a b} (z:a<b)=>by omega) YJ
def ix(o:List Int) (v:Int):Nat:=o.idxOf v
theorem Ord.ix_lt{n:Nat}{o:List Int} (h:Ord n o){v:Int} (h0:0≤v) (h1:v<n):ix o v<n:=by
 have:=List.idxOf_lt_length_of_mem (h.mem.mpr ⟨h0,h1⟩)
 rw[h.len]at this;exact this
theorem zRP{o:List Int} (hn:o.Nodup){i:Nat}{v:Int} (h:o[i]?=some v):ix o v=i:=by
 obtain⟨hi,e⟩:=Jb.mp h;unfold ix;rw[←e];exact hn.idxOf_getElem i hi
def gt(s:Str) (v:Int):Nat:=s.cps.toList.getD v.toNat 0
def mv(o:List Int) (s:Str):Str:=sOf (o.map (gt s))
def mQ(o:List Int) (q:Int×Int):Int×Int:=((ix o q.1:Nat),(ix o q.2:Nat))
def mA(o:List Int) (A:Arcs):Arcs:=A.map (mQ o)
theorem zQ2{n:Nat}{o:List Int} (h:Ord n o) (s:Str):(mv o s).length=n:=by unfold mv;rw[zEf,Jc,h.len]
theorem zR9{A:Arcs} (f:Int→Int){a b:Int} (h:Rch A a b):Rch (A.map fun q=>(f q.1,f q.2)) (f a) (f b):=by
 induction h with
 |refl=>exact .refl
 |step _ m ih=>exact .step ih (Jj.mpr ⟨_,m,rfl⟩)
theorem Ord.wb{s:Str}{A:Arcs}{o:List Int} (hW:Wb s A) (h:Ord s.length o):Wb (mv o s) (mA o A):=by
 have hl:=zQ2 h s;refine⟨by rw[hl];exact hW.n0,fun c hc=>?_,fun q hq=>?_,?_⟩
 ·have hc:c∈o.map (gt s):=by simpa[mv,sOf]using hc
  obtain⟨v,hv,rfl⟩:=Jj.mp hc;obtain⟨h0,h1⟩:=h.mem.mp hv;have hv2:v.toNat<s.cps.toList.length:=by show v.toNat<s.length;omega
  refine hW.ch _ ?_
  unfold gt;rw[J0,Ja hv2];exact JL hv2
 ·obtain⟨p,hp,rfl⟩:=Jj.mp hq;obtain⟨a0,a1,b0,b1⟩:=hW.inn p hp
  have:=h.ix_lt a0 a1
  have:=h.ix_lt b0 b1
  rw[hl];unfold mQ;simp only;omega
 ·rw[hl];intro a b a0 a1 b0 b1;have ha:a.toNat<o.length:=by rw[h.len];omega
  have hb:b.toNat<o.length:=by rw[h.len];omega
  obtain⟨x0,x1⟩:=h.mem.mp (JL ha);obtain⟨y0,y1⟩:=h.mem.mp (JL hb);have r:=zR9 (fun v=>((ix o v:Nat):Int)) (hW.cn _ _ x0 x1 y0 y1)
  have e1:((ix o o[a.toNat]:Nat):Int)=a:=by rw[zRP h.nd (Ja ha)];omega
  have e2:((ix o o[b.toNat]:Nat):Int)=b:=by rw[zRP h.nd (Ja hb)];omega
  rw[e1,e2]at r;exact r
theorem zLM{o:List Int}{v:Int} (h:v∈o) (st:List Cell):zFn (.p (.lst (o.map P.int))) [.p (.int v)] st=.ok (.p (.int (ix o v:Nat))) st:=by
 unfold zFn;rw[show(listOf st (.p (.lst (o.map P.int)))).bind intsOf=some o by rw[zHf,bP,zDf]]
 simp only[fi v h];rfl
theorem zQF{s:Str}{A:Arcs}{o:List Int} (hA:InN s.length A) (hs:s.length≤30) (hl:A.length<100) (ho:Ord s.length o) (st:List Cell):zAM zCE [.p (wP s A),.p (.lst (o.map P.int))] st=.ok (.p (.tup [.str (mv o s),.lst ((mA o A).map tupP)])) st:=by
 refine Pu.call2 (Pu.of2 ?_) st;have ln:=ho.len;have l1:s.length≤1000000:=by omega
 have lets:∀a1 a2 a4 a5 st,lcL (.nm 3) mYes (mBin vIx (mBin vIx (mVar 0) (mC (.int 0))) (mVar 3)) [some (.p (wP s A)),a1,a2,none,a4,a5] (o.map (W.p∘P.int)) st=.ok (((o.map (gt s)).map chP).map W.p) st:=fun a1 a2 a4 a5 st=>by
  rw[zDA (fun v=>chP (gt s v)) fun v hv=>?_]
  ·simp only[Jm];rfl
  ·obtain⟨h0,h1⟩:=ho.mem.mp hv;have hv2:v.toNat<s.cps.toList.length:=by show v.toNat<s.length;omega
   have hx:L2.atI s.cps.toList v=some (gt s v):=by
    unfold gt;rw[YZ.atI_nat h0,J0,Ja hv2];rfl
   exact⟨_,zBl _ _,by simp[wP,l1,hx,chP]⟩
 have j1:=zRW (o.map (gt s)) (by rw[Jc];omega)
 rw[Jm]at j1
 have arcs:∀a0 a2 a3 st,lcL (.tp [.nm 4,.nm 5]) mYes (mTup %[(mBm "list" zFn (mVar 1) %[(mVar 4)|0]),(mBm "list" zFn (mVar 1) %[(mVar 5)|0])|0]) [a0,some (.p (.lst (o.map P.int))),a2,a3,none,none] (A.map (W.p∘tupP)) st=.ok (((mA o A).map tupP).map W.p) st:=fun a0 a2 a3 st=>by
  rw[zDA (fun q=>tupP (mQ o q)) fun q hq=>?_]
  ·simp only[mA,Jm];rfl
  ·obtain⟨x0,x1,y0,y1⟩:=hA q hq;have g1:=zLM (ho.mem.mpr ⟨x0,x1⟩);have g2:=zLM (ho.mem.mpr ⟨y0,y1⟩);refine⟨_,zSA _ _ _ _ _,?_⟩;have ty:∀(l:List P) st,tyW st (.p (.lst l))=some "list" := fun _ _=>rfl
   simp[g1,g2,tupP,mQ,ty]
 have lo2:o.length≤1000000:=by omega
 have lA:A.length≤1000000:=by omega
 unfold mv;unfold wP at lets ⊢;simp[zCE,zAQ,lo2,lA,lets,arcs,j1,-zS3]
def bk(n:Nat) (o:List Int):List Int:=(List.range n).map fun(i:Nat)=>((ix o (i:Int):Nat):Int)
theorem Ord.back{n:Nat}{o:List Int} (h:Ord n o):Ord n (bk n o):=by
 refine⟨?_⟩;have p:=(h.perm.map fun v=>((ix o v:Nat):Int)).symm
 rw[Jm]at p;refine p.trans (.of_eq ?_);refine Yk fun i=>?_
 rw[Jd,Jd]
 by_cases hi:i<n
 ·have hl:i<o.length:=by rw[h.len];exact hi
  rw[JZ hi,Ja hl];simp only[VF];rw[zRP h.nd (Ja hl)]
 ·rw[Jt (by rw[h.len];omega),Jt (by simp;omega)]
  rfl
theorem zMl(s:Str) (A:Arcs) (st:List Cell):clsOf st (.p (webO s A))=some 3:=rfl
inductive Pw (Z:AZ) (u:Int):Int→Int→Prop
 |nil:Pw Z u u 0
 |step {v w x z:Int}:Pw Z u v x→((v,w),z)∈Z→Pw Z u w (x+z)
theorem Pw.trans{Z:AZ}{u v w x y:Int} (h:Pw Z u v x) (k:Pw Z v w y):Pw Z u w (x+y):=by
 induction k with
 |nil=>rw[Int.add_zero];exact h
 |@step a b y z _ m ih =>
  rw[show x+(y+z)=(x+y)+z by omega]
  exact .step ih m
theorem Rch.pw{Z:AZ}{A:Arcs} (hA:A=Z.map Prod.fst){u v:Int} (h:Rch A u v):∃x,Pw Z u v x:=by
 induction h with
 |refl=>exact⟨0,.nil⟩
 |step _ m ih =>
  obtain⟨x,hx⟩:=ih;rw[hA]at m;obtain⟨⟨⟨a,b⟩,z⟩,hm,e⟩:=Jj.mp m;cases e;exact⟨_,.step hx hm⟩
def nd(k:Nat) (v i:Int):Int:=v*k+i
def Lp(k:Nat) (Z:AZ) (x:Int):Prop:=∃y,Pw Z 0 0 y∧(k:Int)∣x-y
theorem Lp.add{k:Nat}{Z:AZ}{x y:Int} (h:Lp k Z x) (h2:Lp k Z y):Lp k Z (x+y):=by
 obtain⟨a,ha,da⟩:=h;obtain⟨b,hb,db⟩:=h2;refine⟨a+b,ha.trans hb,?_⟩;rw[show x+y-(a+b)=(x-a)+(y-b) by omega]
 exact Int.dvd_add da db
theorem Lp.zero(k:Nat) (Z:AZ):Lp k Z 0:=⟨0,.nil,⟨0,by simp⟩⟩
abbrev Tri:=Int×Int×Int
theorem zLj{α:Type}{f:α→P} (h:∀a b,pEq (f a) (f b)=true↔a=b):∀l m:List α,pEqs (l.map f) (m.map f)=true↔l=m
 |[],[]=>by simp
 |[],_::_=>by simp
 |_::_,[]=>by simp
 |a::l,b::m=>by
  simp only[Jl,zIx,Js,h,zLj h l m,VH]
def gT(k:Nat) (x:Tri):Int×Int:=(nd k x.1 0,nd k x.2.1 x.2.2)
def hT(k:Nat) (q:Int×Int):Tri:=(q.1/k,q.2/k,q.2%k)
def ky(c:Nat):Key:=.inr ⟨#[c]⟩
def zA4:FM:=runF 1 1 (sRet (zAH vLen %[(mFld [(3,0)] (mVar 0))|0]))
theorem zFZ(s:Str) (A:Arcs) (hs:s.length≤1000000) (st:List Cell):zAM zA4 [.p (webO s A)] st=.ok (.p (.int s.length)) st:=Pu.call1 (Pu.of1 (by simp[zA4,zAQ,webO,hs])) st
def zC8:FM:=runF 2 3 (sRet (zAH vLen %[(mLc (mSrc (mBin vIx (mVar 0) (mC (.int 1)))) (.nm 2) [2] (mTst (mBin (vEqB false) (mBin vIx (mVar 2) (mC (.int 0))) (mVar 1))) (mVar 2) finP)|0]))
def zBA:FM:=runF 2 4 (sSeq (sSet 2 (mBin (vInB false) (mVar 1) (mLst %[(mC (.str "counted")),(mC (.str "marked"))|0])))
  (sRet (mLc (zBO (zAH vLen %[(mBin vIx (mVar 0) (mC (.int 0)))|0])) (.nm 3) [3] mYes (mTup %[(mBin vIx (mBin vIx (mVar 0) (mC (.int 0))) (mVar 3)),(mIfE (mTru (mVar 2)) (zAF zC8 %[(mVar 0),(mVar 3)|0]) (mC (.int 0)))|0]) finP)))
def zAu:FM:=runF 2 4 (sRet (zAH zBY %[(mLc (mSrc (mBin vIx (mVar 0) (mC (.int 1)))) (.tp [(.nm 2),(.nm 3)]) [2,3] (mTst (mBin (vEqB false) (mVar 3) (mVar 1))) (mVar 2) finP)|0]))
def zAg:FM:=runX 2 2 (sIf (zBq (mTru (zDw 3 zBH (mVar 0) %[(mVar 1)|0]))) (zEE 23 (mVar 1) "NotOfWay") sNx)
def zBE:FM:=runF 1 1 (sRet (mBin (vInB false) (mVar 0) (mTup %[(mC (.str "counted")),(mC (.str "marked"))|0])))
def zBk:FM:=runX 2 3 (sSeq (zBo (zDw 3 zA3 (mVar 0) %[(mVar 1)|0]))
  (sRet (zAH vLen %[(mLc (mSrc (mFld [(3,1)] (mVar 0))) (.nm 2) [2] (mTst (mBin (vEqB false) (mBin vIx (mVar 2) (mC (.int 0))) (mVar 1))) (mVar 2) finP)|0])))
def zDb:FM:=runX 3 3 (sSeq (zBo (zBm zAg %[(mVar 0),(mVar 1)|0]))
  (sSeq (zBo (zDw 3 zA3 (mVar 0) %[(mVar 2)|0]))
  (sRet (mTup %[(mBin vIx (zPh 3 zBs (mVar 0)) (mVar 2)),(mIfE (mTru (zAF zBE %[(mVar 1)|0])) (zDw 3 zBk (mVar 0) %[(mVar 2)|0]) (mC (.int 0)))|0]))))
def zBJ:FM:=runX 2 3 (sRet (mLc (zBO (zAH (zEz 3 zA4) %[(mVar 0)|0])) (.nm 2) [2] mYes (zBm zDb %[(mVar 0),(mVar 1),(mVar 2)|0]) finP))
def outs(A:Arcs) (v:Int):Nat:=(A.filter fun q=>decide (q.1=v)).length
theorem zNm(A:Arcs) (v:Int) (x0:Option W) (st:List Cell) :
  lcL (.nm 2) (mTst (mBin (vEqB false) (mBin vIx (mVar 2) (mC (.int 0))) (mVar 1))) (mVar 2) [x0,some (.p (.int v)),none] (A.map (W.p∘tupP)) st=.ok (((A.filter fun q=>decide (q.1=v)).map tupP).map W.p) st:=by
 refine zLc (fun q=>decide (q.1=v)) tupP fun q hq=>⟨_,zBl _ _,?_,fun _=>?_⟩
 ·simp[tupP];rfl
 ·simp[tupP]
theorem cw(s:Str) (A:Arcs) (st:List Cell):clsOf st (.p (webO s A))=some 3:=rfl
theorem zH9{s:Str}{A:Arcs}{v:Int} (h0:0≤v) (h1:v<s.length) (hs:s.length≤1000) (hl:A.length<100) (st:List Cell):zAM zBk [.p (webO s A),.p (.int v)] st=.ok (.p (.int (outs A v))) st:=by
 refine Pu.call2 (Pu.of2 ?_) st;have n:=fun st=>zD9 (A:=A) h0 h1 hs st
 have L:=zNm A v;have l4:A.length≤1000000:=by omega
 have l5:(A.filter fun q=>decide (q.1=v)).length≤1000000:=Vs (Ve _ _) l4
 unfold webO at n L ⊢;simp[zBk,zCs,n,l4,L,l5];rfl
def kn:Wy→Bool
 | .counted=>true
 | .marked=>true
 |_=>false
theorem zQI(w:Wy) (st:List Cell):zAM zBE [.p (.str w.s)] st=.ok (.p (.bl (kn w))) st:=by
 refine Pu.call1 (Pu.of1 ?_) st;cases w<;>simp[zBE,zAQ,Wy.s,kn]
def mk(w:Wy) (s:Str) (A:Arcs) (v:Nat):P:=.tup [match s.cps.toList[v]? with|some c=>.str ⟨#[c]⟩|none=>.non,.int (if kn w=true then outs A v else 0)]
theorem zCG{w:Wy}{s:Str}{A:Arcs} (hA:∀q∈A,zCC q) (hs:s.length≤1000) (hl:A.length<100) (h:isW w s A=true) (st:List Cell):zAM zAg [.p (webO s A),.p (.str w.s)] st=.ok (.p .non) st:=by
 refine Pu.call2 (Pu.of2 ?_) st;have e:=zPN w hA hs hl;rw[h]at e;simp[zAg,zCs,cw,e]
theorem zR1{w:Wy}{s:Str}{A:Arcs} (hA:∀q∈A,zCC q) (hs:s.length≤1000) (hl:A.length<100) (h:isW w s A=true){v:Nat} (hv:v<s.length) (st:List Cell):zAM zDb [.p (webO s A),.p (.str w.s),.p (.int v)] st=.ok (.p (mk w s A v)) st:=by
 refine Pu.call3 (Pu.of3 ?_) st;have e1:=zCG hA hs hl h;have e2:=fun st=>zD9 (s:=s) (A:=A) (v:=v) ∅ ∅ hs st
 have e3:=fun st=>zH9 (s:=s) (A:=A) (v:=v) ∅ ∅ hs hl st
 have hv2:v<s.cps.toList.length:=hv
 have hx:L2.atI s.cps.toList (v:Int)=some (s.cps.toList[v]'hv2):=by
  rw[YZ.atI_nat ∅,Vj,Ja hv2]
 have hl2:∀st,zAM zBs [.p (webO s A)] st=.ok (.p (.str s)) st:=fun st=>Pu.call1 (Pu.of1 (by simp[zBs,zAQ,webO])) st
 have kw:=zQI w;unfold mk;rw[Ja hv2];cases hk:kn w<;>rw[hk]at kw<;>simp[zDb,zCs,e1,e2,e3,cw,kw,hl2,hx,show s.length≤1000000 by omega]
theorem zQ6{w:Wy}{s:Str}{A:Arcs} (hA:∀q∈A,zCC q) (h:Wof w s A):isW w s A=true:=by
 cases w with
 |heard=>have h:109∉s.cps.toList:=h;simpa[isW]using h
 |counted=>have h:109∉s.cps.toList:=h;simpa[isW]using h
 |marked=>have h:s.cps.toList.count 109=1:=h;simpa[isW]using h
 |two =>
  obtain⟨h1,h2⟩:=h;have e:zDd (A.map swp)=zDd A:=zHr hA ((zHZ _).trans h2) (zFl _);have p:=zIi 64 _ (zGL (zDd A) 64 (!0));simp[isW,symB,e,p];simpa using h1
theorem zDi{w:Wy}{s:Str}{A:Arcs} (hA:∀q∈A,zCC q) (hs:s.length≤1000) (hl:A.length<100) (h:isW w s A=true) (st:List Cell):zAM zBJ [.p (webO s A),.p (.str w.s)] st=.ok (.p (.lst ((List.range s.length).map (mk w s A)))) st:=by
 refine Pu.call2 (Pu.of2 ?_) st;have wl:=fun st=>zFZ s A ∅ st
 have L:=zDA (f:=fun(v:Nat)=>W.p (.int (v:Int))) (l:=List.range s.length) (t:=.nm 2) (e:=zBm zDb %[(mVar 0),(mVar 1),(mVar 2)|0]) (σ0:=[some (.p (webO s A)),some (.p (.str w.s)),none]) (st:=[]) (fun v=>mk w s A v) fun v hv=>by
  refine⟨_,zBl _ _,?_⟩;have hv:=Jy.mp hv;simp[zR1 hA hs hl h hv]
 rw[←zJP]at L;simp[zBJ,zCs,cw,wl,show s.length≤1000000 by omega,show(s.length:Int)≤1000000 by omega,show(-1000000:Int)≤s.length by omega,L]
theorem zDI{s:Str}{A:Arcs} (hA:∀q∈A,zCC q) (hl:A.length≤1000) (v:Int) (st:List Cell):zAM zAu [.p (wP s A),.p (.int v)] st=.ok (.p (.lst ((sortI (srcs A v)).map P.int))) st:=by
 refine Pu.call2 (Pu.of2 ?_) st
 have L:=zLc (f:=W.p∘tupP) (l:=A) (t:=.tp [(.nm 2),(.nm 3)]) (c:=mTst (mBin (vEqB false) (mVar 3) (mVar 1))) (e:=mVar 2) (σ0:=[some (.p (wP s A)),some (.p (.int v)),none,none]) (st:=[]) (fun q=>decide (q.2=v)) (fun q=>P.int q.1) fun q hq=>by
  obtain⟨a,b⟩:=q;refine⟨[some (.p (wP s A)),some (.p (.int v)),some (.p (.int a)),some (.p (.int b))],?_,?_,fun _=>?_⟩
  ·simp[tupP]
  ·simp;rfl
  ·simp
 have e:(A.filter fun q=>decide (q.2=v)).map (fun q=>P.int q.1)=(srcs A v).map P.int:=by unfold srcs;rw[Jm];rfl
 rw[e]at L
 have ll:(srcs A v).length≤1000:=by
  unfold srcs;rw[Jc];exact Vs (Ve _ _) hl
 have w1:∀st,vIx (.p (wP s A)) (.p (.int 1)) st=.ok (.p (.lst (A.map tupP))) st:=fun st=>by simp[wP]
 simp[zAu,zAQ,w1,show A.length≤1000000 by omega,L,show(srcs A v).length≤1000000 by omega,zGs]
section
open Y YZ NS
def mkP(q:Nat×Int):P:=.tup [chP q.1,.int q.2]
theorem mkP_nk(q:Nat×Int):nkT (mkP q)=some (nkOf (mkP q)):=by
 simp[nkOf,nkT,mkP,chP,nkP,nkPs,NestedKey.depth,NestedKey.depthAll]
def nxP(q:Int×List Int):P:=.tup [.int q.1,.tup (q.2.map P.int)]
theorem zGG:∀l:List Int,nkPs (l.map P.int)=some (l.map NestedKey.num)
 |[]=>by rw[VS,nkPs];rfl
 |x::l=>by rw[Jl,nkPs,nkP,zGG l];rfl
theorem zFb:∀l:List Int,NestedKey.depthAll (l.map NestedKey.num)=0
 |[]=>by rw[VS,NestedKey.depthAll]
 |x::l=>by rw[Jl,NestedKey.depthAll,NestedKey.depth,zFb l];rfl
theorem nxP_nk(q:Int×List Int):nkT (nxP q)=some (nkOf (nxP q)):=by
 simp[nkOf,nkT,nxP,nkP,nkPs,zGG,NestedKey.depth,NestedKey.depthAll,zFb]
def zDq:FM:=runF 2 5 (sSeq (sSet 2 (zDB mNil))
  (sSeq (sFor (zBO (zAH vLen %[(mBin vIx (mVar 0) (mC (.int 0)))|0])) (.nm 3) (zBo (mBm "list" zAs (mVar 2) %[(mTup %[(mBin vIx (mVar 1) (mVar 3)),(zAH zDW %[(zAH zBY %[(mLc (mSrc (zAF zAu %[(mVar 0),(mVar 3)|0])) (.nm 4) [4] mYes (mBin vIx (mVar 1) (mVar 4)) finP)|0])|0])|0])|0])))
  (sRet (zAF zBg %[(mVar 2)|0]))))
def zCK:FM:=runF 2 4 (sSeq (sSet 2 (zDB %[(zAF zBg %[(zAF zBA %[(mVar 0),(mVar 1)|0])|0])|0]))
  (sSeq (zD8 1000 (mTst (mBin vLe (zAH vLen %[(mVar 2)|0]) (zAH vLen %[(mBin vIx (mVar 0) (mC (.int 0)))|0]))) (sSeq (sSet 3 (zAF zDq %[(mVar 0),(mBin vIx (mVar 2) (mNeg (mC (.int 1))))|0]))
  (sSeq (sIf (mTst (mBin (vEqB false) (zAH zG7 %[(mVar 3)|0]) (zAH zG7 %[(mBin vIx (mVar 2) (mNeg (mC (.int 1))))|0]))) sBrk sNx)
  (zBo (mBm "list" zAs (mVar 2) %[(mVar 3)|0])))))
  (sRet (mFrz (mVar 2)))))
theorem mkP_d(q:Nat×Int):toD (mkP q)=some (.tuple [.str ⟨#[q.1]⟩,.int q.2]):=by simp[mkP,chP,toD,toDs]
theorem mk_kys{l:List (Nat×Int)} (hc:∀q∈l,okC q.1) (hl:l.length<64):Kys (l.map mkP) where
 ok:=fun x hx=>by
  obtain⟨q,_,rfl⟩:=Jj.mp hx;exact mkP_nk q
 few:=by rw[Jc];exact hl
 srt:=zLV mkP_d (fun a b=>by simp[PySem.W.alike,PySem.W.alikeAll]) (fun a=>rfl) (fun a=>by simp[PyData.depth,PyData.depthAll]) l
 lay:=fun x hx=>by
  obtain⟨q,hq,rfl⟩:=Jj.mp hx;have e:(nkOf (mkP q)).data=.tuple [.str ⟨#[q.1]⟩,.int q.2]:=by simp[nkOf,nkT,mkP,chP,nkP,nkPs,NestedKey.depth,NestedKey.depthAll,NestedKey.data,NestedKey.datas]
  rw[e]
  have:=hc q hq
  simp only[PyData.canLay0,PyData.canLayAll0,Bool.and_true];rcases this with h|h|h|h<;>rw[h]<;>simp[PyData.strOk]
theorem zNq:∀l:List Int,toDs (l.map P.int)=some (l.map PyData.int):=fun l=>zIN (fun a=>by simp[toD]) l
def nxD(q:Int×List Int):PyData:=.tuple [.int q.1,.tuple (q.2.map .int)]
theorem nxP_d(q:Int×List Int):toD (nxP q)=some (nxD q):=by
 simp[nxP,nxD,toD,toDs,zNq]
theorem zHh:∀l:List Int,NestedKey.datas (l.map NestedKey.num)=l.map PyData.int
 |[]=>by rw[VS,NestedKey.datas];rfl
 |x::l=>by rw[Jl,NestedKey.datas,NestedKey.data,zHh l];rfl
theorem zF9:∀l:List Int,PyData.canLayAll0 (l.map PyData.int)=true
 |[]=>rfl
 |x::l=>by rw[Jl,PyData.canLayAll0,PyData.canLay0,zF9 l];rfl
theorem zQs{l:List (Int×List Int)} (hl:l.length<64):Kys (l.map nxP) where
 ok:=fun x hx=>by
  obtain⟨q,_,rfl⟩:=Jj.mp hx;exact nxP_nk q
 few:=by rw[Jc];exact hl
 srt:=zLV nxP_d (fun a b=>by simp[nxD,PySem.W.alike,PySem.W.alikeAll,PySem.W.alike_ints]) (fun a=>rfl) (fun a=>by simp[nxD,PyData.depth,PyData.depthAll,PySem.W.depth_ints]) l
 lay:=fun x hx=>by
  obtain⟨q,hq,rfl⟩:=Jj.mp hx;have e:(nkOf (nxP q)).data=nxD q:=by simp[nkOf,nkT,nxP,nxD,nkP,nkPs,zGG,NestedKey.depth,NestedKey.depthAll,zFb,NestedKey.data,NestedKey.datas,zHh]
  rw[e];simp[nxD,PyData.canLay0,PyData.canLayAll0,zF9]
structure Nums (n m:Nat) (N:List Int):Prop where
 len:N.length=n
 bd:∀x∈N,0≤x∧x<m
 all:∀j:Nat,j<m→(j:Int)∈N
theorem zN4{l:List P} (h:Kys l):Nums l.length (ord l).length (l.map fun x=>((pos l x:Nat):Int)) where
 len:=by rw[Jc]
 bd:=fun x hx=>by
  obtain⟨y,hy,rfl⟩:=Jj.mp hx
  have:=zKo hy
  omega
 all:=fun j hj=>by
  obtain⟨x,hx,e⟩:=pos_of h hj;exact Jj.mpr ⟨x,hx,by rw[e]⟩
theorem Nums.pos{n m:Nat}{N:List Int} (h:Nums n m N) (hn:0<n):0<m:=by
 obtain⟨x,hx⟩:∃x,x∈N:=by
  cases N with
  |nil=>have:=h.len;simp at this;omega
  |cons a N=>exact⟨a,Jg⟩
 have:=h.bd x hx
 omega
theorem zOX:∀ {N:List Int}{m:Int},(∀x∈N,x≤m)→m∈N→maxI N=m
 |[],m,_,h=>by cases h
 |[a],m,_,h=>by rw[JS.mp h];rfl
 |a::b::N,m,hb,h=>by
  have ha:=hb a Jg;show max a (maxI (b::N))=m;rcases Jo.mp h with e|h
  ·have:∀ {N:List Int},N≠[]→(∀x∈N,x≤m)→maxI N≤m:=by
    intro N
    induction N with
    |nil=>intro h;exact absurd rfl h
    |cons c N ih =>
     intro _ hN;cases N with
     |nil=>exact hN c Jg
     |cons d N =>
      show max c (maxI (d::N))≤m
      have:=ih (by simp) fun x hx=>hN x (Jf _ hx)
      have:=hN c Jg
      omega
   have:=this (N:=b::N) (by simp) fun x hx=>hb x (Jf _ hx)
   omega
  ·rw[zOX (fun x hx=>hb x (Jf _ hx)) h]
   omega
theorem Nums.max{n m:Nat}{N:List Int} (h:Nums n m N) (hn:0<n):maxI N=(m:Int)-1:=by
 have hm:=h.pos hn;refine zOX (fun x hx=>by have:=h.bd x hx;omega) ?_
 have:=h.all (m-1) ∅
 rwa [show((m-1:Nat):Int)=(m:Int)-1 by omega]at this
theorem zKd{l:List P} (h:Kys l) (i:Nat) (st:List Cell) (hi:st[i]?=some (.lst (l.map W.p))):zAM zBg [.r i] st=.ok (.p (.lst ((l.map fun x=>((pos l x:Nat):Int)).map P.int))) st:=by
 refine Gc.call rfl rfl (ws':=[.r 0]) ?_ ?_ hi
 ·have v:=zJh (st:=[.lst (l.map W.p)]) (w:=.r 0) (l:=l) (by simp) h.set h.srt
  have lim:l.length≤1000000:=by have:=h.few;omega
  have vo:srtD (ddK l)=ord l:=rfl;rw[vo]at v
  have L:=zOY (f:=W.p) (l:=l) (t:=.nm 2) (vs:=[2]) (c:=mYes) (e:=mBm "list" zEq (mVar 1) %[(mVar 2)|0]) (fin:=finP) (j:=0) (m:=l.length) (σ:=[some (.r 0),some (.p (.lst (ord l))),none]) (st:=[.lst (l.map W.p)]) (fun _=>true) (fun x=>P.int (pos l x:Nat)) rfl rfl lim fun x hx=>by
   refine⟨_,zBl _ _,rfl,fun _=>?_⟩
   have ix:=zK9 h hx (w:=.p (.lst (ord l))) (st:=[.lst (l.map W.p)]) rfl;have tw:tyW [.lst (l.map W.p)] (W.p (P.lst (ord l)))=some "list" := rfl;simp[ix,tw]
  have e:(l.filter fun _=>true).map (fun x=>P.int (pos l x:Nat))=(l.map fun x=>((pos l x:Nat):Int)).map P.int:=by
   rw[List.filter_eq_self.mpr (fun _ _=>rfl),Jm];rfl
  rw[e]at L;simp[zBg,zAQ,v,lim,L]
 ·show(pures (l.map W.p)).isSome=true;rw[zBa];rfl
def at0(N:List Int) (v:Int):Int:=(N[v.toNat]?).getD 0
def nxt1(A:Arcs) (N:List Int) (v:Nat):Int×List Int:=(at0 N v,sortI ((sortI (srcs A v)).map (at0 N)))
theorem zLu{n m:Nat}{N:List Int} (h:Nums n m N){v:Int} (v0:0≤v) (v1:v<n):L2.atI (N.map P.int) v=some (.int (at0 N v)):=by
 have hl:=h.len;rw[YZ.atI_nat v0,Jd];obtain⟨x,hx⟩:∃x,N[v.toNat]?=some x:=⟨_,Ja ∅⟩;unfold at0;rw[hx];rfl
theorem zGv{n:Nat}{A:Arcs} (hA:InN n A) (v:Int):∀x∈srcs A v,0≤x∧x<n:=fun x hx=>by
 obtain⟨q,hq,rfl⟩:=Jj.mp hx;obtain⟨a,b,_,_⟩:=hA q (Yi.mp hq).1;exact⟨a,b⟩
theorem zST{w:Wy}{s:Str}{A:Arcs}:(List.range s.length).map (mk w s A)=((List.range s.length).map fun(v:Nat)=>((s.cps.toList[v]?).getD 0,(if kn w=true then(outs A v:Int)else 0))).map mkP:=by
 rw[Jm];refine Vw fun v hv=>?_
 have hv:v<s.cps.toList.length:=Jy.mp hv;have hx:=Ja hv;show mk w s A v=mkP ((s.cps.toList[v]?).getD 0,_);unfold mk mkP;simp only[hx,Option.getD_some];rfl
theorem atI_last{α:Type} (l:List α) (x:α):L2.atI (l++[x]) (-1)=some x:=by
 unfold L2.atI L2.ixN;have e:(-1+((l.length:Int)+1)).toNat=l.length:=by omega
 simp[e,show(1:Int)≤(l.length:Int)+1 by omega]
end
section
open Y YZ NS
def mkQ(w:Wy) (s:Str) (A:Arcs) (v:Nat):Nat×Int:=((s.cps.toList[v]?).getD 0,(if kn w=true then(outs A v:Int)else 0))
theorem zQK{w:Wy}{s:Str}{A:Arcs}{v:Nat} (hv:v<s.length):mk w s A v=mkP (mkQ w s A v):=by
 have hx:=Ja (show v<s.cps.toList.length from hv)
 unfold mk mkP mkQ;simp only[hx,Option.getD_some];rfl
theorem Nums.lt_n{n m:Nat}{N:List Int} (h:Nums n m N):m≤n:=by
 have:=zA6 ((List.range m).map fun(j:Nat)=>(j:Int)) N ?_ ?_
 ·rw[Jc,JN,h.len]at this;exact this
 ·unfold List.Nodup;rw[J4];exact VJ (fun ha hb hne e=>hne ∅) (Yd (n:=m))
 ·intro x hx;obtain⟨j,hj,rfl⟩:=Jj.mp hx;exact h.all j (Jy.mp hj)
theorem zQv{F:FM}{x y z u r:P} (h:Gv (F [.p x,.p y,.p z,.p u] []) r):Pu F [x,y,z,u] r:=h
end
def vals:List P:=[.int (-9),.int 9,.int (-10),.int 10,.non,.bl true,.int 5,T3 0 0 0,T3 3 (-3) 0,T3 4 0 0,.tup [.int 1,.int 0],.lst [.int 1,.int 0,.int 0],.tup [.int 1,.int 0,.bl true],.int 1,.int 6]
section
open Y YZ NS
def zDU:FM:=runF 3 6 (sSeq (sIf (mOrT (mTst (mBin vGt (zAH vLen %[(mBin vIx (mVar 1) (mC (.int 0)))|0]) (mC (.int 6)))) (mTst (mBin (vEqB false) (zAF zAG %[(mVar 0),(mC (.int 3))|0]) (mC (.int 0))))) (sRet (zAF zCE %[(mVar 1),(zAF zAh %[(mVar 0),(zCe (zAH vLen %[(mBin vIx (mVar 1) (mC (.int 0)))|0]))|0])|0])) sNx)
  (sSeq (sIf (zEX (mTst (mBin (vEqB false) (zAF zAG %[(mVar 0),(mC (.int 2))|0]) (mC (.int 0)))) (mTst (mBin (vInB false) (mVar 2) (mLst %[(mC (.str "heard")),(mC (.str "counted"))|0])))) (sSeq (sSet 4 (zAF zA8 %[(mVar 1),(mLc (mSrc (mBin vIx (mVar 1) (mC (.int 1)))) (.nm 5) [5] mYes (zAF zAG %[(mVar 0),(mC (.int 2))|0]) finP),(mC (.int 2))|0]))
  (sRet (mIfE (mTru (zAF zAp %[(zAH vLen %[(mBin vIx (mVar 4) (mC (.int 0)))|0]),(mBin vIx (mVar 4) (mC (.int 1)))|0])) (mVar 4) (mVar 1)))) sNx)
  (sSeq (sIf (mTst (mBin (vEqB false) (zAF zAG %[(mVar 0),(mC (.int 2))|0]) (mC (.int 0)))) (sRet (zAF zBX %[(mVar 0),(mVar 2)|0])) sNx)
  (sSeq (sSet 3 (mTup %[(zAF zAG %[(mVar 0),(zAH vLen %[(mBin vIx (mVar 1) (mC (.int 0)))|0])|0]),(zAF zAG %[(mVar 0),(zAH vLen %[(mBin vIx (mVar 1) (mC (.int 0)))|0])|0])|0]))
  (sRet (mTup %[(mBin vIx (mVar 1) (mC (.int 0))),(mBin vAdd (mBin vIx (mVar 1) (mC (.int 1))) (mLst %[(mVar 3),(mTup %[(mBin vIx (mVar 3) (mC (.int 1))),(mBin vIx (mVar 3) (mC (.int 0)))|0])|0]))|0]))))))
def kinL:SMm:=(sSeq (sSet 4 (zAF zA8 %[(mVar 1),(mLc (mSrc (mBin vIx (mVar 1) (mC (.int 1)))) (.nm 5) [5] mYes (zAF zAG %[(mVar 0),(mC (.int 2))|0]) finP),(mC (.int 2))|0]))
  (sRet (mIfE (mTru (zAF zAp %[(zAH vLen %[(mBin vIx (mVar 4) (mC (.int 0)))|0]),(mBin vIx (mVar 4) (mC (.int 1)))|0])) (mVar 4) (mVar 1))))
def kinT:SMm:=(sSeq (sIf (mTst (mBin (vEqB false) (zAF zAG %[(mVar 0),(mC (.int 2))|0]) (mC (.int 0)))) (sRet (zAF zBX %[(mVar 0),(mVar 2)|0])) sNx)
  (sSeq (sSet 3 (mTup %[(zAF zAG %[(mVar 0),(zAH vLen %[(mBin vIx (mVar 1) (mC (.int 0)))|0])|0]),(zAF zAG %[(mVar 0),(zAH vLen %[(mBin vIx (mVar 1) (mC (.int 0)))|0])|0])|0]))
  (sRet (mTup %[(mBin vIx (mVar 1) (mC (.int 0))),(mBin vAdd (mBin vIx (mVar 1) (mC (.int 1))) (mLst %[(mVar 3),(mTup %[(mBin vIx (mVar 3) (mC (.int 1))),(mBin vIx (mVar 3) (mC (.int 0)))|0])|0]))|0]))))
theorem zIo:zDU=runF 3 6 (sSeq (sIf (mOrT (mTst (mBin vGt (zAH vLen %[(mBin vIx (mVar 1) (mC (.int 0)))|0]) (mC (.int 6)))) (mTst (mBin (vEqB false) (zAF zAG %[(mVar 0),(mC (.int 3))|0]) (mC (.int 0))))) (sRet (zAF zCE %[(mVar 1),(zAF zAh %[(mVar 0),(zCe (zAH vLen %[(mBin vIx (mVar 1) (mC (.int 0)))|0]))|0])|0])) sNx)
  (sSeq (sIf (zEX (mTst (mBin (vEqB false) (zAF zAG %[(mVar 0),(mC (.int 2))|0]) (mC (.int 0)))) (mTst (mBin (vInB false) (mVar 2) (mLst %[(mC (.str "heard")),(mC (.str "counted"))|0])))) kinL sNx)
  kinT)):=rfl
theorem zJV{s:Str}{A:Arcs} (hl:A.length≤1000) (v:Int) (st:List Cell):zAM zC8 [.p (wP s A),.p (.int v)] st=.ok (.p (.int (outs A v))) st:=by
 refine Pu.call2 (Pu.of2 ?_) st;have L:=zNm A v;have l4:A.length≤1000000:=by omega
 have l5:(A.filter fun q=>decide (q.1=v)).length≤1000000:=Vs (Ve _ _) l4
 simp[zC8,zAQ,wP,l4,L,l5];rfl
theorem zGZ{w:Wy}{s:Str}{A:Arcs} (hs:s.length≤1000) (hl:A.length≤1000) (st:List Cell):zAM zBA [.p (wP s A),.p (.str w.s)] st=.ok (.p (.lst ((List.range s.length).map (mk w s A)))) st:=by
 refine Pu.call2 (Pu.of2 ?_) st;have lo:=fun v st=>zJV (s:=s) hl v st
 have l1:s.length≤1000000:=by omega
 have l2:(s.length:Int)≤1000000:=by omega
 have l3:(-1000000:Int)≤s.length:=by omega
 have kv:vInB false (.p (.str w.s)) (.p (.lst [.str (Str.ofString "counted"),.str (Str.ofString "marked")])) []=.ok (.p (.bl (kn w))) []:=by
  cases w<;>simp[Wy.s,kn]
 have L:∀x2,lcL (.nm 3) mYes (mTup %[(mBin vIx (mBin vIx (mVar 0) (mC (.int 0))) (mVar 3)),(mIfE (mTru (mVar 2)) (zAF zC8 %[(mVar 0),(mVar 3)|0]) (mC (.int 0)))|0]) [some (.p (wP s A)),some (.p (.str w.s)),some (.p (.bl (kn w))),x2] (rngL 0 s.length) []
   = .ok (((List.range s.length).map (mk w s A)).map W.p) []:=by
  intro x2;rw[zJP,zDA (fun(v:Nat)=>mk w s A v)]
  intro v hv;have hv2:v<s.cps.toList.length:=Jy.mp hv
  have hx:L2.atI s.cps.toList (v:Int)=some (s.cps.toList[v]'hv2):=by
   rw[YZ.atI_nat ∅,Vj,Ja hv2]
  refine⟨_,zBl _ _,?_⟩;unfold mk;rw[Ja hv2];have lo:=lo v;unfold wP at lo ⊢;cases kn w<;>simp[lo,l1,hx]
 unfold wP at L ⊢;simp[zBA,zAQ,kv,l1,l2,l3,L]
theorem wp0(s:Str) (A:Arcs) (st:List Cell):vIx (.p (wP s A)) (.p (.int 0)) st=.ok (.p (.str s)) st:=by simp[wP]
theorem wp1(s:Str) (A:Arcs) (st:List Cell):vIx (.p (wP s A)) (.p (.int 1)) st=.ok (.p (.lst (A.map tupP))) st:=by simp[wP]
theorem ord_bg{n:Nat} (hn:n<1000){c:Cell} (hc:GB c):∃c' o,GB c'∧Ord n o∧zAM zAh [.r 0,.p (.lst ((List.range n).map fun(i:Nat)=>P.int (i:Int)))] [c]=.ok (.p (.lst (o.map P.int))) [c']:=by
 obtain⟨_,c3,e3,hc3,m,rfl,hp⟩:=(zIL (l:=(List.range n).map fun(i:Nat)=>P.int (i:Int)) (by rw[Jc,JN];omega)).call1 hc []
 obtain⟨o,rfl,ho⟩:∃o:List Int,m=o.map P.int∧Ord n o:=by
  rw[show((List.range n).map fun(i:Nat)=>P.int (i:Int))=((List.range n).map fun(i:Nat)=>(i:Int)).map P.int by rw[Jm];rfl]at hp
  obtain⟨o,h1,h2⟩:=zH7 hp rfl;exact⟨o,h1,⟨h2⟩⟩
 exact⟨c3,o,hc3,ho,e3⟩
theorem Wb.more{s:Str}{A:Arcs} (hW:Wb s A){B:Arcs} (hB:InN s.length B):Wb s (A++B) :=
 ⟨hW.n0,hW.ch,fun q hq=>(JI.mp hq).elim (hW.inn q) (hB q),hW.cn.mono fun q hq=>Vr _ hq⟩
end
section
open Y YZ NS
def rk(l:List P):List Int:=l.map fun x=>((pos l x:Nat):Int)
def nxK(n:Nat) (A:Arcs) (N:List Int):List P:=((List.range n).map (nxt1 A N)).map nxP
def nxtN(n:Nat) (A:Arcs) (N:List Int):List Int:=rk (nxK n A N)
def rnd(w:Wy) (s:Str) (A:Arcs):Nat→List Int
 |0=>rk ((List.range s.length).map (mk w s A))
 |k+1=>nxtN s.length A (rnd w s A k)
def mny(w:Wy) (s:Str) (A:Arcs):Nat→Nat
 |0=>(ord ((List.range s.length).map (mk w s A))).length
 |k+1=>(ord (nxK s.length A (rnd w s A k))).length
theorem zM5{n:Nat} (hn:n<64) (A:Arcs) (N:List Int):Kys (nxK n A N):=zQs (by rw[Jc,JN];exact hn)
theorem zSs(n:Nat) (A:Arcs) (N:List Int):(nxK n A N).length=n:=by unfold nxK;rw[Jc,Jc,JN]
theorem zPn{n:Nat} (hn:n<64) (A:Arcs) (N:List Int):Nums n (ord (nxK n A N)).length (nxtN n A N):=by
 have h:=zN4 (zM5 hn A N);rw[zSs]at h;exact h
theorem rk_at{l:List P}{i:Nat}{x:P} (h:l[i]?=some x):(rk l)[i]?=some ((pos l x:Nat):Int):=by
 unfold rk;rw[Jd,h];rfl
theorem zK5{n:Nat}{A:Arcs}{N:List Int}{i:Nat} (h:i<n):(nxK n A N)[i]?=some (nxP (nxt1 A N i)):=by
 unfold nxK;rw[Jd,Jd,JZ h];rfl
theorem zSn{n:Nat} (hn:n<64){A:Arcs}{N:List Int}{i j:Nat} (hi:i<n) (hj:j<n) (e:(nxtN n A N)[i]?=(nxtN n A N)[j]?):nxt1 A N i=nxt1 A N j:=by
 have k:=zM5 hn A N;have e1:=rk_at (zK5 (A:=A) (N:=N) hi);have e2:=rk_at (zK5 (A:=A) (N:=N) hj);unfold nxtN at e;rw[e1,e2]at e
 have e3:pos (nxK n A N) (nxP (nxt1 A N i))=pos (nxK n A N) (nxP (nxt1 A N j)):=by
  have:=Jk e
  omega
 have e4:=zSY k (Ji (zK5 hi)) (Ji (zK5 hj)) e3;unfold nxP at e4;injection e4 with e4
 injection e4 with a b
 injection a with a
 injection b with b _
 injection b with b
 have inj:∀ {x y:List Int},x.map P.int=y.map P.int→x=y:=fun{x y} h=>(List.map_inj_right fun a b h=>by injection h).mp h
 exact Prod.ext a (inj b)
theorem zGg{n m:Nat}{N:List Int} (h:Nums n m N){i:Nat} (hi:i<n):N[i]?=some (at0 N (i:Int)):=by
 have hl:=h.len;unfold at0;rw[Vj,Ja ∅];rfl
theorem zKL{s:Str}{A:Arcs}{m:Nat}{N:List Int} (hA:InN s.length A) (hs:s.length<64) (hl:A.length≤1000) (h:Nums s.length m N):∀st,zAM zDq [.p (wP s A),.p (.lst (N.map P.int))] st=.ok (.p (.lst ((nxtN s.length A N).map P.int))) st:=by
 have sml:=hA.small ∅;have kys:=zQs (l:=(List.range s.length).map (nxt1 A N)) (by rw[Jc,JN];exact hs)
 unfold nxtN rk nxK;refine fun st=>Pu.call2 (Pu.of2 ?_) st
 ·have lr:=fun st=>zFk kys st
  have lh:=fun v st=>zDI (s:=s) sml hl v st
  have wp0:∀st,vIx (.p (wP s A)) (.p (.int 0)) st=.ok (.p (.str s)) st:=fun st=>by simp[wP]
  simp[zDq,zAQ,wp0,show s.length≤1000000 by omega,show(s.length:Int)≤1000000 by omega,show(-1000000:Int)≤s.length by omega,-zAn,-zDL]
  refine zAm (fun r=>Gv (runR (r.then _)) _) (fun i σ st=>∃x3,σ=[some (.p (wP s A)),some (.p (.lst (N.map P.int))),some (.r 0),x3,none]∧st=[.lst ((List.range i).map ((W.p∘nxP)∘nxt1 A N))]) ⟨none,rfl,by simp⟩ ?_ ?_
  ·rintro i w σ st hw ⟨x3,rfl,rfl⟩;obtain⟨hi,rfl⟩:=zDl hw;have hin:∀x∈sortI (srcs A i),0≤x∧x<s.length:=fun x hx=>zGv hA _ x ((sortI_perm _).mem_iff.mp hx)
   have L:=zDA (f:=W.p∘P.int) (l:=sortI (srcs A i)) (t:=.nm 4) (e:=mBin vIx (mVar 1) (mVar 4)) (σ0:=[some (.p (wP s A)),some (.p (.lst (N.map P.int))),some (.r 0),some (.p (.int i)),none]) (st:=[.lst ((List.range i).map ((W.p∘nxP)∘nxt1 A N))]) (fun x=>P.int (at0 N x)) fun x hx=>by
    obtain⟨x0,x1⟩:=hin x hx;refine⟨_,zBl _ _,?_⟩;simp[zLu h x0 x1]
   have e1:(sortI (srcs A i)).map (fun x=>P.int (at0 N x))=((sortI (srcs A i)).map (at0 N)).map P.int:=by rw[Jm];rfl
   rw[e1]at L;have ai:=zLu h (v:=(i:Int)) ∅ ∅
   have sl:(sortI (srcs A i)).length≤1000:=by
    rw[(sortI_perm _).length_eq];unfold srcs;rw[Jc];exact Vs (Ve _ _) hl
   have si:=zGs ((sortI (srcs A i)).map (at0 N));have l5:(sortI ((sortI (srcs A i)).map (at0 N))).length≤1000000:=by rw[(sortI_perm _).length_eq,Jc];omega
   have nx:nxt1 A N i=(at0 N i,sortI ((sortI (srcs A i)).map (at0 N))):=rfl;generalize (sortI (srcs A i)).map (at0 N)=M at *
   conv=>arg 3;simp[lh,show(sortI (srcs A i)).length≤1000000 by omega,L,si,l5,ai,show i<1000000 by omega]
   refine⟨_,rfl,?_⟩;rw[V8,JE];simp[nx,nxP]
  ·rintro σ st ⟨x3,rfl,rfl⟩;rw[zCg];have lr':=fun i st hi=>zKd kys i st hi
   rw[Jm]at lr'
   conv=>arg 1;simp[lr']
   rfl
def rndL(w:Wy) (s:Str) (A:Arcs) (T:Nat):List P:=(List.range T).map fun k=>P.lst ((rnd w s A k).map P.int)
theorem zM4(w:Wy) (s:Str) (A:Arcs) (T:Nat):rndL w s A (T+1)=rndL w s A T++[P.lst ((rnd w s A T).map P.int)]:=by unfold rndL;rw[V8,JE];rfl
theorem zPw(w:Wy) (s:Str) (A:Arcs) (T:Nat):(rndL w s A T).length=T:=by unfold rndL;rw[Jc,JN]
theorem zOC(w:Wy) (s:Str) (A:Arcs) (T:Nat) (st:List Cell):vIx (.p (.lst (rndL w s A (T+1)))) (.p (.int (-1))) st=.ok (.p (.lst ((rnd w s A T).map P.int))) st:=by
 have e:=atI_last (rndL w s A T) (P.lst ((rnd w s A T).map P.int));rw[←zM4]at e;simp[e]
def ents(L:List P) (k:Nat):List (NestedKey×P×P):=match L with
 |[]=>[]
 |x::L=>(nkOf x,x,.int (k:Int))::ents L (k+1)
theorem zES:∀(L:List P) (k:Nat),(ents L k).length=L.length
 |[],_=>rfl
 |x::L,k=>by rw[ents,JJ,zES L,JJ]
end
section
open Y YZ NS
section
variable {w:Wy}{s:Str}{A:Arcs}
@[simp]theorem nox_ok(f:Fl) (σ:Sg) (st:List Cell):SR.nox (.ok f σ st)=.ok f σ st:=rfl
end
end
section
open Y YZ NS
theorem zPD{x:P} (h:datP 11 x=true) (st:List Cell):zAM (zAY 12) [.p x,.p x] st=.ok (.p (.bl true)) st:=same_refl 11 x h st
theorem zPo:Bg zAW [.lst [.str (Str.ofString "heard"),.str (Str.ofString "counted"),.str (Str.ofString "two-way"),.str (Str.ofString "marked")]] fun x=>∃w:Wy,x=.str w.s:=by
 intro c hc;obtain⟨x,c',l,e,g,hr⟩:=Gb.ex (zRl (l:=[.str (Str.ofString "heard"),.str (Str.ofString "counted"),.str (Str.ofString "two-way"),.str (Str.ofString "marked")]) (by simp) (by simp) c hc)
 rw[e,zPB];refine⟨g,?_⟩;simp at hr;rcases hr with rfl|rfl|rfl|rfl
 ·exact⟨.heard,rfl⟩
 ·exact⟨.counted,rfl⟩
 ·exact⟨.two,rfl⟩
 ·exact⟨.marked,rfl⟩
end
section
open Y YZ NS
section
variable {w:Wy}{s:Str}{A:Arcs}
def cls(w:Wy) (s:Str) (A:Arcs) (k v:Nat):Int:=at0 (rnd w s A k) (v:Int)
end
end
section
open Y YZ NS
structure Wc (s:Str) (A:Arcs):Prop where
 n0:0<s.length
 ch:∀c∈s.cps.toList,c=97∨c=98∨c=99∨c=109
 inn:InN s.length A
theorem Wb.c{s:Str}{A:Arcs} (h:Wb s A):Wc s A:=⟨h.n0,h.ch,h.inn⟩
theorem zHi{w:Wy}{s:Str}{A:Arcs} (hW:Wc s A) (hs:s.length<64):Kys ((List.range s.length).map (mk w s A)):=by
 rw[zST];refine mk_kys (fun q hq=>?_) (by rw[Jc,JN];exact hs)
 obtain⟨v,hv,rfl⟩:=Jj.mp hq;have hv:v<s.cps.toList.length:=Jy.mp hv;rw[Ja hv];exact hW.ch _ (JL hv)
theorem zC0{w:Wy}{s:Str}{A:Arcs} (hW:Wc s A) (hs:s.length<64):∀k,Nums s.length (mny w s A k) (rnd w s A k)
 |0=>by
  have h:=zN4 (zHi (w:=w) hW hs);rw[Jc,JN]at h;exact h
 |k+1=>zPn hs A _
theorem zSw{w:Wy}{s:Str}{A:Arcs} (hW:Wc s A) (hs:s.length<64) (k:Nat):mny w s A k≤mny w s A (k+1):=by
 have h1:=zC0 (w:=w) hW hs k;have h2:=zC0 (w:=w) hW hs (k+1)
 -- each old number has a node,each node a new number
 have pick:∀j:Nat,j<mny w s A k→∃v:Nat,v<s.length∧(rnd w s A k)[v]?=some (j:Int):=fun j hj=>by
  obtain⟨v,hv⟩:=JF (h1.all j hj);exact⟨v,by rw[←h1.len];exact(Jb.mp hv).1,hv⟩
 have:((List.range (mny w s A k)).map fun j=>if h:j<mny w s A k then(at0 (rnd w s A (k+1)) ((pick j h).choose:Int)).toNat else 0).length≤(List.range (mny w s A (k+1))).length:=by
  refine zA6 _ (List.range (mny w s A (k+1))) ?_ ?_
  ·unfold List.Nodup;rw[J4];refine VJ (fun{a b} ha hb hne e=>hne ?_) (Yd (n:=mny w s A k))
   have ha:=Jy.mp ha;have hb:=Jy.mp hb;rw[dif_pos ha,dif_pos hb]at e;obtain⟨a1,a2⟩:=(pick a ha).choose_spec;obtain⟨b1,b2⟩:=(pick b hb).choose_spec;generalize (pick a ha).choose=u at *
   generalize (pick b hb).choose=v at *
   have g1:=zGg h2 a1;have g2:=zGg h2 b1;have p1:=h2.bd _ (Ji g1);have p2:=h2.bd _ (Ji g2);have e':at0 (rnd w s A (k+1)) (u:Int)=at0 (rnd w s A (k+1)) (v:Int):=by omega
   have eo:=zSn hs (N:=rnd w s A k) (A:=A) a1 b1 (by show(rnd w s A (k+1))[u]?=(rnd w s A (k+1))[v]?;rw[g1,g2,e'])
   have e5:at0 (rnd w s A k) (u:Int)=at0 (rnd w s A k) (v:Int):=congrArg Prod.fst eo;rw[zGg h1 a1]at a2;rw[zGg h1 b1]at b2
   have:=Jk a2
   have:=Jk b2
   omega
  ·intro x hx;obtain⟨j,hj,rfl⟩:=Jj.mp hx;have hj:=Jy.mp hj;rw[dif_pos hj];obtain⟨a1,_⟩:=(pick j hj).choose_spec;generalize (pick j hj).choose=u at *
   have p1:=h2.bd _ (Ji (zGg h2 a1));exact Jy.mpr ∅
 simpa using this
theorem zHs{w:Wy}{s:Str}{A:Arcs} (hW:Wc s A) (hs:s.length<64):∃T,mny w s A (T+1)=mny w s A T∧(∀k,k<T→mny w s A k<mny w s A (k+1))∧T<s.length:=by
 have hm:=fun k=>zSw (w:=w) hW hs k
 have hb:∀k,mny w s A k≤s.length:=fun k=>(zC0 (w:=w) hW hs k).lt_n
 have h0:0<mny w s A 0:=(zC0 (w:=w) hW hs 0).pos hW.n0
 have go:∀d k,s.length-mny w s A k≤d→(∀j,j<k→mny w s A j<mny w s A (j+1))→k+1≤mny w s A k→∃T,mny w s A (T+1)=mny w s A T∧(∀k,k<T→mny w s A k<mny w s A (k+1))∧T<s.length:=by
  intro d
  induction d with
  |zero =>
   intro k hd hk hk1
   have:=hm k;have:=hb (k+1);have:=hb k
   exact⟨k,∅,hk,∅⟩
  |succ d ih =>
   intro k hd hk hk1
   have:=hm k;have:=hb (k+1);have:=hb k
   by_cases e:mny w s A (k+1)=mny w s A k
   ·exact⟨k,e,hk,∅⟩
   ·refine ih (k+1) ∅ (fun j hj=>?_) ∅
    by_cases z:j=k
    ·subst z;omega
    ·exact hk j ∅
 exact go s.length 0 ∅ (fun j hj=>absurd hj (VU _)) ∅
noncomputable def stbC {w:Wy}{s:Str}{A:Arcs} (hW:Wc s A) (hs:s.length<64):Nat:=(zHs (w:=w) hW hs).choose
theorem zHH{w:Wy}{s:Str}{A:Arcs} (hW:Wc s A) (hs:s.length<64) (hl:A.length≤1000) (hml:∀st,zAM zBA [.p (wP s A),.p (.str w.s)] st=.ok (.p (.lst ((List.range s.length).map (mk w s A)))) st) (st:List Cell) :
  zAM zCK [.p (wP s A),.p (.str w.s)] st=.ok (.p (.lst (rndL w s A (stbC (w:=w) hW hs+1)))) st:=by
 refine Pu.call2 (Pu.of2 ?_) st;have hstab:=(zHs (w:=w) hW hs).choose_spec;generalize hT:stbC (w:=w) hW hs=T;have hT':(zHs (w:=w) hW hs).choose=T:=hT;rw[hT']at hstab;obtain⟨eT,gT,lT⟩:=hstab;have kys:=zHi (w:=w) hW hs;have lr:=fun st=>zFk kys st
 have r0:((List.range s.length).map (mk w s A)).map (fun x=>((pos ((List.range s.length).map (mk w s A)) x:Nat):Int))=rnd w s A 0:=rfl
 rw[r0]at lr;have wp0:∀st,vIx (.p (wP s A)) (.p (.int 0)) st=.ok (.p (.str s)) st:=fun st=>by simp[wP]
 simp[zCK,zAQ,hml,lr]
 have fin:∀x3:Option W,Gv (runR ((SR.ok .nx [some (W.p (wP s A)),some (W.p (P.str w.s)),some (W.r 0),x3] [.lst ((rndL w s A (T+1)).map W.p)]).then (sRet (mFrz (mVar 2))))) (.lst (rndL w s A (T+1))):=fun x3=>by
  have pc:=zBa (rndL w s A (T+1));generalize (rndL w s A (T+1)).map W.p=C at *
  conv=>arg 1;simp
  simp[zSO,pc]
  try rfl
 refine zC7 (n:=1000) (fun r=>Gv (runR (r.then (sRet (mFrz (mVar 2))))) (.lst (rndL w s A (T+1)))) (fun d σ st=>∃(k:Nat) (x3:Option W),d=T+1-k∧k≤T∧σ=[some (.p (wP s A)),some (.p (.str w.s)),some (.r 0),x3]∧st=[.lst ((rndL w s A (k+1)).map W.p)]) (T+1) ∅ ⟨0,none,rfl,∅,rfl,rfl⟩ ?_
 rintro d σ st ⟨k,x3,rfl,hk,rfl,rfl⟩;have hN:=zC0 (w:=w) hW hs k;have hN':=zC0 (w:=w) hW hs (k+1);have ln:=fun st=>zKL hW.inn hs hl hN st
 have ne:nxtN s.length A (rnd w s A k)=rnd w s A (k+1):=rfl;rw[ne]at ln
 have last:L2.atI ((rndL w s A (k+1)).map W.p) (-1)=some (.p (.lst ((rnd w s A k).map P.int))):=by
  rw[zM4,JE];exact atI_last _ _
 have n1:=hN.max hW.n0;have n2:=hN'.max hW.n0;have N0':0<(rnd w s A k).length:=by rw[hN.len];exact hW.n0
 have N1':0<(rnd w s A (k+1)).length:=by rw[hN'.len];exact hW.n0
 have lL:((rndL w s A (k+1)).map W.p).length=k+1:=by rw[Jc,zPw]
 have hc1:(rndL w s A (k+1)).map W.p++[W.p (.lst ((rnd w s A (k+1)).map P.int))]=(rndL w s A (k+1+1)).map W.p:=by rw[zM4 w s A (k+1),JE];rfl
 refine .inr ⟨[.lst ((rndL w s A (k+1)).map W.p)],T+1-(k+1),?_,∅,?_⟩
 ·generalize (rndL w s A (k+1)).map W.p=C at *
  simp[lL,wp0,show k+1≤1000000 by omega,show s.length≤1000000 by omega]
  omega
 ·by_cases he:k=T
  ·subst he;have he':(mny w s A (k+1):Int)-1=mny w s A k-1:=by rw[eT]
   generalize (rndL w s A (k+1)).map W.p=C at *
   conv=>arg 3;simp[last,ln,N0',N1',n1,n2,he']
   exact fin _
  ·have:=gT k ∅
   have he':¬(mny w s A (k+1):Int)-1=mny w s A k-1:=by omega
   generalize (rndL w s A (k+1)).map W.p=C at *
   conv=>arg 3;simp[last,ln,N0',N1',n1,n2,he',lL,show k+1<1000000 by omega]
   exact⟨k+1,_,rfl,∅,rfl,by rw[hc1]⟩
end
section
open Y YZ NS
def shA(n:Nat) (A:Arcs):Arcs:=A.map fun q=>(q.1+n,q.2+n)
def unA(n:Nat) (A B:Arcs):Arcs:=A++shA n B
section
variable {w:Wy}{s t:Str}{A B:Arcs}
theorem zOT:(s++t).length=s.length+t.length:=bM s t
theorem un_cps:(s++t).cps.toList=s.cps.toList++t.cps.toList:=by
 show(s.cps++t.cps).toList=_;rw[Array.toList_append]
theorem zOv(h:Wb s A) (k:Wb t B):Wc (s++t) (unA s.length A B):=by
 refine⟨by rw[zOT];have:=h.n0;omega,fun c hc=>?_,fun q hq=>?_⟩
 ·rw[un_cps]at hc;rcases JI.mp hc with hc|hc
  ·exact h.ch c hc
  ·exact k.ch c hc
 ·rw[zOT];rcases JI.mp hq with hq|hq
  ·obtain⟨a,b,c,d⟩:=h.inn q hq;exact⟨a,∅,c,∅⟩
  ·obtain⟨p,hp,rfl⟩:=Jj.mp hq;obtain⟨a,b,c,d⟩:=k.inn p hp;refine⟨?_,?_,?_,?_⟩<;>simp only<;>omega
end
end
section
open Y YZ NS
section
variable {w:Wy}{s t:Str}{A B:Arcs}
structure Rl (w:Wy) (s:Str) (A:Arcs) (t:Str) (B:Arcs) (E:Nat→Nat→Prop):Prop where
 l:∀u,u<s.length→∃v,v<t.length∧E u v
 r:∀v,v<t.length→∃u,u<s.length∧E u v
 m:∀u v,u<s.length→v<t.length→E u v→mkQ w s A u=mkQ w t B v
 h:∀u v,u<s.length→v<t.length→E u v→∀g1 g2:Int→Int,(∀x y,x<s.length→y<t.length→E x y→g1 ((x:Nat):Int)=g2 ((y:Nat):Int))→((srcs A (u:Int)).map g1).Perm ((srcs B (v:Int)).map g2)
def Un(w:Wy) (s t:Str) (A B:Arcs) (T u v:Nat):Prop:=cls w (s++t) (unA s.length A B) T u=cls w (s++t) (unA s.length A B) T (s.length+v)
end
end
section
open Y YZ NS
section
variable {w:Wy}{s:Str}{A A':Arcs}{o:List Int}
theorem zSq(ho:Ord s.length o):(mv o s).cps.toList.Perm s.cps.toList:=by
 unfold mv sOf;show(o.map (gt s)).Perm _
 have e:s.cps.toList=((List.range s.length).map fun(i:Nat)=>(i:Int)).map (gt s):=by
  refine Yk fun i=>?_
  rw[Jm,Jd]
  by_cases hi:i<s.length
  ·have hi':i<s.cps.toList.length:=hi;rw[JZ hi,Ja hi'];show some _=some (gt s (i:Int));unfold gt;simp[Ja hi']
  ·have hi':s.cps.toList.length≤i:=by show s.length≤i;omega
   rw[Jt hi',Jt (by rw[JN];omega)]
   rfl
 rw[e];exact ho.perm.map _
theorem mA_swp(A:Arcs):(mA o A).map swp=mA o (A.map swp):=by
 unfold mA;rw[Jm,Jm];rfl
theorem Wof_mv(h:Wof w s A) (p:A'.Perm A) (ho:Ord s.length o):Wof w (mv o s) (mA o A'):=by
 have pm:=zSq ho;cases w with
 |heard=>have h:109∉s.cps.toList:=h;exact fun z=>h (pm.mem_iff.mp z)
 |counted=>have h:109∉s.cps.toList:=h;exact fun z=>h (pm.mem_iff.mp z)
 |marked=>have h:s.cps.toList.count 109=1:=h;show(mv o s).cps.toList.count 109=1;rw[pm.count_eq];exact h
 |two =>
  obtain⟨h1,h2⟩:=h;refine⟨fun z=>h1 (pm.mem_iff.mp z),?_⟩
  rw[mA_swp];unfold mA;exact((p.map swp).trans (h2.trans p.symm)).map _
end
theorem zJm{c:Nat} (h:okC c):PyData.strOk ⟨#[c]⟩=true:=by
 rcases h with rfl|rfl|rfl|rfl<;>decide +kernel
end
section
open Y YZ NS
def s_ab:Str:=Str.ofString "ab"
def zDF:Str:=Str.ofString "abab"
theorem wb_ab:Wb s_ab (rgA 2 false 2):=⟨⋯,(LtS.of (show letB s_ab=true by decide +kernel)).2.2,by rw[show s_ab.length=2 by decide +kernel];exact zHw (!0) false,by rw[show s_ab.length=2 by decide +kernel];exact zF4 (!0) false⟩
theorem zNG:Wb zDF (rgA 4 false 4):=⟨⋯,(LtS.of (show letB zDF=true by decide +kernel)).2.2,by rw[show zDF.length=4 by decide +kernel];exact zHw (!0) false,by rw[show zDF.length=4 by decide +kernel];exact zF4 (!0) false⟩
end
section
open Y YZ NS
section
variable {w:Wy}{s t:Str}{A B:Arcs}
def prU(w:Wy) (s t:Str) (A B:Arcs) (T u:Nat):List P:=((List.range t.length).filter fun v=>decide (cls w (s++t) (unA s.length A B) T u=cls w (s++t) (unA s.length A B) T (s.length+v))).map fun(v:Nat)=>P.tup [.int (u:Int),.int (v:Int)]
def prs(w:Wy) (s t:Str) (A B:Arcs) (T k:Nat):List P:=(List.range k).flatMap fun u=>prU w s t A B T u
theorem zN7(T u:Nat):(prU w s t A B T u).length≤t.length:=by
 unfold prU;rw[Jc];exact Vs (Ve _ _) (by rw[JN];omega)
theorem zLT(T k:Nat):prs w s t A B T (k+1)=prs w s t A B T k++prU w s t A B T k:=by
 unfold prs;rw[V8,Y5];simp
theorem zKO(T:Nat):∀k,(prs w s t A B T k).length≤k*t.length
 |0=>by simp[prs]
 |k+1=>by
  have:=zKO T k
  have h2:=zN7 (w:=w) (s:=s) (t:=t) (A:=A) (B:=B) T k;rw[zLT,Ju,Nat.add_mul,Nat.one_mul];omega
end
section
variable {w:Wy}{s t:Str}{A B:Arcs}
def prN(w:Wy) (s t:Str) (A B:Arcs) (T k:Nat):List (Nat×Nat):=(List.range k).flatMap fun u=>((List.range t.length).filter fun v=>decide (cls w (s++t) (unA s.length A B) T u=cls w (s++t) (unA s.length A B) T (s.length+v))).map fun(v:Nat)=>(u,v)
def prP(q:Nat×Nat):P:=.tup [.int q.1,.int q.2]
theorem prs_N(T k:Nat):prs w s t A B T k=(prN w s t A B T k).map prP:=by
 unfold prs prN prU;rw[List.map_flatMap];simp only[Jm];rfl
end
end
mutual
theorem zNZ:∀ {x y:P}{k:NestedKey},nkP x=some k→nkP y=some k→x=y
 | .non,y,k,e,e'=>by
  rw[nkP]at e;cases e;cases y<;>(try rfl)<;>simp[nkP]at e'
 | .int i,y,k,e,e'=>by
  rw[nkP]at e;cases e;cases y<;>simp[nkP]at e';rw[e']
 | .str z,y,k,e,e'=>by
  rw[nkP]at e;cases e;cases y<;>simp[nkP]at e';rw[e']
 | .tup l,y,k,e,e'=>by
  rw[nkP]at e;obtain⟨ks,e1,rfl⟩:=Jx.mp e;cases y with
  |tup m =>
   rw[nkP]at e';obtain⟨ks',e2,e3⟩:=Jx.mp e';injection e3 with e3
   subst e3;rw[zKn e1 e2]
  |_=>simp[nkP]at e'
theorem zKn:∀ {l m:List P}{ks:List NestedKey},nkPs l=some ks→nkPs m=some ks→l=m
 |[],m,ks,e,e'=>by
  rw[nkPs]at e;cases e;cases m with
  |nil=>rfl
  |cons y m =>
   rw[nkPs]at e';split at e'<;>simp at e'
 |x::l,m,ks,e,e'=>by
  rw[nkPs]at e;split at e
  ·rename_i k ks' e1 e2
   cases e;cases m with
   |nil=>rw[nkPs]at e';cases e'
   |cons y m =>
    rw[nkPs]at e';split at e'
    ·rename_i k2 ks2 f1 f2
     injection e' with e'
     injection e' with g1 g2
     subst g1 g2;rw[zNZ e1 f1,zKn e2 f2]
    ·cases e'
  ·cases e
end
theorem zSV{x y:P}{k:NestedKey} (e:nkT x=some k) (e':nkT y=some k):x=y:=by
 obtain⟨_,_,e1,_⟩:=zCn e;obtain⟨_,_,e2,_⟩:=zCn e';exact zNZ e1 e2
theorem zS4{α:Type}{xs:List (NestedKey×P×α)}{k:NestedKey}{x:P}{v:α} (hk:nkT x=some k) (hx:∀p∈xs,nkT p.2.1=some p.1){z:P}:z∈(stG xs k x v).map (·.2.1)↔z∈xs.map (·.2.1)∨z=x:=by
 unfold stG;split
 ·rename_i h
  have e:(xs.map fun y=>if y.1=k then(y.1,y.2.1,v)else y).map (·.2.1)=xs.map (·.2.1):=by
   rw[Jm];refine Vw fun y _=>?_
   show(if y.1=k then(y.1,y.2.1,v)else y).2.1=y.2.1
   split<;>rfl
  rw[e];refine⟨.inl,fun o=>o.elim id fun e=>?_⟩
  obtain⟨y,my,hy⟩:=Yc.mp h;have hy:=JB hy;have k1:=hx y my;rw[hy]at k1;rw[e,zSV hk k1];exact Vg my
 ·simp[JI]
theorem zI8{α:Type}:∀ {pp xs:List (NestedKey×P×α)},(∀p∈pp,nkT p.2.1=some p.1)→(∀p∈xs,nkT p.2.1=some p.1)→∀ {z:P},z∈(zEJ xs pp).map (·.2.1)↔z∈xs.map (·.2.1)∨z∈pp.map (·.2.1)
 |[],xs,_,_,z=>by show z∈xs.map _↔_;simp
 |p::pp,xs,h1,h2,z=>by
  have hp:=h1 p Jg;have g:∀q∈stG xs p.1 p.2.1 p.2.2,nkT q.2.1=some q.1:=zN3 (f:=fun q=>nkT q.2.1=some q.1) (fun _ _ _ _ h=>h) (pp:=[p]) (fun q m=>by rw[JS]at m;subst m;exact hp) h2
  have ih:=zI8 (pp:=pp) (xs:=stG xs p.1 p.2.1 p.2.2) (fun q m=>h1 q (Jf _ m)) g (z:=z)
  have s:=zS4 (v:=p.2.2) hp h2 (z:=z);show z∈(zEJ (stG xs p.1 p.2.1 p.2.2) pp).map (·.2.1)↔_
  rw[ih,s,Jl,Jo];constructor
  ·rintro((h|h)|h)
   ·exact .inl h
   ·exact .inr (.inl h)
   ·exact .inr (.inr h)
  ·rintro(h|h|h)
   ·exact .inl (.inl h)
   ·exact .inl (.inr h)
   ·exact .inr h
def keysOf(pp:List (NestedKey×P×P)):List P:=(zEJ [] pp).map (·.2.1)
theorem zPI{src:Src}{t:Tg}{c:TM}{mk mv:EM}{σ0:Sg}{st:List Cell}{l:List P} (hg:∀i,src.get st i=some (l[i]?.map W.p)) (he:∀x∈l,∃σ1,t.put (.p x) σ0=some σ1∧c σ1 st=.ok true st∧mk σ1 st=.ok (.p x) st∧mv σ1 st=.ok (.p (.bl true)) st) :
  ∀(n i:Nat) (pp xs:List (NestedKey×P×P)),pp.map (·.2.1)=l.drop i→(∀p∈pp,nkT p.2.1=some p.1∧p.2.2=.bl true)→l.length-i<n→i≤l.length→dcFN src t c mk mv σ0 n i xs st=.ok (.p (.fn ((zEJ xs pp).map (·.2.1)) ((zEJ xs pp).map (·.2.2)))) st:=by
 intro n
 induction n with
 |zero=>intro i pp xs _ _ h _;omega
 |succ n ih =>
  intro i pp xs hp hk hn hi;rw[dcFN,hg i]
  by_cases hl:i<l.length
  ·rw[Vi hl]at hp;cases pp with
   |nil=>rw[VS]at hp;cases hp
   |cons p pp =>
    rw[Jl]at hp;obtain⟨p1,p2⟩:=VP hp;obtain⟨k1,k2⟩:=hk p Jg;obtain⟨σ1,e1,e2,e3,e4⟩:=he l[i] (JL hl);rw[Ja hl];simp only[VF,e1];rw[p1]at k1;have r:=ih (i+1) pp (stG xs p.1 l[i] (.bl true)) p2 (fun q m=>hk q (Jf _ m)) ∅ ∅
    have e:zEJ xs (p::pp)=zEJ (stG xs p.1 l[i] (.bl true)) pp:=by
     show zEJ (stG xs p.1 p.2.1 p.2.2) pp=_;rw[p1,k2]
    rw[e,←r];simp[e2,e3,e4,k1]
  ·rw[Jt ∅]
   have:l.drop i=[]:=Vl ∅
   rw[this]at hp;obtain rfl:pp=[]:=by simpa using hp
   rfl
section
open Y YZ NS
def rhA:SMm:=(sSeq (sIf (mOrT (zBq (mTru (mIsi "tuple" (mVar 4)))) (mTst (mBin (vEqB true) (zAH vLen %[(mVar 4)|0]) (mC (.int 2))))) (sRet (mC (.bl false))) sNx) (sIf (mOrT (zBq (mTru (zAF zAf %[(mBin vIx (mVar 4) (mC (.int 0))),(mC (.int 0)),(mBin vSub (zAH (zEz 3 zA4) %[(mVar 0)|0]) (mC (.int 1)))|0]))) (zBq (mTru (zAF zAf %[(mBin vIx (mVar 4) (mC (.int 1))),(mC (.int 0)),(mBin vSub (zAH (zEz 3 zA4) %[(mVar 1)|0]) (mC (.int 1)))|0])))) (sRet (mC (.bl false))) sNx))
theorem zJ4{N:List Int}{v:Nat} (h:v<N.length):L2.atI (N.map P.int) (v:Int)=some (.int (at0 N v)):=by
 rw[zLe,Jd];unfold at0;rw[Vj,Ja h];rfl
theorem zKJ{N:List Int}{v:Nat} (h:v<N.length):at0 N v∈N:=by
 unfold at0;rw[Vj,Ja h];exact JL h
theorem zIt(N:List Int):(List.range N.length).map (fun(v:Nat)=>at0 N v)=N:=by
 refine List.ext_getElem (by simp) fun i h1 h2=>?_
 simp only[Jc,JN]at h1;rw[List.getElem_map,YI];unfold at0;rw[Vj,Ja h1];rfl
def zL7(q:Nat×Nat):NestedKey:=.tup [.num q.1,.num q.2]
theorem zJn(q:Nat×Nat):nkT (prP q)=some (zL7 q):=by
 unfold prP;simp only[nkT,nkP,nkPs];rfl
theorem zRR{a b:Nat×Nat} (h:prP a=prP b):a=b:=by
 unfold prP at h;simp at h;exact Prod.ext ∅ ∅
theorem zOk{a b:Nat×Nat} (h:zL7 a=zL7 b):a=b:=by
 unfold zL7 at h;simp at h;exact Prod.ext ∅ ∅
def prE(q:Nat×Nat):NestedKey×P×P:=(zL7 q,prP q,.bl true)
def prK(L:List (Nat×Nat)):List P:=(zEJ [] (L.map prE)).map (·.2.1)
def prV(L:List (Nat×Nat)):List P:=(zEJ [] (L.map prE)).map (·.2.2)
theorem zEg{L:List (Nat×Nat)}{x:P}:x∈prK L↔x∈L.map prP:=by
 unfold prK;rw[zI8 (xs:=[]) (fun p m=>?_) (fun p m=>nomatch m)]
 ·simp[prE]
 ·obtain⟨q,_,rfl⟩:=Jj.mp m;exact zJn q
theorem zJR{α β:Type}:∀(pp xs:List (NestedKey×α×β)),(zEJ xs pp).length≤xs.length+pp.length
 |[],xs=>by show xs.length≤_;omega
 |p::pp,xs=>by
  have h:=zJR pp (stG xs p.1 p.2.1 p.2.2);have h2:=zNB (xs:=xs) (k:=p.1) (a:=p.2.1) (v:=p.2.2);show(zEJ (stG xs p.1 p.2.1 p.2.2) pp).length≤_;rw[JJ];omega
theorem zNK(L:List (Nat×Nat)):(prK L).length≤L.length:=by
 unfold prK
 have:=zJR (L.map prE) []
 rw[Jc];simpa using this
theorem prK_in(L:List (Nat×Nat)) (q:Nat×Nat):inN (prK L) (zL7 q)=decide (q∈L):=by
 unfold inN;rw[Vu,Yc,Jz];constructor
 ·rintro⟨x,hx,e⟩;have e:=JB e;obtain⟨r,hr,rfl⟩:=Jj.mp (zEg.mp hx);rw[zJn]at e;rw[←zOk (Jk e)];exact hr
 ·intro h;exact⟨prP q,zEg.mpr (Vg h),JD (zJn q)⟩
theorem zRY(L:List (Nat×Nat)) (q:Nat×Nat) (st:List Cell):vInN false (.p (.tup [.int q.1,.int q.2])) (.p (.fn (prK L) (prV L))) st=.ok (.p (.bl (decide (q∈L)))) st:=by
 have:=vInN_e (neg:=false) (ks:=prK L) (l:=prV L) (st:=st) (zJn q)
 rw[prK_in]at this;simpa[prP]using this
theorem prK_dc{src:Src}{L:List (Nat×Nat)}{m:IM}{σ:Sg}{st:List Cell} (hm:m σ st=.ok src st) (hn:src.n=L.length) (hL:L.length≤1000000) (h4:4<σ.length) (hg:∀i,src.get st i=some ((L.map prP)[i]?.map W.p)) :
  mDcN m (.nm 4) [4] mYes (mVar 4) (mC (.bl true)) σ st=.ok (.p (.fn (prK L) (prV L))) st:=by
 have r:=zPI (src:=src) (t:=.nm 4) (c:=mYes) (mk:=mVar 4) (mv:=mC (.bl true)) (σ0:=zAv σ [4]) (st:=st) (l:=L.map prP) hg (fun x _=>by
  refine⟨_,zBl _ _,rfl,?_,rfl⟩
  have:((zAv σ [4]).set 4 (some (W.p x)))[4]?=some (some (W.p x)):=by
   rw[Jw (by simp[zAv];omega)]
  unfold mVar
  rw[this]) (src.n+1) 0 (L.map prE) [] (by rw[Jm,VE];rfl) (fun p hp=>by
   obtain⟨q,_,rfl⟩:=Jj.mp hp
   exact⟨zJn q,rfl⟩) (by simp;omega) ∅
 unfold mDcN;rw[hm];simp only[Y.Res.bind];rw[JW (by rw[hn];exact hL),r]
 rfl
def dis(acc:List Int):List Int→List Int
 |[]=>acc
 |x::l=>dis (if x∈acc then acc else acc++[x]) l
theorem zLt:∀(l acc:List Int),acc.Nodup→(dis acc l).Nodup
 |[],acc,h=>h
 |x::l,acc,h=>by
  unfold dis;split
  ·exact zLt l acc h
  ·rename_i hx
   refine zLt l _ ?_
   rw[Vx];refine⟨h,by simp,fun a ha b hb=>?_⟩
   simp at hb;subst hb;exact fun z=>hx (z▸ha)
theorem zIP:∀(l acc:List Int) (k:Int),k∈dis acc l↔k∈acc∨k∈l
 |[],acc,k=>by simp[dis]
 |x::l,acc,k=>by
  unfold dis;rw[zIP l];split
  ·rename_i hx
   simp only[Jo];constructor
   ·rintro(h|h)
    ·exact .inl h
    ·exact .inr (.inr h)
   ·rintro(h|rfl|h)
    ·exact .inl h
    ·exact .inl hx
    ·exact .inr h
  ·rw[JI,JS,Jo,or_assoc]
theorem zRC{l:List Int}{n:Nat} (h:∀x∈l,0≤x∧x<(n:Int)):(dis [] l).length≤n:=by
 have:=zA6 _ ((List.range n).map fun(i:Nat)=>(i:Int)) (zLt l [] Yt) fun x hx=>by
  rcases(zIP l [] x).mp hx with h1|h1
  ·cases h1
  ·obtain⟨a,b⟩:=h x h1;exact Jj.mpr ⟨x.toNat,Jy.mpr ∅,∅⟩
 simpa using this
theorem zSM{l:List Int}{n:Nat} (h:∀x∈l,0≤x∧x<(n:Int)):(dis [] l).length=n↔∀i:Nat,i<n→(i:Int)∈l:=by
 have nd:=zLt l [] Yt;constructor
 ·intro e i hi;refine Yq fun no=>?_
  have:=zA6 _ (((List.range n).filter fun j=>decide (j≠i)).map fun(i:Nat)=>(i:Int)) nd fun x hx=>by
   rcases(zIP l [] x).mp hx with h1|h1
   ·cases h1
   ·obtain⟨a,b⟩:=h x h1;refine Jj.mpr ⟨x.toNat,Yi.mpr ⟨Jy.mpr ∅,JD fun z=>no ?_⟩,∅⟩
    rw[←z];rw[show((x.toNat:Nat):Int)=x by omega]
    exact h1
  rw[Jc]at this
  have lt:((List.range n).filter fun j=>decide (j≠i)).length<n:=by
   have:=List.length_filter_lt_length_iff_exists (p:=fun j=>decide (j≠i)) (l:=List.range n) |>.mpr ⟨i,Jy.mpr hi,by simp⟩
   rwa [JN]at this
  omega
 ·intro hall;have h1:=zRC h
  have h2:=zA6 ((List.range n).map fun(i:Nat)=>(i:Int)) (dis [] l) (by
   refine List.Pairwise.map _ (fun a b e=>?_) (Yd (n:=n))
   intro z
   exact e ∅) fun x hx=>by
    obtain⟨i,hi,rfl⟩:=Jj.mp hx;exact(zIP l [] _).mpr (.inr (hall i (Jy.mp hi)))
  rw[Jc,JN]at h2;omega
theorem zLB{σ0:Sg}{st:List Cell}{e:EM}{pr:P→Int}{KS:List P}{n:Nat} (hn:n≤900) (he:∀x∈KS,e (σ0.set 4 (some (.p x))) st=.ok (.p (.int (pr x))) st∧0≤pr x∧pr x<(n:Int)) :
  ∀(k i:Nat) (acc:List Int),acc.Nodup→(∀x∈acc,0≤x∧x<(n:Int))→i≤KS.length→KS.length-i<k→scFI (srcL (KS.map W.p)) (.nm 4) mYes e σ0 k i acc st=.ok (dis acc ((KS.drop i).map pr)) st
 |0,i,acc,_,_,_,hk=>by omega
 |k+1,i,acc,nd,hb,hi,hk=>by
  unfold scFI
  have g:(srcL (KS.map W.p)).get st i=some (KS[i]?.map W.p):=by
   show some (KS.map W.p)[i]?=_;rw[Jd]
  rw[g]
  by_cases hl:i<KS.length
  ·rw[Ja hl,Vi hl];obtain⟨h1,h2,h3⟩:=he KS[i] (JL hl)
   have la:acc.length≤n:=by
    have:=zA6 _ ((List.range n).map fun(i:Nat)=>(i:Int)) nd fun x hx=>by
     obtain⟨a,b⟩:=hb x hx;exact Jj.mpr ⟨x.toNat,Jy.mpr ∅,∅⟩
    simpa using this
   simp only[VF,zBl];have hy:∀(σ:Sg) st,mYes σ st=.ok true st:=fun _ _=>rfl
   simp only[hy,Y.Res.nox,Y.Res.bind,Ye,h1];rw[JW ∅];rw[zLB hn he k (i+1) _ ?_ ?_ ∅ ∅]
   ·rfl
   ·split
    ·exact nd
    ·rename_i hx
     rw[Vx];refine⟨nd,by simp,fun a ha b hb2=>?_⟩
     simp at hb2;subst hb2;exact fun z=>hx (z▸ha)
   ·intro x hx;split at hx
    ·exact hb x hx
    ·rcases JI.mp hx with hx|hx
     ·exact hb x hx
     ·simp at hx;subst hx;exact⟨h2,h3⟩
  ·rw[Jt ∅,Vl ∅];rfl
end
section
open Y YZ NS
def putA(L:Arcs) (t b:Int):Arcs:=if t∈L.map Prod.fst then L.map (fun q=>if q.1=t then(t,b)else q)else L++[(t,b)]
theorem zBL{L:Arcs}{t b:Int} (q:Int×Int):q∈putA L t b↔q=(t,b)∨(q∈L∧q.1≠t):=by
 unfold putA;split
 ·rename_i h
  rw[Jj];constructor
  ·rintro⟨x,hx,e⟩;split at e
   ·exact .inl e.symm
   ·rename_i ne
    subst e;exact .inr ⟨hx,ne⟩
  ·rintro(rfl|⟨h1,h2⟩)
   ·obtain⟨x,hx,e⟩:=Jj.mp h;exact⟨x,hx,JW e⟩
   ·exact⟨q,h1,Vh h2⟩
 ·rename_i h
  rw[JI,JS];constructor
  ·rintro(h1|h1)
   ·exact .inr ⟨h1,fun z=>h (z▸Vg h1)⟩
   ·exact .inl h1
  ·rintro(h1|⟨h1,_⟩)
   ·exact .inr h1
   ·exact .inl h1
theorem zPk{L:Arcs}{t b:Int}:(putA L t b).map Prod.fst=if t∈L.map Prod.fst then L.map Prod.fst else L.map Prod.fst++[t]:=by
 unfold putA;split
 ·rw[Jm];refine Vw fun q _=>?_
  show(if q.1=t then(t,b)else q).1=q.1
  split
  ·rename_i e;exact e.symm
  ·rfl
 ·rw[JE];rfl
theorem zM2{L:Arcs}{t b:Int} (h:(L.map Prod.fst).Nodup):((putA L t b).map Prod.fst).Nodup:=by
 rw[zPk];split
 ·exact h
 ·rename_i n
  rw[Vx];refine⟨h,by simp,fun a ha b hb=>?_⟩
  simp at hb;subst hb;exact fun z=>n (z▸ha)
theorem zPb{L:Arcs}{t b:Int} (h:t∉L.map Prod.fst):putA L t b=L++[(t,b)]:=by
 unfold putA;rw[Vh h]
theorem zLR(L:Arcs) (t b:Int):zEA (kys L) (vls L) (.inl t) (.p (.int b))=(kys (putA L t b),vls (putA L t b)):=by
 by_cases h:t∈L.map Prod.fst
 ·unfold zEA putA;rw[JW (by rw[zGB];exact JD h),JW h]
  have k:kys (L.map fun q=>if q.1=t then(t,b)else q)=kys L:=by
   unfold kys;rw[Jm];refine Vw fun q _=>?_
   show Sum.inl (if q.1=t then(t,b)else q).1=Sum.inl q.1
   split
   ·rename_i e;rw[e]
   ·rfl
  rw[k]
  congr 1
  unfold kys vls;rw[Jm,List.zipWith_map_left,List.zipWith_map_right,List.zipWith_self];refine Vw fun q _=>?_
  show(if(Sum.inl q.1:Key)=Sum.inl t then _ else _)=W.p (.int (if q.1=t then(t,b)else q).2)
  by_cases e:q.1=t
  ·rw[JW (by rw[e]),JW e]
  ·rw[Vh (fun z=>e (Sum.inl.inj z)),Vh e]
 ·rw[zM8 h,zPb h]
theorem zOH{L:Arcs} (h:(L.map Prod.fst).Nodup):∀ {q q':Int×Int},q∈L→q'∈L→q.1=q'.1→q=q':=by
 induction L with
 |nil=>intro q q' h1;cases h1
 |cons x L ih =>
  rw[Jl,JV]at h;intro q q' h1 h2 e;rcases Jo.mp h1 with e1|h1
  ·rcases Jo.mp h2 with e2|h2
   ·rw[e1,e2]
   ·exact absurd (by rw[←e1,e];exact Vg h2) h.1
  ·rcases Jo.mp h2 with e2|h2
   ·exact absurd (by rw[←e2,←e];exact Vg h1) h.1
   ·exact ih h.2 h1 h2 e
theorem zOm{L:Arcs} (h:(L.map Prod.fst).Nodup){i j:Nat}{t b c:Int} (h1:L[i]?=some (t,b)) (h2:L[j]?=some (t,c)):i=j:=by
 have a1:(L.map Prod.fst)[i]?=some t:=by rw[Jd,h1];rfl
 have a2:(L.map Prod.fst)[j]?=some t:=by rw[Jd,h2];rfl
 obtain⟨l1,e1⟩:=Jb.mp a1;obtain⟨l2,e2⟩:=Jb.mp a2;exact(Yb h).mp (e1.trans e2.symm)
structure Mat (n k:Nat) (R:Int→Int→Prop) (L:Arcs):Prop where
 nd:(L.map Prod.fst).Nodup
 inn:∀q∈L,0≤q.1∧q.1<n∧R q.1 q.2
 val:∀q∈L,0≤q.2∧q.2<k
 inj:∀q∈L,∀q'∈L,q.2=q'.2→q.1=q'.1
 all:∀b:Nat,b<k→∃t,(t,(b:Int))∈L
theorem Mat.nil(n:Nat) (R:Int→Int→Prop):Mat n 0 R []:=⟨by simp,by simp,by simp,by simp,fun b h=>by omega⟩
theorem zIm{n:Nat}{L:Arcs} (nd:(L.map Prod.fst).Nodup) (h:∀q∈L,0≤q.1∧q.1<(n:Int)):L.length≤n:=by
 have:=zA6 _ ((List.range n).map fun(i:Nat)=>(i:Int)) nd fun x hx=>by
  obtain⟨q,hq,rfl⟩:=Jj.mp hx
  have:=h q hq
  exact Jj.mpr ⟨q.1.toNat,Jy.mpr ∅,∅⟩
 simpa using this
structure Agm (n k:Nat) (R:Int→Int→Prop) (M C:Arcs) (T:List Int):Prop where
 len:T.length=C.length
 par:∀(i:Nat) t b y,C[i]?=some (t,b)→T[i]?=some y→(t,y)∈M
 from_:∀(i:Nat) t b,C[i]?=some (t,b)→∃m:Nat,m≤i∧((k:Int)::T)[m]?=some b
 nd:(C.map Prod.fst).Nodup
 inn:∀q∈C,0≤q.1∧q.1<n∧R q.1 q.2
theorem Agm.nil(n k:Nat) (R:Int→Int→Prop) (M:Arcs):Agm n k R M [] []:=⟨rfl,fun i t b y h=>by simp at h,fun i t b h=>by simp at h,by simp,by simp⟩
section
variable {n k:Nat}{R:Int→Int→Prop}{M C:Arcs}{T:List Int}
theorem Agm.at(h:Agm n k R M C T){i:Nat}{y:Int} (e:T[i]?=some y):∃t b,C[i]?=some (t,b)∧(t,y)∈M:=by
 have hi:i<C.length:=by rw[←h.len];exact(Jb.mp e).1
 refine⟨C[i].1,C[i].2,Ja hi,h.par i _ _ y (Ja hi) e⟩
theorem Agm.tval(h:Agm n k R M C T) (hM:Mat n k R M){y:Int} (hy:y∈T):0≤y∧y<k:=by
 obtain⟨i,e⟩:=JF hy;obtain⟨t,b,_,m⟩:=h.at e;exact hM.val _ m
theorem Agm.tnd(h:Agm n k R M C T) (hM:Mat n k R M):((k:Int)::T).Nodup:=by
 rw[JV];refine⟨fun z=>?_,?_⟩
 ·have:=h.tval hM z;omega
 ·rw[Vp,V0];intro i j hi hj hij e;obtain⟨t,b,c1,m1⟩:=h.at (Ja hi);obtain⟨t',b',c2,m2⟩:=h.at (Ja hj)
  have:=hM.inj _ m1 _ m2 e
  simp only at this;subst this
  have:=zOm h.nd c1 c2
  omega
theorem Agm.tlen(h:Agm n k R M C T) (hM:Mat n k R M):T.length≤k:=by
 have:=zA6 _ ((List.range k).map fun(i:Nat)=>(i:Int)) (JV.mp (h.tnd hM)).2 fun x hx=>by
  have:=h.tval hM hx
  exact Jj.mpr ⟨x.toNat,Jy.mpr ∅,∅⟩
 simpa using this
theorem Agm.more(h:Agm n k R M C T){t b y:Int} (hb:b∈(k:Int)::T) (nt:t∉C.map Prod.fst) (ht:0≤t∧t<n) (hR:R t b) (hy:(t,y)∈M):Agm n k R M (C++[(t,b)]) (T++[y]):=by
 refine⟨by simp[h.len],fun i t' b' y' e1 e2=>?_,fun i t' b' e1=>?_,?_,fun q hq=>?_⟩
 ·by_cases hi:i<C.length
  ·rw[Je hi]at e1;rw[Je (by rw[h.len];exact hi)]at e2
   exact h.par i _ _ _ e1 e2
  ·rw[Jq ∅]at e1;rw[Jq (by rw[h.len];omega)]at e2
   have hz:i-C.length=0:=by
    have:=(Jb.mp e1).1
    simp at this;omega
   rw[hz]at e1;rw[h.len,hz]at e2;cases e1;cases e2;exact hy
 ·by_cases hi:i<C.length
  ·rw[Je hi]at e1;obtain⟨m,hm,e⟩:=h.from_ i _ _ e1;exact⟨m,hm,by rw[←VA,Je (Jb.mp e).1];exact e⟩
  ·rw[Jq ∅]at e1
   have hz:i-C.length=0:=by
    have:=(Jb.mp e1).1
    simp at this;omega
   rw[hz]at e1;cases e1;obtain⟨m,e⟩:=JF hb;have hm:=(Jb.mp e).1;rw[JJ,h.len]at hm;exact⟨m,∅,by rw[←VA,Je (Jb.mp e).1];exact e⟩
 ·rw[JE,Vx];refine⟨h.nd,by simp,fun a ha b hb=>?_⟩
  simp at hb;subst hb;exact fun z=>nt (z▸ha)
 ·rcases JI.mp hq with hq|hq
  ·exact h.inn q hq
  ·simp at hq;subst hq;exact⟨ht.1,ht.2,hR⟩
structure Exc (n k:Nat) (R:Int→Int→Prop) (M C:Arcs) (N:Arcs) (last:Int) (i:Nat):Prop where
 nd:(N.map Prod.fst).Nodup
 key:∀q∈N,0≤q.1∧q.1<n
 inn:∀q∈N,q.1≠last→R q.1 q.2∧0≤q.2∧q.2<k
 inj:∀q∈N,∀q'∈N,q.1≠last→q'.1≠last→q.2=q'.2→q.1=q'.1
 all:∀b:Nat,b<k→∃t,(t,(b:Int))∈N∧t≠last
 old:∀i' t b,i'≤i→C[i']?=some (t,b)→∀y,(t,y)∈N↔(t,y)∈M
theorem Exc.start(hM:Mat n k R M){last:Int} (hl:last∉M.map Prod.fst) (i:Nat):Exc n k R M C M last i:=by
 have ne:∀q∈M,q.1≠last:=fun q hq z=>hl (z▸Vg hq)
 exact⟨hM.nd,fun q hq=>⟨(hM.inn q hq).1,(hM.inn q hq).2.1⟩,fun q hq _=>⟨(hM.inn q hq).2.2,hM.val q hq⟩,fun q hq q' hq' _ _ e=>hM.inj q hq q' hq' e,fun b hb=>by
  obtain⟨t,m⟩:=hM.all b hb
  exact⟨t,m,ne _ m⟩,fun _ _ _ _ _ _=>Iff.rfl⟩
theorem Exc.done{N:Arcs}{last:Int}{i:Nat} (h:Exc n k R M C N last i) (hl:0≤last∧last<n) (hR:R last k):Mat n (k+1) R (putA N last k):=by
 refine⟨zM2 h.nd,fun q hq=>?_,fun q hq=>?_,fun q hq q' hq' e=>?_,fun b hb=>?_⟩
 ·rcases(zBL q).mp hq with rfl|⟨h1,h2⟩
  ·exact⟨hl.1,hl.2,hR⟩
  ·exact⟨(h.key q h1).1,(h.key q h1).2,(h.inn q h1 h2).1⟩
 ·rcases(zBL q).mp hq with rfl|⟨h1,h2⟩
  ·exact⟨by show(0:Int)≤(k:Int);omega,by show(k:Int)<_;omega⟩
  ·have:=h.inn q h1 h2;omega
 ·rcases(zBL q).mp hq with rfl|⟨h1,h2⟩
  ·rcases(zBL q').mp hq' with rfl|⟨h3,h4⟩
   ·rfl
   ·have:=h.inn q' h3 h4
    simp only at e;omega
  ·rcases(zBL q').mp hq' with rfl|⟨h3,h4⟩
   ·have:=h.inn q h1 h2
    simp only at e;omega
   ·exact h.inj q h1 q' h3 h2 h4 e
 ·by_cases hk:b=k
  ·subst hk;exact⟨last,(zBL _).mpr (.inl rfl)⟩
  ·obtain⟨t,m,ne⟩:=h.all b ∅;exact⟨t,(zBL _).mpr (.inr ⟨m,ne⟩)⟩
theorem Exc.step{N:Arcs}{last b:Int}{i:Nat} (h:Exc n k R M C N last i) (hM:Mat n k R M) (hC:(C.map Prod.fst).Nodup) (hl:0≤last∧last<n) (hR:R last b) (hi:C[i]?=some (last,b))
  {m:Nat} (hm:m<i){t c:Int} (ht:C[m]?=some (t,c)) (hy:(t,b)∈M) :
  (∀q∈N,q.2=b→q.1=t)∧(t,b)∈N∧Exc n k R M C (putA N last b) t m:=by
 have ne:t≠last:=fun z=>by
  subst z
  have:=zOm hC ht hi
  omega
 have tb:(t,b)∈N:=(h.old m t c ∅ ht b).mpr hy
 have only:∀q∈N,q.2=b→q.1=t:=fun q hq e=>by
  by_cases z:q.1=last
  ·obtain⟨q1,q2⟩:=q;have z:q1=last:=z;have e:q2=b:=e;subst z;subst e
   have:=hM.inj _ ((h.old i _ _ (JH _) hi _).mp hq) _ hy rfl
   exact this
  ·exact h.inj q hq (t,b) tb z ne e
 refine⟨only,tb,zM2 h.nd,fun q hq=>?_,fun q hq n1=>?_,fun q hq q' hq' n1 n2 e=>?_,fun b0 hb=>?_,fun i' t' b' hi' e y=>?_⟩
 ·rcases(zBL q).mp hq with rfl|⟨h1,h2⟩
  ·exact hl
  ·exact h.key q h1
 ·rcases(zBL q).mp hq with rfl|⟨h1,h2⟩
  ·exact⟨hR,hM.val (t,b) hy⟩
  ·exact h.inn q h1 h2
 ·rcases(zBL q).mp hq with rfl|⟨h1,h2⟩
  ·rcases(zBL q').mp hq' with rfl|⟨h3,h4⟩
   ·rfl
   ·exact absurd (only q' h3 e.symm) n2
  ·rcases(zBL q').mp hq' with rfl|⟨h3,h4⟩
   ·exact absurd (only q h1 e) n1
   ·exact h.inj q h1 q' h3 h2 h4 e
 ·obtain⟨t0,m0,n0⟩:=h.all b0 hb
  by_cases z:t0=t
  ·subst z
   have:=zOH h.nd m0 tb rfl
   rw[VY]at this;exact⟨last,(zBL _).mpr (.inl (by rw[this.2])),fun z=>ne z.symm⟩
  ·exact⟨t0,(zBL _).mpr (.inr ⟨m0,n0⟩),z⟩
 ·rw[zBL,←h.old i' t' b' ∅ e y]
  have nt:t'≠last:=fun z=>by
   subst z
   have:=zOm hC e hi
   omega
  constructor
  ·rintro(z|⟨z,_⟩)
   ·rw[VY]at z;exact absurd z.1 nt
   ·exact z
  ·exact fun z=>.inr ⟨z,nt⟩
theorem Agm.none(h:Agm n k R M C T) (hM:Mat n k R M) (hd:∀b∈(k:Int)::T,∀t:Nat,t<n→R t b→(t:Int)∈C.map Prod.fst)
  (π:Int→Int) (l:Nat) (hk:k<l) (h1:∀b:Int,0≤b→b<l→0≤π b∧π b<n∧R (π b) b) (h2:∀b c:Int,0≤b→b<l→0≤c→c<l→π b=π c→b=c):False:=by
 have hb:∀b∈(k:Int)::T,0≤b∧b<(l:Int):=fun b hb=>by
  rcases Jo.mp hb with rfl|hb
  ·omega
  ·have:=h.tval hM hb;omega
 have nd:(((k:Int)::T).map π).Nodup:=by
  have tn:=h.tnd hM;rw[Vp,J4];rw[Vp]at tn;exact VJ (fun{a b} ha hb' ne e=>ne (h2 a b (hb a ha).1 (hb a ha).2 (hb b hb').1 (hb b hb').2 e)) tn
 have:=zA6 _ (C.map Prod.fst) nd fun x hx=>by
  obtain⟨b,hm,rfl⟩:=Jj.mp hx;obtain⟨a1,a2,a3⟩:=h1 b (hb b hm).1 (hb b hm).2
  have:=hd b hm (π b).toNat ∅ (by rw[show((π b).toNat:Int)=π b by omega];exact a3)
  rwa [show((π b).toNat:Int)=π b by omega]at this
 rw[Jc,Jc,JJ,h.len]at this;omega
end
end
section
open Y YZ NS
def zBG:FM:=runF 4 7 (sSeq (sSet 4 (zFK (mVar 2) (mVar 1)))
  (sSeq (zD8 220 (mTst (mBin (vEqB true) (mVar 4) (mVar 0))) (sSeq (sSet 5 (zOP 3 (mBin vIx (mLc (zPy (mVar 3)) (.nm 6) [6] (mTst (mBin (vEqB false) (zJB (mVar 3) (mVar 6)) (mVar 4))) (mVar 6) finP) (mC (.int 0)))))
  (sSeq (zFx (mVar 3) (mVar 1) (mVar 4))
  (sSeq (sSet 1 (mVar 5))
  (sSet 4 (zFK (mVar 2) (mVar 1)))))))
  (sSeq (zFx (mVar 3) (mVar 1) (mVar 4))
  (sRet (mC (.bl true))))))
def exLn:EM:=(zOP 3 (mBin vIx (mLc (zPy (mVar 3)) (.nm 6) [6] (mTst (mBin (vEqB false) (zJB (mVar 3) (mVar 6)) (mVar 4))) (mVar 6) finP) (mC (.int 0))))
def exB:SMm:=(sSeq (sSet 5 exLn) (sSeq (zFx (mVar 3) (mVar 1) (mVar 4)) (sSeq (sSet 1 (mVar 5)) (sSet 4 (zFK (mVar 2) (mVar 1))))))
def zEM:FM:=runF 4 7 (sSeq (sSet 4 (zFK (mVar 2) (mVar 1))) (sSeq (zD8 220 (mTst (mBin (vEqB true) (mVar 4) (mVar 0))) exB) (sSeq (zFx (mVar 3) (mVar 1) (mVar 4)) (sRet (mC (.bl true))))))
theorem zGP:zBG=zEM:=rfl
theorem kys_get2{L:Arcs}{u x:Int} (nd:(L.map Prod.fst).Nodup) (h:(u,x)∈L):dkGet (kys L) (L.map fun q=>P.int q.2) (.inl u)=some (.int x):=by
 unfold kys dkGet
 induction L with
 |nil=>cases h
 |cons q L ih =>
  rw[Jl,JV]at nd;rw[Jl,Jl,JY,VT];rcases Jo.mp h with e|h
  ·subst e;simp
  ·have ne:q.1≠u:=fun z=>nd.1 (z▸Vg h)
   simp only[Sum.inl.injEq,ne,decide_false];exact ih nd.2 h
theorem zHa{α:Type}{p:α→Bool}:∀ {l:List α}{x:α},l.Nodup→x∈l→(∀y∈l,p y=true↔y=x)→l.filter p=[x]
 |[],x,_,h,_=>by cases h
 |a::l,x,nd,h,hp=>by
  rw[JV]at nd
  by_cases e:a=x
  ·subst e;rw[Vv,JW ((hp a Jg).mpr rfl)]
   congr 1
   rw[List.filter_eq_nil_iff];intro y hy z
   have:=(hp y (Jf _ hy)).mp z
   subst this;exact nd.1 hy
  ·rw[Vv,Vh (fun z=>e ((hp a Jg).mp z))]
   exact zHa nd.2 ((Jo.mp h).resolve_left fun z=>e z.symm) fun y hy=>hp y (Jf _ hy)
theorem zS2{N:Arcs}{x0 x1 x4 t:Int}{c0:Cell}{a5 a6:Option W} (nd:(N.map Prod.fst).Nodup) (lN:N.length≤1000) (h1:(t,x4)∈N) (h2:∀q∈N,q.2=x4→q.1=t) :
  exLn [some (.p (.int x0)),some (.p (.int x1)),some (.r 0),some (.r 1),some (.p (.int x4)),a5,a6] [c0,.dk (kys N) (vls N)]=.ok (.p (.int t)) [c0,.dk (kys N) (vls N)]:=by
 have fo:(N.map Prod.fst).filter (fun v=>decide (∃q∈N,q.1=v∧q.2=x4))=[t]:=zHa nd (Vg h1) fun y hy=>by
  rw[Jz];constructor
  ·rintro⟨q,hq,rfl,e⟩;exact h2 q hq e
  ·rintro rfl;exact⟨_,h1,rfl,rfl⟩
 have kl:(kys N).map (fun k=>W.p (keyD k))=(N.map Prod.fst).map fun v=>W.p (.int v):=by
  unfold kys;rw[Jm,Jm];rfl
 have lc:∀σ0:Sg,σ0[3]?=some (some (.p (.fd (kys N) (N.map fun q=>P.int q.2))))→σ0[4]?=some (some (.p (.int x4)))→6<σ0.length →
   lcL (.nm 6) (mTst (mBin (vEqB false) (zJB (mVar 3) (mVar 6)) (mVar 4))) (mVar 6) σ0 ((N.map Prod.fst).map fun v=>W.p (.int v)) []=.ok ((((N.map Prod.fst).filter fun v=>decide (∃q∈N,q.1=v∧q.2=x4)).map P.int).map W.p) []:=fun σ0 e3 e4 l6=>by
  refine zLc (f:=fun v=>W.p (.int v)) (fun v=>decide (∃q∈N,q.1=v∧q.2=x4)) P.int fun v hv=>?_
  obtain⟨⟨q1,q2⟩,hq,rfl⟩:=Jj.mp hv;have gt:=kys_get2 nd hq;have e3':(σ0.set 6 (some (.p (.int q1))))[3]?=some (some (.p (.fd (kys N) (N.map fun q=>P.int q.2)))):=by rw[Jv ∅];exact e3
  have e4':(σ0.set 6 (some (.p (.int q1))))[4]?=some (some (.p (.int x4))):=by rw[Jv ∅];exact e4
  have e6':(σ0.set 6 (some (.p (.int q1))))[6]?=some (some (.p (.int q1))):=by rw[Jw l6]
  refine⟨_,zBl _ _,?_,fun _=>by simp[mVar,e6']⟩
  simp[mVar,e3',e4',e6',gt];rw[Vu,jb,Jz];constructor
  ·intro e;subst e;exact hq
  ·intro m
   have:=zOH nd hq m rfl
   rw[VY]at this;exact this.2
 unfold exLn zOP;simp only[bK,Vo,zGk]
 have hd:(datS [some (.p (.int x0)),some (.p (.int x1)),some (.r 0),some (.r 1),some (.p (.int x4)),a5,a6]).set 3 (some (.p (.fd (kys N) (N.map fun q=>P.int q.2))))=[some (.p (.int x0)),some (.p (.int x1)),none,some (.p (.fd (kys N) (N.map fun q=>P.int q.2))),some (.p (.int x4)),(datS [a5])[0]?.join,(datS [a6])[0]?.join]:=by
  simp[datS]
 rw[hd];generalize (datS [a5])[0]?.join=b5;generalize (datS [a6])[0]?.join=b6;have lc0:=lc [some (.p (.int x0)),some (.p (.int x1)),none,some (.p (.fd (kys N) (N.map fun q=>P.int q.2))),some (.p (.int x4)),b5,none] rfl rfl (by simp)
 rw[fo]at lc0;simp[-List.map_map,mVar,kl,lc0,show N.length≤1000000 by omega,Y.scal]
structure Tra (n k:Nat) (R:Int→Int→Prop) (M C:Arcs):Prop where
 nd:(C.map Prod.fst).Nodup
 inn:∀q∈C,0≤q.1∧q.1<n∧R q.1 q.2
 from_:∀(i:Nat) t b,C[i]?=some (t,b)→b=(k:Int)∨(b≠k∧∃m t' c,m<i∧C[m]?=some (t',c)∧(t',b)∈M)
theorem Agm.tra{n k:Nat}{R:Int→Int→Prop}{M C:Arcs}{T:List Int} (h:Agm n k R M C T) (hM:Mat n k R M){t b:Int} (hb:b∈(k:Int)::T) (nt:t∉C.map Prod.fst) (ht:0≤t∧t<n) (hR:R t b):Tra n k R M (C++[(t,b)]):=by
 have key:∀(i:Nat) (b:Int) (m:Nat),m≤i→((k:Int)::T)[m]?=some b→b=(k:Int)∨(b≠k∧∃m t' c,m<i∧(C++[(t,b)])[m]?=some (t',c)∧(t',b)∈M):=fun i b m hm e=>by
  cases m with
  |zero=>cases e;exact .inl rfl
  |succ m =>
   have e:T[m]?=some b:=e;obtain⟨t',c,h1,h2⟩:=h.at e
   have:=h.tval hM (Ji e)
   exact .inr ⟨∅,m,t',c,∅,by rw[Je (Jb.mp h1).1];exact h1,h2⟩
 refine⟨?_,fun q hq=>?_,fun i t' b' e=>?_⟩
 ·rw[JE,Vx];refine⟨h.nd,by simp,fun a ha b hb=>?_⟩
  simp at hb;subst hb;exact fun z=>nt (z▸ha)
 ·rcases JI.mp hq with hq|hq
  ·exact h.inn q hq
  ·simp at hq;subst hq;exact⟨ht.1,ht.2,hR⟩
 ·by_cases hi:i<C.length
  ·rw[Je hi]at e;obtain⟨m,hm,e2⟩:=h.from_ i _ _ e;cases m with
   |zero=>cases e2;exact .inl rfl
   |succ m =>
    have e2:T[m]?=some b':=e2;obtain⟨t2,c,h1,h2⟩:=h.at e2
    have:=h.tval hM (Ji e2)
    exact .inr ⟨∅,m,t2,c,∅,by rw[Je (Jb.mp h1).1];exact h1,h2⟩
  ·rw[Jq ∅]at e
   have hz:i-C.length=0:=by
    have:=(Jb.mp e).1
    simp at this;omega
   rw[hz]at e;cases e;obtain⟨m,e⟩:=JF hb;have hm:=(Jb.mp e).1;rw[JJ,h.len]at hm;cases m with
   |zero=>cases e;exact .inl rfl
   |succ m =>
    have e2:T[m]?=some b:=e;obtain⟨t2,c,h1,h2⟩:=h.at e2
    have:=h.tval hM (Ji e2)
    exact .inr ⟨∅,m,t2,c,∅,by rw[Je (Jb.mp h1).1];exact h1,h2⟩
def ExR(n k:Nat) (R:Int→Int→Prop) (C:Arcs) (res:Res W):Prop:=match res with
 | .ok (.p (.bl true)) st=>∃N,Mat n (k+1) R N∧st=[.dk (kys C) (vls C),.dk (kys N) (vls N)]
 |_=>False
theorem zSR{n k:Nat}{R:Int→Int→Prop}{M C:Arcs}{last b:Int}{i:Nat} (hn:n≤200) (hM:Mat n k R M) (hT:Tra n k R M C) (hl:last∉M.map Prod.fst) (hi:C[i]?=some (last,b)) :
  ExR n k R C (zBG [.p (.int k),.p (.int last),.r 0,.r 1] [.dk (kys C) (vls C),.dk (kys M) (vls M)]):=by
 have lC:=zIm hT.nd fun q hq=>⟨(hT.inn q hq).1,(hT.inn q hq).2.1⟩
 have li:=(Jb.mp hi).1;have g0:=zKg hT.nd (Ji hi);rw[zGP];simp only[zEM,zAQ];simp[zIf _ _ _ g0];refine zC7 (fun res=>ExR n k R C (runR (res.then _))) (fun m σ st=>∃last b N a5 a6,C[m]?=some (last,b)∧Exc n k R M C N last m∧σ=[some (.p (.int (k:Int))),some (.p (.int last)),some (.r 0),some (.r 1),some (.p (.int b)),a5,a6]∧st=[.dk (kys C) (vls C),.dk (kys N) (vls N)]) i ∅ ⟨last,b,M,none,none,hi,Exc.start hM hl i,rfl,rfl⟩ ?_
 rintro m σ st ⟨last,b,N,a5,a6,hm,hE,rfl,rfl⟩;have lN:=zIm hE.nd hE.key;have kN:=kys_len N;obtain⟨i1,i2,i3⟩:=hT.inn _ (Ji hm);rcases hT.from_ m _ _ hm with rfl|⟨ne,m',t,c,hmm,hc,hy⟩
 ·refine .inl ⟨[.dk (kys C) (vls C),.dk (kys N) (vls N)],by simp,?_⟩
  simp[zLR,kN,show N.length<1000000 by omega,ExR]
  exact⟨_,hE.done ⟨i1,i2⟩ i3,rfl,rfl⟩
 ·refine .inr ⟨[.dk (kys C) (vls C),.dk (kys N) (vls N)],m',by simp[ne],hmm,?_⟩
  obtain⟨only,tb,hE2⟩:=hE.step hM hT.nd ⟨i1,i2⟩ i3 hm hmm hc hy;have g1:=zKg hT.nd (Ji hc);have ln:exLn [some (.p (.int (k:Int))),some (.p (.int last)),some (.r 0),some (.r 1),some (.p (.int b)),a5,a6] [.dk (kys C) (vls C),.dk (kys N) (vls N)]=.ok (.p (.int t)) [.dk (kys C) (vls C),.dk (kys N) (vls N)]:=zS2 hE.nd ∅ tb only
  conv=>arg 3;simp[exB,ln,zLR,kN,show N.length<1000000 by omega,zIf _ _ _ g1]
  exact⟨_,_,_,_,_,hc,hE2,rfl,rfl⟩
theorem zPu{n k:Nat}{R:Int→Int→Prop}{M C:Arcs}{last b:Int}{i:Nat} (hn:n≤200) (hM:Mat n k R M) (hT:Tra n k R M C) (hl:last∉M.map Prod.fst) (hi:C[i]?=some (last,b)) (c1:Cell) :
  ∃N,Mat n (k+1) R N∧zAM zBG [.p (.int k),.p (.int last),.r 2,.r 0] [.dk (kys M) (vls M),c1,.dk (kys C) (vls C)]=.ok (.p (.bl true)) [.dk (kys N) (vls N),c1,.dk (kys C) (vls C)]:=by
 have pl:∀L:Arcs,zAx (.dk (kys L) (vls L))=true:=fun L=>by simp[zAx,content,zGk]
 have h:=zSR hn hM hT hl hi;unfold ExR at h;split at h
 case h_2=>exact h.elim
 rename_i st e
 obtain⟨N,h1,rfl⟩:=h;refine⟨N,h1,?_⟩;unfold zAM;simp[Y.argRefs,Y.argIn,Y.getCells,pl,e,Y.callEnd,Y.putCells]
def zAd:FM:=runF 5 9 (sSeq (zJ0 5 6 7 %[(zDB %[(mVar 3)|0]),zGe,(mC (.int 0))|0])
  (sSeq (zD8 220 (mTst (mBin vLt (mVar 7) (zAH vLen %[(mVar 5)|0]))) (sSeq (sFor (zBO (zAH vLen %[(mVar 1)|0])) (.nm 8) (sIf (zEX (mTst (mBin (vInK true) (mVar 8) (mVar 6))) (mTst (mBin (vInN false) (mTup %[(mBin vIx (mVar 0) (mBin vIx (mVar 5) (mVar 7))),(mBin vIx (mVar 1) (mVar 8))|0]) (mVar 2)))) (sSeq (zFx (mVar 6) (mVar 8) (mBin vIx (mVar 5) (mVar 7)))
  (sSeq (sIf (mTst (mBin (vInK true) (mVar 8) (mVar 4))) (sRet (zAF zBG %[(mVar 3),(mVar 8),(mVar 6),(mVar 4)|0])) sNx)
  (zBo (mBm "list" zAs (mVar 5) %[(zFK (mVar 4) (mVar 8))|0])))) sNx))
  (sAug 7 zIO (mC (.int 1)))))
  (sRet (mC (.bl false)))))
def fgIf:SMm:=(sIf (zEX (mTst (mBin (vInK true) (mVar 8) (mVar 6))) (mTst (mBin (vInN false) (mTup %[(mBin vIx (mVar 0) (mBin vIx (mVar 5) (mVar 7))),(mBin vIx (mVar 1) (mVar 8))|0]) (mVar 2)))) (sSeq (zFx (mVar 6) (mVar 8) (mBin vIx (mVar 5) (mVar 7))) (sSeq (sIf (mTst (mBin (vInK true) (mVar 8) (mVar 4))) (sRet (zAF zBG %[(mVar 3),(mVar 8),(mVar 6),(mVar 4)|0])) sNx) (zBo (mBm "list" zAs (mVar 5) %[(zFK (mVar 4) (mVar 8))|0])))) sNx)
def fgB:SMm:=(sSeq (sFor (zBO (zAH vLen %[(mVar 1)|0])) (.nm 8) fgIf) (sAug 7 zIO (mC (.int 1))))
def zC9:FM:=runF 5 9 (sSeq (zJ0 5 6 7 %[(zDB %[(mVar 3)|0]),zGe,(mC (.int 0))|0]) (sSeq (zD8 220 (mTst (mBin vLt (mVar 7) (zAH vLen %[(mVar 5)|0]))) fgB) (sRet (mC (.bl false)))))
theorem zEs:zAd=zC9:=rfl
def lnW(T:List Int):List W:=T.map fun y=>.p (.int y)
theorem zON(T:List Int):(lnW T).length=T.length:=by unfold lnW;rw[Jc]
theorem zSF(T:List Int) (y:Int):lnW T++[.p (.int y)]=lnW (T++[y]):=by unfold lnW;rw[JE];rfl
theorem lnW_at{T:List Int}{j:Nat}{b:Int} (h:T[j]?=some b):L2.atI (lnW T) (j:Int)=some (.p (.int b)):=by
 unfold lnW;rw[zLe,Jd,h];rfl
theorem zSK{N:List Int}{b:Int} (h0:0≤b) (h:b<N.length):L2.atI (N.map P.int) b=some (.int (at0 N b)):=by
 have:=zJ4 (N:=N) (v:=b.toNat) ∅
 rwa [show((b.toNat:Nat):Int)=b by omega]at this
theorem zQB{N:List Int}{b:Int} (h0:0≤b) (h:b<N.length):at0 N b∈N:=by
 have:=zKJ (N:=N) (v:=b.toNat) ∅
 rwa [show((b.toNat:Nat):Int)=b by omega]at this
def RK(K:Int→Int→Bool) (l r:List Int) (t b:Int):Prop:=K (at0 l b) (at0 r t)=true
def NoP(n k:Nat) (R:Int→Int→Prop):Prop:=∀(π:Int→Int) (l:Nat),k<l→(∀b:Int,0≤b→b<l→0≤π b∧π b<n∧R (π b) b)→(∀b c:Int,0≤b→b<l→0≤c→c<l→π b=π c→b=c)→False
def FgR(n k:Nat) (R:Int→Int→Prop) (M:Arcs) (res:Res W):Prop:=match res with
 | .ok (.p (.bl true)) (c::_)=>∃N,Mat n (k+1) R N∧c=.dk (kys N) (vls N)
 | .ok (.p (.bl false)) (c::_)=>NoP n k R∧c=.dk (kys M) (vls M)
 |_=>False
theorem zRO{l r:List Int}{kn:P}{K:Int→Int→Bool} (hin:∀x∈l,∀y∈r,∀st,vInN false (.p (.tup [.int x,.int y])) (.p kn) st=.ok (.p (.bl (K x y))) st) (hl:l.length≤200) (hr:r.length≤200)
  {M:Arcs}{k:Nat} (hM:Mat r.length k (RK K l r) M) (hk:k<l.length):FgR r.length k (RK K l r) M (zAd [.p (.lst (l.map P.int)),.p (.lst (r.map P.int)),.p kn,.p (.int (k:Int)),.r 0] [.dk (kys M) (vls M)]):=by
 have d0:∀(σ:Sg) st,zGe σ st=.ok (.r st.length) (st++[.dk [] []]):=fun _ _=>rfl
 rw[zEs];simp only[zC9,zAQ];simp[d0]
 refine zC7 (fun res=>FgR r.length k (RK K l r) M (runR (res.then _))) (fun m σ st=>∃(C:Arcs) (T:List Int) (j:Nat) (a8:Option W),Agm r.length k (RK K l r) M C T∧j≤T.length+1∧m+j=k+1∧(∀i:Nat,i<j→∀b,((k:Int)::T)[i]?=some b→∀t:Nat,t<r.length→RK K l r t b→(t:Int)∈C.map Prod.fst) ∧
  σ=[some (.p (.lst (l.map P.int))),some (.p (.lst (r.map P.int))),some (.p kn),some (.p (.int (k:Int))),some (.r 0),some (.r 1),some (.r 2),some (.p (.int (j:Int))),a8]∧st=[.dk (kys M) (vls M),.lst (lnW ((k:Int)::T)),.dk (kys C) (vls C)]) (k+1) ∅ ⟨[],[],0,none,Agm.nil _ _ _ _,by simp,by simp,fun i h=>by omega,rfl,rfl⟩ ?_
 rintro m σ st ⟨C,T,j,a8,hA,hj,hmj,hd,rfl,rfl⟩;have lT:=hA.tlen hM;have lnl:(lnW ((k:Int)::T)).length=T.length+1:=by rw[zON];rfl
 by_cases hjl:j<T.length+1
 case neg =>
  refine .inl ⟨[.dk (kys M) (vls M),.lst (lnW ((k:Int)::T)),.dk (kys C) (vls C)],by simp[lnl,show T.length+1≤1000000 by omega];omega,?_⟩
  simp[FgR];intro π l' hkl h1 h2;refine hA.none hM (fun b hb t ht hR=>?_) π l' hkl h1 h2
  obtain⟨i,e⟩:=JF hb;have hi:=(Jb.mp e).1;rw[JJ]at hi;exact hd i ∅ b e t ht hR
 refine .inr ⟨[.dk (kys M) (vls M),.lst (lnW ((k:Int)::T)),.dk (kys C) (vls C)],k-j,by simp[lnl,show T.length+1≤1000000 by omega];omega,∅,?_⟩
 obtain⟨b,hb⟩:∃b,((k:Int)::T)[j]?=some b:=⟨_,Ja (by rw[JJ];exact hjl)⟩
 have bv:∀ {T':List Int}{C':Arcs}{b:Int},Agm r.length k (RK K l r) M C' T'→b∈(k:Int)::T'→0≤b∧b<(l.length:Int):=fun h hb=>by
  rcases Jo.mp hb with rfl|hb
  ·omega
  ·have:=h.tval hM hb;omega
 obtain⟨b0,b1⟩:=bv hA (Ji hb);have eb:=zSK b0 b1
 conv=>arg 3;simp[fgB,show(r.length:Int)≤1000000 by omega,show(-1000000:Int)≤r.length by omega,-zAn,-zDL]
 rw[zJP]
 refine zAm (fun res=>Sq _ _ (res.then _)) (fun i σ st=>∃(C:Arcs) (T:List Int) (a8:Option W),Agm r.length k (RK K l r) M C T∧((k:Int)::T)[j]?=some b∧(∀i:Nat,i<j→∀b,((k:Int)::T)[i]?=some b→∀t:Nat,t<r.length→RK K l r t b→(t:Int)∈C.map Prod.fst)∧(∀t:Nat,t<i→RK K l r t b→(t:Int)∈C.map Prod.fst) ∧
  σ=[some (.p (.lst (l.map P.int))),some (.p (.lst (r.map P.int))),some (.p kn),some (.p (.int (k:Int))),some (.r 0),some (.r 1),some (.r 2),some (.p (.int (j:Int))),a8]∧st=[.dk (kys M) (vls M),.lst (lnW ((k:Int)::T)),.dk (kys C) (vls C)]) ⟨C,T,a8,hA,hb,hd,fun t h=>by omega,rfl,rfl⟩ ?_ ?_
 ·rintro i w σ st hw ⟨C,T,a8,hA,hb,hd,hdb,rfl,rfl⟩;rw[Jd]at hw;obtain⟨i',hi',rfl⟩:=Jx.mp hw
  have hir:i<r.length:=by
   have:=(Jb.mp hi').1
   simpa using this
  obtain rfl:i=i':=by
   obtain⟨_,e⟩:=Jb.mp hi';rw[YI]at e;exact e
  have ei:=zJ4 hir;have hh:=zGB C (i:Int);have kin:=hin _ (zQB b0 b1) _ (zKJ hir);have lb:=lnW_at hb;have kl:=kys_len C;have lC:=zIm hA.nd fun q hq=>⟨(hA.inn q hq).1,(hA.inn q hq).2.1⟩
  have lT:=hA.tlen hM;have lnl:(lnW ((k:Int)::T)).length=T.length+1:=by rw[zON];rfl
  have step:∀ {C':Arcs},(∀x∈C.map Prod.fst,x∈C'.map Prod.fst)→(RK K l r i b→(i:Int)∈C'.map Prod.fst)→∀t:Nat,t<i+1→RK K l r t b→(t:Int)∈C'.map Prod.fst:=fun hs hn t ht hR=>by
   by_cases z:t<i
   ·exact hs _ (hdb t z hR)
   ·obtain rfl:t=i:=by omega
    exact hn hR
  by_cases hc:(i:Int)∈C.map Prod.fst
  ·rw[JD hc]at hh
   conv=>arg 3;simp[fgIf,hh]
   exact⟨C,T,_,hA,hb,hd,step (fun _ h=>h) fun _=>hc,rfl,rfl⟩
  ·rw[JM hc]at hh
   by_cases hK:K (at0 l b) (at0 r (i:Int))=true
   case neg =>
    rw[Yo.mpr hK]at kin
    conv=>arg 3;simp[fgIf,hh,lb,eb,ei,kin]
    exact⟨C,T,_,hA,hb,hd,step (fun _ h=>h) fun h=>absurd h hK,rfl,rfl⟩
   rw[hK]at kin;have hput:=zM8 (x:=b) hc
   by_cases hm:(i:Int)∈M.map Prod.fst
   ·have hL:=zGB M (i:Int);rw[JD hm]at hL;obtain⟨⟨q1,q2⟩,hq,e⟩:=Jj.mp hm;have e:q1=(i:Int):=e;subst e;have gt:=zKg hM.nd hq
    conv=>arg 3;simp[fgIf,hh,lb,eb,ei,kin,kl,show C.length<1000000 by omega,hput,hL,zIf _ _ _ gt,lnl,show T.length+1<1000000 by omega]
    refine⟨C++[((i:Int),b)],T++[q2],_,hA.more (Ji hb) hc ⟨∅,∅⟩ hK hq,?_,fun i' hi' b' e' t ht hR=>?_,step (fun x h=>by rw[JE];exact JI.mpr (.inl h)) (fun _=>by simp),rfl,?_⟩
    ·rw[←VA,Je (Jb.mp hb).1];exact hb
    ·have hj:=(Jb.mp hb).1;rw[←VA,Je ∅]at e';rw[JE];exact JI.mpr (.inl (hd i' hi' b' e' t ht hR))
    ·rw[←VA,←zSF]
   ·have hL:=zGB M (i:Int);rw[JM hm]at hL;have hT:=hA.tra hM (Ji hb) hc ⟨∅,∅⟩ hK;obtain⟨N,hN,ex⟩:=zPu (i:=C.length) hr hM hT hm (by rw[Jq (JH _),Nat.sub_self];rfl) (.lst (lnW ((k:Int)::T)))
    conv=>arg 3;simp[fgIf,hh,lb,eb,ei,kin,kl,show C.length<1000000 by omega,hput,hL,ex]
    show Sq _ _ _;simp[Sq,FgR];exact⟨N,hN,rfl,rfl⟩
 ·rintro σ st ⟨C,T,a8,hA,hb,hd,hdb,rfl,rfl⟩;rw[Jc,JN]at hdb
  conv=>arg 3;simp
  have hj:=(Jb.mp hb).1;rw[JJ]at hj;refine⟨C,T,j+1,_,hA,∅,∅,fun i hi b' e t ht hR=>?_,rfl,rfl⟩
  by_cases z:i<j
  ·exact hd i z b' e t ht hR
  ·obtain rfl:i=j:=by omega
   rw[hb]at e;cases e;exact hdb t ht hR
end
section
open Y YZ NS
def AB(w:Wy) (n:Nat):Prop:=n≤42∧(w≠.two→n≤21)
theorem zPX{w:Wy}{s:Str}{A:Arcs} (h:Wof w s A) (u v:Int):Wof w s (A++[(u,v),(v,u)]):=by
 cases w with
 |heard=>exact h
 |counted=>exact h
 |marked=>exact h
 |two =>
  refine⟨h.1,?_⟩;rw[JE];exact List.Perm.append h.2 (List.Perm.swap _ _ _)
def DrwB(w:Wy) (v:P):Prop:=∃s A,v=wP s A∧Wb s A∧s.length≤9∧AB w A.length∧Wof w s A
theorem zJJ{w:Wy} (hw:w≠.marked){s:Str} (h0:0<s.length) (h1:s.length≤9) (hs:∀c∈s.cps.toList,c=97∨c=98) (both:Bool) (hb:w=.two→both=true):DrwB w (wP s (rgA s.length both s.length)):=by
 have n9:109∉s.cps.toList:=fun h=>by rcases hs _ h with h|h<;>omega
 have hl:=zGF s.length both s.length;refine⟨s,_,rfl,⟨h0,fun c hc=>?_,zHw h0 both,zF4 h0 both⟩,h1,⟨∅,fun _=>by omega⟩,?_⟩
 ·rcases hs c hc with h|h
  ·exact .inl h
  ·exact .inr (.inl h)
 ·cases w with
  |marked=>exact absurd rfl hw
  |two=>rw[hb rfl];exact⟨n9,zSL _ _⟩
  |heard=>exact n9
  |counted=>exact n9
theorem zRf(w:Wy) (hw:w≠.marked){c:Cell} (hc:GB c){row:Str} (r0:0<row.length) (r1:row.length≤3) (hr:∀c∈row.cps.toList,c=97∨c=98) :
    Gb (DrwB w) (runR (evR [some (.r 0),some (.p (.str w.s)),some (.p (.bl (bth w))),some (.p (.str row)),none,none,none,none,none,none,none] [c])):=by
  obtain⟨_,c1,e1,hc1,s,A,rfl,hW,hs,hA,hA2,hof⟩:=(zD1 .counted (most:=3) (!0) (!0)).call2 hc [];obtain⟨_,c2,e2,hc2,k,rfl,k0,k1⟩:=(zAk (n:=2) ∅ (zAT ∅ ∅)).call1 hc1 [];have hA2:=hA2 (by simp)
  obtain⟨n,hn⟩:∃n:Nat,(n:Int)=2+k:=⟨(2+k).toNat,∅⟩;have hn1:n≤3:=by omega
  have hn0:0<n:=by omega
  simp only[Wy.s]at e1
  obtain⟨c3,xs,hc3,lx,hx,e3⟩:=zLy (e:=zAF zAG %[(mVar 0),(mC (.int 3))|0]) (R:=fun x=>∃k,x=.int k∧(0≤k∧k<3)) (t:=.nm 8) (σ:=[some (.r 0),some (.p (.str w.s)),some (.p (.bl (bth w))),some (.p (.str row)),some (.p (wP s A)),some (.p (.int n)),none,none,none,none,none]) (rest:=[]) (l:=A.map (W.p∘tupP)) hc2 (fun w hw=>⟨_,zBl _ _,fun c hc=>by
     obtain⟨x,c',e,hc',hx⟩:=(zAk (n:=3) ∅ (zAT ∅ ∅)).call1 hc []
     exact⟨x,c',by simp[e],hc',hx⟩⟩)
  obtain⟨Z,rfl,hZ⟩:=ints_of hx;have lZ:Z.length=A.length:=by simpa using lx
  have e4:=zFN (s:=s) (A:=A) (Z:=Z) (k:=n) ∅ hW.inn lZ ∅ hn0 ∅ [c3];have lS:=zLv s n
  have lL:(lfA n (A.zip Z)).length≤7*3:=by
    rw[zIE];exact VQ (by rw[Yg];omega) hn1
  have iL:InN (repS s n).length (lfA n (A.zip Z)):=by rw[lS];exact zNV hW.inn hn0
  have s9:(repS s n).length≤3*3:=by rw[lS];exact VQ ∅ hn1
  have s0:0<(repS s n).length:=by rw[lS];exact Nat.mul_pos hW.n0 hn0
  have sc:∀c∈(repS s n).cps.toList,c∈s.cps.toList:=fun c hc=>by
    rw[zK7]at hc;obtain⟨d,hd,hc⟩:=Yu.mp hc;rw[(bj.mp hc).2];exact hd
  have nof:109∉s.cps.toList:=hof;have m1:A.length≤1000000:=by omega
  have m2:(repS s n).length≤1000000:=by omega
  have m3:(lfA n (A.zip Z)).length+(lfA n (A.zip Z)).length≤1000000:=by omega
  have m4:(lfA n (A.zip Z)).length≤1000000:=by omega
  have er:=zGc (s:=row) r0 ∅ true [c3];have hring:=zJJ hw r0 ∅ hr true (fun _=>rfl)
  unfold evR;cases w with
  |marked=>exact absurd rfl hw
  |two =>
    simp only[bth,Wy.s]at e3 ⊢;have sw:=zIY (A:=lfA n (A.zip Z)) (st:=[c3]) (σ:=[some (.r 0),some (.p (.str (Str.ofString "two-way"))),some (.p (.bl true)),some (.p (.str row)),some (.p (wP s A)),some (.p (.int n)),some (.p (wP (repS s n) (lfA n (A.zip Z)))),none,none,none,none]) 9 10 (!0) (by simp) (by simp)
    have iB:InN (repS s n).length (lfA n (A.zip Z)++(lfA n (A.zip Z)).map swp):=fun q hq=>by
      rcases JI.mp hq with hq|hq
      · exact iL q hq
      · exact iL.swp q hq
    obtain⟨kc,hkc,e5⟩:=zCm s0 ∅ iB (by rw[Ju,Jc];omega)
    have e5:=e5 [c3];simp only[JE,Jm]at e5;simp only[wP]at e1 e3 e4 sw
    conv=>arg 2;simp[e1,e2,←hn,e3,e4,sw,m1,m2,m3,m4,wP,e5]
    cases kc with
    |true =>
      have hk:=hkc.mp rfl;simp[wP,hc3];refine⟨repS s n,lfA n (A.zip Z)++(lfA n (A.zip Z)).map swp,by simp[wP],⟨s0,fun c hc=>hW.ch c (sc c hc),iB,hk⟩,∅,⟨by rw[Ju,Jc];omega,fun h=>absurd rfl h⟩,fun h=>nof (sc _ h),?_⟩
      rw[JE,Jm,show swp∘swp=id from rfl,List.map_id]
      exact List.perm_append_comm
    |false =>
      conv=>arg 2;simp[er]
      rw[zPB];exact⟨hc3,hring⟩
  |_ =>
    simp only[bth,Wy.s]at e3 ⊢;obtain⟨kc,hkc,e5⟩:=zCm s0 ∅ iL ∅;have e5:=e5 [c3];simp only[wP]at e1 e3 e4
    conv=>arg 2;simp[e1,e2,←hn,e3,e4,m1,m2,m3,m4,wP,e5]
    cases kc with
    |true =>
      have hk:=hkc.mp rfl;simp[hc3];exact⟨repS s n,lfA n (A.zip Z),rfl,⟨s0,fun c hc=>hW.ch c (sc c hc),iL,hk⟩,∅,⟨∅,fun _=>by omega⟩,fun h=>nof (sc _ h)⟩
    |false =>
      simp[hc3];exact⟨s,A,rfl,hW,∅,⟨∅,fun _=>by omega⟩,nof⟩
theorem zFj(w:Wy) (hw:w≠.marked):Bg zCc [.str w.s] (DrwB w):=by
  intro c hc;obtain⟨_,c1,e1,hc1,k,rfl,k0,k1⟩:=(zAk (n:=3) ∅ (zAT ∅ ∅)).call1 hc [];obtain⟨m,hm⟩:∃m:Nat,(m:Int)=1+k:=⟨(1+k).toNat,∅⟩
  obtain⟨c2,xs,hc2,lx,hx,e2⟩:=zLy (e:=zAF zAW %[(mVar 0),(mC (.str "aab"))|0]) (R:=fun x=>∃c,(c=97∨c=98)∧x=chP c) (t:=.nm 7) (σ:=[some (.r 0),some (.p (.str w.s)),some (.p (.bl (bth w))),none,none,none,none,none,none,none,none]) (rest:=[]) (l:=rngL 0 m) hc1 (fun w hw=>⟨_,zBl _ _,fun c hc=>by
     obtain⟨x,c',e,hc',d,hd,rfl⟩:=(zI6 (s:=Str.ofString "aab") (!0) (!0)).call1 hc []
     exact⟨chP d,c',by simp[e],hc',d,(by have h:d∈[97,97,98]:=hd;simp at h;omega),rfl⟩⟩)
  obtain⟨ls,rfl,hls⟩:=chs_of hx;have ll:ls.length=m:=by rw[Jc,zCg]at lx;exact lx
  have sm:=zH2 ls;rw[Jm]at sm;have hcp:(sOf ls).cps.toList=ls:=by simp[sOf]
  have r0:0<(sOf ls).length:=by rw[zEf];omega
  have r1:(sOf ls).length≤3:=by rw[zEf];omega
  have hr:∀c∈(sOf ls).cps.toList,c=97∨c=98:=by rw[hcp];exact hls
  obtain⟨_,c3,e3,hc3,j,rfl,j0,j1⟩:=(zAk (n:=2) ∅ (zAT ∅ ∅)).call1 hc2 [];obtain⟨_,c4,e4,hc4,i,rfl,i0,i1⟩:=(zAk (n:=3) ∅ (zAT ∅ ∅)).call1 hc3 [];obtain⟨q,hq⟩:∃q:Nat,(q:Int)=1+i:=⟨(1+i).toNat,∅⟩;have ev:=zRf w hw hc3 r0 r1 hr;have lr:=zHc (sOf ls) q;have rl:(zCL (sOf ls) q).length≤3*3:=by rw[lr];exact VQ ∅ r1
  have rl0:0<(zCL (sOf ls) q).length:=by rw[lr];exact Nat.mul_pos ∅ r0
  have er:=zGc rl0 ∅ (bth w) [c4]
  have dr:=zJJ hw rl0 ∅ (fun c hc=>by
    rw[zMA]at hc;obtain⟨l,hl,hc⟩:=List.mem_flatten.mp hc;rw[(bj.mp hl).2]at hc
    exact hr c hc) (bth w) (fun h=>by rw[h];rfl)
  have q1:(q:Int)≤1000:=by omega
  have q2:(0:Int)≤q:=by omega
  have m1:(m:Int)≤1000000:=by omega
  have m2:(-1000000:Int)≤m:=by omega
  have m3:m≤1000000:=by omega
  have m4:ls.length≤1000000:=by omega
  have m5:(sOf ls).length≤1000:=by omega
  rw[zKa]
  by_cases hj:j=0
  · subst hj
    cases w with
    |marked=>exact absurd rfl hw
    |_ =>
      simp only[bth,Wy.s]at e2 er dr
      conv=>arg 2;simp[Wy.s,zAQ,e1,←hm,m1,m2,m3,e2,zE6,sm,m4,zEO,e3,e4,←hq,q1,m5,er]
      rw[zPB];exact⟨hc4,dr⟩
  · cases w with
    |marked=>exact absurd rfl hw
    |_ =>
      simp only[bth,Wy.s]at e2 ev
      conv=>arg 2;simp[Wy.s,zAQ,e1,←hm,m1,m2,m3,e2,zE6,sm,m4,zEO,e3,hj]
      exact ev
theorem zIQ(w:Wy):Bg zBX [.str w.s] (DrwB w):=by
 intro c hc
 have hm:∀c,GB c→∃v c',zAM zA9 [.r 0,.p (.str w.s),.p (.int 6)] [c]=.ok (.p v) [c']∧GB c'∧DrwB w v:=fun c hc=>by
  obtain⟨_,c1,e1,hc1,s,A,rfl,hW,hs,hA,hA2,hof⟩:=(zD1 w (most:=6) (!0) (!0)).call2 hc [];exact⟨_,c1,e1,hc1,s,A,rfl,hW,∅,⟨∅,fun h=>by have:=hA2 h;omega⟩,hof⟩
 by_cases hw:w=.marked
 ·subst hw;obtain⟨v,c1,e1,hc1,hv⟩:=hm c hc;simp only[Wy.s]at e1;simp[zBX,zAQ,Wy.s,e1,hc1,hv]
 ·obtain⟨_,c1,e1,hc1,k,rfl,k0,k1⟩:=(zAk (n:=2) ∅ (zAT ∅ ∅)).call1 hc [];obtain⟨v,c2,e2,hc2,hv⟩:=hm c1 hc1;obtain⟨v3,c3,e3,hc3,hv3⟩:=(zFj w hw).call1 hc1 []
  by_cases hk:k=0
  ·subst hk;cases w with
   |marked=>exact absurd rfl hw
   |_ =>
    simp only[Wy.s]at e2 e3;simp[zBX,zAQ,Wy.s,e1,e3,hc3,hv3]
  ·cases w with
   |marked=>exact absurd rfl hw
   |_ =>
    simp only[Wy.s]at e2 e3;simp[zBX,zAQ,Wy.s,e1,e2,hk,hc2,hv]
def KnB(w:Wy) (v:P):Prop:=∃s A,v=wP s A∧Wb s A∧s.length≤12∧A.length<64∧Wof w s A
theorem zHX{w:Wy}{s:Str}{A:Arcs} (hW:Wb s A) (hs:s.length≤9) (hl:A.length≤42) (hof:Wof w s A){o:List Int} (ho:Ord s.length o):(KnB w) (wP (mv o s) (mA o A)) :=
 ⟨_,_,rfl,Ord.wb hW ho,by rw[zQ2 ho];omega,by unfold mA;rw[Jc];omega,Wof_mv hof (List.Perm.refl _) ho⟩
theorem zJw(w:Wy){s:Str}{A:Arcs} (hW:Wb s A) (hs:s.length≤9) (hlB:AB w A.length) (hof:Wof w s A):Bg zDU [wP s A,.str w.s] (KnB w):=by
  intro c hc;have hl:=hlB.1;have ls:(s.length:Int)≤1000000:=by omega
  have ls2:s.length≤1000000:=by omega
  have la:A.length≤1000000:=by omega
  have x0:=wp0 s A;have x1:=wp1 s A
  have mvd:∀c,GB c→∃c' o,GB c'∧Ord s.length o∧zAM zAh [.r 0,.p (.lst ((List.range s.length).map fun(i:Nat)=>P.int (i:Int)))] [c]=.ok (.p (.lst (o.map P.int))) [c']∧∀st,zAM zCE [.p (wP s A),.p (.lst (o.map P.int))] st=.ok (.p (wP (mv o s) (mA o A))) st:=fun c hc=>by
    obtain⟨c',o,hc',ho,e⟩:=ord_bg (n:=s.length) ∅ hc;exact⟨c',o,hc',ho,e,fun st=>zQF hW.inn ∅ ∅ ho st⟩
  by_cases h6:6<s.length
  · obtain⟨c1,o,hc1,ho,e1,e2⟩:=mvd c hc
    have h6':(6:Int)<s.length:=by omega
    simp[zIo,zAQ,x0,ls2,ls,h6',e1,e2,hc1,zHX hW hs hl hof ho]
  have h6':¬(6:Int)<s.length:=by omega
  obtain⟨_,c1,e1,hc1,k,rfl,k0,k1⟩:=(zAk (n:=3) ∅ (zAT ∅ ∅)).call1 hc []
  by_cases hk:k=0
  · obtain⟨c2,o,hc2,ho,e2,e3⟩:=mvd c1 hc1
    simp[zIo,zAQ,x0,ls2,ls,h6',e1,hk,e2,e3,hc2,zHX hW hs hl hof ho]
  obtain⟨_,c2,e2,hc2,j,rfl,j0,j1⟩:=(zAk (n:=2) ∅ (zAT ∅ ∅)).call1 hc1 [];obtain⟨_,c2',e2',hc2',j',rfl,j0',j1'⟩:=(zAk (n:=2) ∅ (zAT ∅ ∅)).call1 hc2 []
  have tail:∀(σ4 σ5:Option W),Gb (KnB w) (runR (kinT [some (.r 0),some (.p (wP s A)),some (.p (.str w.s)),none,σ4,σ5] [c2])):=by
    intro σ4 σ5
    by_cases hj:j'=0
    · obtain⟨v,c3,e3,hc3,sd,Ad,rfl,hWd,hsd,hld,hdof⟩:=(zIQ w).call1 hc2' []
      have:(KnB w) (wP sd Ad):=⟨sd,Ad,rfl,hWd,∅,by have:=hld.1;omega,hdof⟩
      simp[kinT,e2',hj,e3,hc3,this]
    · have hn:(0:Int)<s.length:=by have:=hW.n0;omega
      obtain⟨_,c3,e3,hc3,u,rfl,u0,u1⟩:=(zAk (n:=(s.length:Int)) hn (zAT ∅ ∅)).call1 hc2' [];obtain⟨_,c4,e4,hc4,v,rfl,v0,v1⟩:=(zAk (n:=(s.length:Int)) hn (zAT ∅ ∅)).call1 hc3 []
      have:(KnB w) (.tup [.str s,.lst (A.map tupP++[tupP (u,v),tupP (v,u)])]):=by
        refine⟨s,A++[(u,v),(v,u)],by simp[wP],hW.more fun q hq=>?_,∅,by simp;omega,zPX hof u v⟩
        simp at hq;rcases hq with rfl|rfl
        · exact⟨u0,u1,v0,v1⟩
        · exact⟨v0,v1,u0,u1⟩
      simp only[tupP]at this;simp[kinT,e2',hj,x0,x1,ls,ls2,e3,e4,la,show A.length+2≤1000000 by omega,hc4]
      exact this
  by_cases hj:¬j=0
  · conv=>arg 2;simp[zIo,zAQ,x0,ls2,ls,h6',e1,hk,e2,hj]
    exact tail none none
  have hj:j=0:=Yq hj
  have lft:(w=.heard∨w=.counted)→Gb (KnB w) (runR ((kinL [some (.r 0),some (.p (wP s A)),some (.p (.str w.s)),none,none,none] [c2]).then kinT)):=by
    intro hwy;have h21:A.length≤21:=hlB.2 (by rcases hwy with rfl|rfl<;>simp)
    have n9:109∉s.cps.toList:=by rcases hwy with rfl|rfl<;>exact hof
    obtain⟨c3,xs,hc3,lx,hx,e3⟩:=zLy (e:=zAF zAG %[(mVar 0),(mC (.int 2))|0]) (R:=fun x=>∃k,x=.int k∧(0≤k∧k<2)) (t:=.nm 5) (σ:=[some (.r 0),some (.p (wP s A)),some (.p (.str w.s)),none,none,none]) (rest:=[]) (l:=A.map (W.p∘tupP)) hc2 (fun w hw=>⟨_,zBl _ _,fun c hc=>by
       obtain⟨x,c',e,hc',hx⟩:=(zAk (n:=2) ∅ (zAT ∅ ∅)).call1 hc []
       exact⟨x,c',by simp[e],hc',hx⟩⟩)
    obtain⟨Z,rfl,hZ⟩:=ints_of hx;have lZ:Z.length=A.length:=by simpa using lx
    have e4:∀st,zAM zA8 [.p (wP s A),.p (.lst (Z.map P.int)),.p (.int 2)] st=.ok (.p (wP (repS s 2) (lfA 2 (A.zip Z)))) st:=fun st=>zFN (s:=s) (A:=A) (Z:=Z) (k:=2) ∅ hW.inn lZ ∅ ∅ ∅ st
    have lS:=zLv s 2
    have lL:(lfA 2 (A.zip Z)).length<64:=by
      rw[zIE,Yg];omega
    have iL:InN (repS s 2).length (lfA 2 (A.zip Z)):=by rw[lS];exact zNV hW.inn ∅
    have s0:0<(repS s 2).length:=by rw[lS];have:=hW.n0;omega
    have sc:∀c∈(repS s 2).cps.toList,c∈s.cps.toList:=fun c hc=>by
      rw[zK7]at hc;obtain⟨d,hd,hc⟩:=Yu.mp hc;rw[(bj.mp hc).2];exact hd
    obtain⟨kc,hkc,e5⟩:=zCm s0 ∅ iL ∅;have y0:=wp0 (repS s 2) (lfA 2 (A.zip Z));have y1:=wp1 (repS s 2) (lfA 2 (A.zip Z))
    conv=>arg 2;simp[kinL,x1,la,e3,e4,y0,y1,show(repS s 2).length≤1000000 by omega,e5]
    cases kc with
    |true =>
      simp[hc3];exact⟨_,_,rfl,⟨s0,fun c hc=>hW.ch c (sc c hc),iL,hkc.mp rfl⟩,∅,lL,by rcases hwy with rfl|rfl<;>exact fun h=>n9 (sc _ h)⟩
    |false =>
      simp[hc3];exact⟨s,A,rfl,hW,∅,∅,hof⟩
  have wi:∃b:Bool,(b=true→w=.heard∨w=.counted)∧∀st,vInB false (.p (.str w.s)) (.p (.lst [.str (Str.ofString "heard"),.str (Str.ofString "counted")])) st=.ok (.p (.bl b)) st:=by
    cases w
    · exact⟨true,by simp,fun st=>by simp[Wy.s]⟩
    · exact⟨true,by simp,fun st=>by simp[Wy.s]⟩
    · exact⟨false,by simp,fun st=>by simp[Wy.s]⟩
    · exact⟨false,by simp,fun st=>by simp[Wy.s]⟩
  obtain⟨b,wb,wi⟩:=wi;cases b with
  |true =>
    conv=>arg 2;simp[zIo,zAQ,x0,ls2,ls,h6',e1,hk,e2,hj,wi]
    exact lft (wb rfl)
  |false =>
    conv=>arg 2;simp[zIo,zAQ,x0,ls2,ls,h6',e1,hk,e2,hj,wi]
    exact tail none none
end
section
open Y YZ NS
def zBU:FM:=runF 3 11 (sSeq (sSet 3 (zAH vLen %[(mBin vIx (mVar 0) (mC (.int 0)))|0]))
  (sSeq (sSet 4 (mTup %[(mBin vAdd (mBin vIx (mVar 0) (mC (.int 0))) (mBin vIx (mVar 1) (mC (.int 0)))),(mBin vAdd (mBin vIx (mVar 0) (mC (.int 1))) (mLc (mSrc (mBin vIx (mVar 1) (mC (.int 1)))) (.tp [(.nm 8),(.nm 9)]) [8,9] mYes (mTup %[(mBin vAdd (mVar 8) (mVar 3)),(mBin vAdd (mVar 9) (mVar 3))|0]) finP))|0]))
  (sSeq (sPut (.tp [(.nm 5),(.nm 6)]) (mTup %[(mBin vIx (zAF zCK %[(mVar 4),(mVar 2)|0]) (mNeg (mC (.int 1)))),(mLst mNil)|0]))
  (sSeq (sFor (zBO (mVar 3)) (.nm 7) (sSet 6 (mBin vAdd (mVar 6) (mLc (zBO (zAH vLen %[(mBin vIx (mVar 1) (mC (.int 0)))|0])) (.nm 10) [10] (mTst (mBin (vEqB false) (mBin vIx (mVar 5) (mVar 7)) (mBin vIx (mVar 5) (mBin vAdd (mVar 3) (mVar 10))))) (mTup %[(mVar 7),(mVar 10)|0]) finP))))
  (sRet (mVar 6))))))
section
variable {w:Wy}{s t:Str}{A B:Arcs}
theorem un_wP(s t:Str) (A B:Arcs):wP (s++t) (unA s.length A B)=.tup [.str (s++t),.lst (A.map tupP++(shA s.length B).map tupP)]:=by
 unfold wP unA;rw[JE]
def pB:SMm:=(sSet 6 (mBin vAdd (mVar 6) (mLc (zBO (zAH vLen %[(mBin vIx (mVar 1) (mC (.int 0)))|0])) (.nm 10) [10] (mTst (mBin (vEqB false) (mBin vIx (mVar 5) (mVar 7)) (mBin vIx (mVar 5) (mBin vAdd (mVar 3) (mVar 10))))) (mTup %[(mVar 7),(mVar 10)|0]) finP)))
theorem zKh(hW:Wb s A) (hV:Wb t B) (h1:s.length≤20) (h2:t.length≤20) (hu64:(s++t).length<64) (l1:A.length≤200) (l2:B.length≤200) (st:List Cell) :
  zAM zBU [.p (wP s A),.p (wP t B),.p (.str w.s)] st=.ok (.p (.lst (prs w s t A B (stbC (w:=w) (zOv hW hV) hu64) s.length))) st:=by
 refine Pu.call3 (Pu.of3 ?_) st;have hc:=zOv hW hV;have lU:=zOT (s:=s) (t:=t)
 have lA:(unA s.length A B).length≤1000:=by
  unfold unA shA;rw[Ju,Jc];omega
 have lr:=fun st=>zHH (w:=w) hc hu64 lA (fun st=>zGZ ∅ lA st) st
 have la:=zOC w (s++t) (unA s.length A B) (stbC (w:=w) hc hu64);have hN:=zC0 (w:=w) hc hu64 (stbC (w:=w) hc hu64)
 have L1:=zDA (f:=W.p∘tupP) (l:=B) (t:=.tp [(.nm 8),(.nm 9)]) (e:=mTup %[(mBin vAdd (mVar 8) (mVar 3)),(mBin vAdd (mVar 9) (mVar 3))|0]) (σ0:=[some (.p (wP s A)),some (.p (wP t B)),some (.p (.str w.s)),some (.p (.int s.length)),none,none,none,none,none,none,none]) (st:=[]) (fun q=>tupP (q.1+s.length,q.2+s.length)) fun q hq=>by
  refine⟨_,by simp[tupP];rfl,?_⟩
  simp[tupP]
 have e1:B.map (fun q=>tupP (q.1+(s.length:Int),q.2+(s.length:Int)))=(shA s.length B).map tupP:=by unfold shA;rw[Jm];rfl
 rw[e1]at L1;have x0:=wp0 s A;have x1:=wp1 s A;have y0:=wp0 t B;have y1:=wp1 t B;have mB:(B.map tupP).map W.p=B.map (W.p∘tupP):=by rw[Jm]
 have lB:(B.map (W.p∘tupP)).length≤1000000:=by rw[Jc];omega
 have lAS:(A.map tupP).length+((shA s.length B).map tupP).length≤1000000:=by rw[Jc,Jc];unfold shA;rw[Jc];omega
 have uw:=un_wP s t A B;generalize hT:stbC (w:=w) hc hu64=T at *
 have at1:∀ {u:Nat},u<s.length→L2.atI ((rnd w (s++t) (unA s.length A B) T).map P.int) (u:Int)=some (.int (cls w (s++t) (unA s.length A B) T u)):=fun{u} hu=>zLu hN ∅ ∅
 have at2:∀ {v:Nat},v<t.length→L2.atI ((rnd w (s++t) (unA s.length A B) T).map P.int) ((s.length:Int)+(v:Int))=some (.int (cls w (s++t) (unA s.length A B) T (s.length+v))):=fun{v} hv=>by
  have:=zLu hN (v:=((s.length+v:Nat):Int)) ∅ ∅
  rw[show(s.length:Int)+(v:Int)=((s.length+v:Nat):Int) by omega]
  exact this
 rw[uw]at lr;generalize (rnd w (s++t) (unA s.length A B) T).map P.int=NU at *
 generalize hU:unA s.length A B=U at *
 have e0:zBU=runF 3 11 (sSeq (sSet 3 (zAH vLen %[(mBin vIx (mVar 0) (mC (.int 0)))|0]))
  (sSeq (sSet 4 (mTup %[(mBin vAdd (mBin vIx (mVar 0) (mC (.int 0))) (mBin vIx (mVar 1) (mC (.int 0)))),(mBin vAdd (mBin vIx (mVar 0) (mC (.int 1))) (mLc (mSrc (mBin vIx (mVar 1) (mC (.int 1)))) (.tp [(.nm 8),(.nm 9)]) [8,9] mYes (mTup %[(mBin vAdd (mVar 8) (mVar 3)),(mBin vAdd (mVar 9) (mVar 3))|0]) finP))|0]))
  (sSeq (sPut (.tp [(.nm 5),(.nm 6)]) (mTup %[(mBin vIx (zAF zCK %[(mVar 4),(mVar 2)|0]) (mNeg (mC (.int 1)))),(mLst mNil)|0]))
  (sSeq (sFor (zBO (mVar 3)) (.nm 7) pB)
  (sRet (mVar 6)))))):=rfl
 rw[e0];generalize wP s A=w1 at *
 generalize wP t B=w2 at *
 generalize (shA s.length B).map tupP=SB at *
 generalize A.map tupP=AA at *
 generalize hBB:B.map tupP=BB at *
 simp only[zAQ];have q0:stbC (w:=w) hc hu64=stbC (w:=w) hc hu64:=rfl;clear q0;simp -implicitDefEqProofs [x0,x1,y0,y1,mB,lB,L1,lAS,lr,la,show s.length+t.length≤1000000 by omega,show s.length≤1000000 by omega,show(s.length:Int)≤1000000 by omega,show(-1000000:Int)≤s.length by omega,-zAn,-zDL]
 refine⟨∅,?_⟩;refine zAm (fun r=>Gv (runR (r.then (sRet (mVar 6)))) _) (fun i σ st=>∃a7,σ=[some (.p w1),some (.p w2),some (.p (.str w.s)),some (.p (.int s.length)),some (.p (.tup [.str (s++t),.lst (AA++SB)])),some (.p (.lst NU)),some (.p (.lst (prs w s t A B T i))),a7,none,none,none]∧st=[]) ⟨none,rfl,rfl⟩ ?_ ?_
 ·rintro i x σ st hx ⟨a7,rfl,rfl⟩;obtain⟨hi,rfl⟩:=zDl hx;have b1:=at1 hi
  have L2:=zLc (f:=fun(v:Nat)=>W.p (.int (v:Int))) (l:=List.range t.length) (t:=.nm 10) (c:=mTst (mBin (vEqB false) (mBin vIx (mVar 5) (mVar 7)) (mBin vIx (mVar 5) (mBin vAdd (mVar 3) (mVar 10))))) (e:=mTup %[(mVar 7),(mVar 10)|0]) (σ0:=[some (.p w1),some (.p w2),some (.p (.str w.s)),some (.p (.int s.length)),some (.p (.tup [.str (s++t),.lst (AA++SB)])),some (.p (.lst NU)),some (.p (.lst (prs w s t A B T i))),some (.p (.int i)),none,none,none]) (st:=[]) (fun v=>decide (cls w (s++t) U T i=cls w (s++t) U T (s.length+v))) (fun(v:Nat)=>P.tup [.int (i:Int),.int (v:Int)]) fun v hv=>by
   have hv:=Jy.mp hv;have b2:=at2 hv;exact⟨_,zBl _ _,by simp -implicitDefEqProofs [b1,b2];rfl,fun _=>by simp -implicitDefEqProofs⟩
  have e2:((List.range t.length).filter fun v=>decide (cls w (s++t) U T i=cls w (s++t) U T (s.length+v))).map (fun(v:Nat)=>P.tup [.int (i:Int),.int (v:Int)])=prU w s t A B T i:=by unfold prU;rw[hU]
  rw[e2,←zJP]at L2;have ln1:=zKO (w:=w) (s:=s) (t:=t) (A:=A) (B:=B) T i;have ln2:=zN7 (w:=w) (s:=s) (t:=t) (A:=A) (B:=B) T i;have ln3:i*t.length≤20*20:=VQ ∅ ∅;rw[zLT]
  have s1:zFW (.nm 7) pB (.p (.int (i:Int))) [some (.p w1),some (.p w2),some (.p (.str w.s)),some (.p (.int s.length)),some (.p (.tup [.str (s++t),.lst (AA++SB)])),some (.p (.lst NU)),some (.p (.lst (prs w s t A B T i))),a7,none,none,none] []=pB [some (.p w1),some (.p w2),some (.p (.str w.s)),some (.p (.int s.length)),some (.p (.tup [.str (s++t),.lst (AA++SB)])),some (.p (.lst NU)),some (.p (.lst (prs w s t A B T i))),some (.p (.int i)),none,none,none] []:=by
   simp -implicitDefEqProofs
  rw[Int.zero_add,s1];have ls:(prs w s t A B T i).length+(prU w s t A B T i).length≤1000000:=by omega
  generalize prs w s t A B T i=P1 at *
  generalize prU w s t A B T i=P2 at *
  conv=>arg 3;simp -implicitDefEqProofs [pB,y0,L2,ls,show t.length≤1000000 by omega,show(t.length:Int)≤1000000 by omega,show(-1000000:Int)≤t.length by omega]
  exact⟨_,rfl,rfl⟩
 ·rintro σ st ⟨a7,rfl,rfl⟩;rw[zCg];simp
end
theorem zFc(a:EM) (σ:Sg) (st:List Cell):zEU a σ st=(a σ st).bind zEy:=rfl
theorem zHS{M:List Int} (h:M.length<4000) (h2:(dsI M).length<64) (st:List Cell):zEy (.p (.lst (M.map P.int))) st=.ok (.p (.lst ((dsI M).map P.int))) st:=by
 unfold zEy;simp[Y.listOf,h,h2]
theorem zQ5{M:List Int}{n:Nat} (h:∀k∈M,0≤k∧k<(n:Int)):dsI M=(List.range n).map (fun(i:Nat)=>(i:Int))↔∀u,u<n→((u:Nat):Int)∈M:=by
 constructor
 ·intro e u hu
  have:((u:Nat):Int)∈dsI M:=by rw[e];exact Jj.mpr ⟨u,Jy.mpr hu,rfl⟩
  exact zFU.mp this
 ·intro hu;refine zMf fun k=>⟨h k,fun⟨h1,h2⟩=>?_⟩
  have:=hu k.toNat ∅
  rwa [Yw h1]at this
section
variable {w:Wy}{s t:Str}{A B:Arcs}
theorem zLH(M:List Int):okP 64 (.lst (M.map P.int))=true:=by
 rw[zNu (!0),VR];refine Jp.mpr fun q _=>?_
 simp
theorem zH3(M N:List Int):pEq (.lst (M.map P.int)) (.lst (N.map P.int))=decide (M=N):=by
 have:=zLj (f:=P.int) (fun a b=>by simp) M N
 rw[zNP,Vu,this,Jz]
end
end
section
open Y YZ NS
def Prd(K:Int→Int→Bool) (l r:List Int):Prop:=∃r':List Int,r'.Perm r∧r'.length=l.length∧∀i:Nat,i<l.length→K (at0 l i) (at0 r' i)=true
theorem perm_lift{α β:Type}{f:α→β}{l' l:List β} (p:l'.Perm l):∀ {k:List α},k.map f=l→∃k':List α,k'.Perm k∧k'.map f=l':=by
 induction p with
 |nil =>
  intro k h;exact⟨[],by rw[Y3.mp h],rfl⟩
 |cons x p ih =>
  intro k h;cases k with
  |nil=>cases h
  |cons a k =>
   rw[Jl,VH]at h;obtain⟨k',p',e⟩:=ih h.2;exact⟨a::k',p'.cons a,by rw[Jl,h.1,e]⟩
 |swap x y l =>
  intro k h;cases k with
  |nil=>cases h
  |cons a k =>
   cases k with
   |nil=>cases h
   |cons b k =>
    rw[Jl,Jl,VH,VH]at h;exact⟨b::a::k,.swap a b k,by rw[Jl,Jl,h.1,h.2.1,h.2.2]⟩
 |trans p1 p2 ih1 ih2 =>
  intro k h;obtain⟨k2,q2,e2⟩:=ih2 h;obtain⟨k1,q1,e1⟩:=ih1 e2;exact⟨k1,q1.trans q2,e1⟩
theorem zNT{α:Type} [DecidableEq α]:∀ {l D:List α},l.Nodup→(∀x∈l,x∈D)→D.length≤l.length→l.Perm D
 |[],D,_,_,h=>by
  rw[bW]at h;obtain rfl:D=[]:=YU ∅;exact .nil
 |x::l,D,nd,hs,h=>by
  rw[JV]at nd;have hx:=hs x Jg;have p:=List.perm_cons_erase hx;refine .trans ?_ p.symm;refine List.Perm.cons x (zNT nd.2 (fun y hy=>?_) ?_)
  ·have:=p.mem_iff.mp (hs y (Jf _ hy))
   rcases Jo.mp this with rfl|this
   ·exact absurd hy nd.1
   ·exact this
  ·have:=p.length_eq
   rw[JJ]at this h;omega
theorem zE2{N:List Int}{i:Nat} (h:i<N.length):at0 N (i:Int)=N[i]:=by
 unfold at0;rw[Vj,Ja h];rfl
theorem prd_of{K:Int→Int→Bool}{l r N:_} (h:Mat r.length l.length (RK K l r) N) (e:l.length=r.length):Prd K l r:=by
 have hc:=fun b:Nat=>Classical.em (b<l.length)
 let π:Nat→Int:=fun b=>if hb:b<l.length then Classical.choose (h.all b hb)else 0
 have hπ:∀b:Nat,b<l.length→(π b,(b:Int))∈N:=fun b hb=>by
  show((if hb:b<l.length then Classical.choose (h.all b hb)else 0),(b:Int))∈N
  rw[dif_pos hb];exact Classical.choose_spec (h.all b hb)
 have nd:((List.range l.length).map π).Nodup:=by
  rw[Vp,J4];have r0:=Yd (n:=l.length);rw[Vp]at r0;refine VJ (fun{a b} ha hb ne z=>ne ?_) r0
  have h1:=hπ a (Jy.mp ha);have h2:=hπ b (Jy.mp hb);rw[z]at h1
  have:=zOH h.nd h1 h2 rfl
  rw[VY]at this;omega
 have pm:((List.range l.length).map π).Perm ((List.range r.length).map fun(v:Nat)=>(v:Int)):=zNT nd (fun x hx=>by
  obtain⟨b,hb,rfl⟩:=Jj.mp hx
  have:=h.inn _ (hπ b (Jy.mp hb))
  exact Jj.mpr ⟨(π b).toNat,Jy.mpr ∅,∅⟩) (by simp[e])
 refine⟨((List.range l.length).map π).map (at0 r),?_,by simp,fun i hi=>?_⟩
 ·have:=pm.map (at0 r)
  rw[Jm (l:=List.range r.length)]at this;refine this.trans ?_
  exact .of_eq (zIt r)
 ·have:=(h.inn _ (hπ i hi)).2.2
  rw[zE2 (N:=((List.range l.length).map π).map (at0 r)) (by simpa using hi)]
  unfold RK at this;simpa using this
theorem prd_no{K:Int→Int→Bool}{l r:List Int}{k:Nat} (hk:k<l.length) (h:NoP r.length k (RK K l r)):¬Prd K l r:=by
 rintro⟨r',p,e,hK⟩;obtain⟨z,pz,ez⟩:=perm_lift (f:=fun(v:Nat)=>at0 r v) p (zIt r)
 have lz:z.length=l.length:=by rw[←e,←ez,Jc]
 have nz:z.Nodup:=pz.nodup_iff.mpr Yd;refine h (fun b=>((z[b.toNat]?.getD 0:Nat):Int)) l.length hk (fun b h0 h1=>?_) fun b c h0 h1 h2 h3 eq=>?_
 ·have hb:b.toNat<z.length:=by omega
  have hm:z[b.toNat]∈z:=JL hb
  have:=Jy.mp (pz.mem_iff.mp hm)
  show 0≤((z[b.toNat]?.getD 0:Nat):Int)∧_;rw[Ja hb];refine⟨by simp,by simpa using this,?_⟩
  have hk:=hK b.toNat ∅;rw[show((b.toNat:Nat):Int)=b by omega]at hk
  unfold RK;show K (at0 l b) (at0 r ((z[b.toNat]:Nat):Int))=true;rw[←hk]
  congr 1
  have:at0 r' ((b.toNat:Nat):Int)=r'[b.toNat]'(by omega):=zE2 ∅
  rw[show((b.toNat:Nat):Int)=b by omega]at this
  rw[this];subst ez;rw[List.getElem_map]
 ·have hb:b.toNat<z.length:=by omega
  have hc:c.toNat<z.length:=by omega
  have eq:((z[b.toNat]?.getD 0:Nat):Int)=((z[c.toNat]?.getD 0:Nat):Int):=eq;rw[Ja hb,Ja hc]at eq;have eq:((z[b.toNat]:Nat):Int)=(z[c.toNat]:Nat):=eq
  have:=(Yb nz).mp (show z[b.toNat]=z[c.toNat] by omega)
  omega
def zBP:FM:=runF 3 5 (sSeq (sIf (mTst (mBin (vEqB true) (zAH vLen %[(mVar 0)|0]) (zAH vLen %[(mVar 1)|0]))) (sRet (mC (.bl false))) sNx)
  (sSeq (sSet 3 zGe)
  (sSeq (sFor (zBO (zAH vLen %[(mVar 0)|0])) (.nm 4) (sIf (zBq (mTru (zAF zAd %[(mVar 0),(mVar 1),(mVar 2),(mVar 4),(mVar 3)|0]))) (sRet (mC (.bl false))) sNx))
  (sRet (mC (.bl true))))))
def agB:SMm:=(sIf (zBq (mTru (zAF zAd %[(mVar 0),(mVar 1),(mVar 2),(mVar 4),(mVar 3)|0]))) (sRet (mC (.bl false))) sNx)
def zDu:FM:=runF 3 5 (sSeq (sIf (mTst (mBin (vEqB true) (zAH vLen %[(mVar 0)|0]) (zAH vLen %[(mVar 1)|0]))) (sRet (mC (.bl false))) sNx) (sSeq (sSet 3 zGe) (sSeq (sFor (zBO (zAH vLen %[(mVar 0)|0])) (.nm 4) agB) (sRet (mC (.bl true))))))
theorem zFr:zBP=zDu:=rfl
theorem zPv{l r:List Int}{kn:P}{K:Int→Int→Bool} (hin:∀x∈l,∀y∈r,∀st,vInN false (.p (.tup [.int x,.int y])) (.p kn) st=.ok (.p (.bl (K x y))) st) (hl:l.length≤200) (hr:r.length≤200)
  {M:Arcs}{k:Nat} (hM:Mat r.length k (RK K l r) M) (hk:k<l.length) :
  (∃N,Mat r.length (k+1) (RK K l r) N∧zAM zAd [.p (.lst (l.map P.int)),.p (.lst (r.map P.int)),.p kn,.p (.int (k:Int)),.r 0] [.dk (kys M) (vls M)]=.ok (.p (.bl true)) [.dk (kys N) (vls N)]) ∨
  (NoP r.length k (RK K l r)∧zAM zAd [.p (.lst (l.map P.int)),.p (.lst (r.map P.int)),.p kn,.p (.int (k:Int)),.r 0] [.dk (kys M) (vls M)]=.ok (.p (.bl false)) [.dk (kys M) (vls M)]):=by
 have pl:∀L:Arcs,zAx (.dk (kys L) (vls L))=true:=fun L=>by simp[zAx,content,zGk]
 have h:=zRO hin hl hr hM hk;unfold FgR at h;split at h
 ·rename_i c rest e
  obtain⟨N,h1,rfl⟩:=h;refine .inl ⟨N,h1,?_⟩;unfold zAM;simp[Y.argRefs,Y.argIn,Y.getCells,pl,e,Y.callEnd,Y.putCells]
 ·rename_i c rest e
  obtain⟨h1,rfl⟩:=h;refine .inr ⟨h1,?_⟩;unfold zAM;simp[Y.argRefs,Y.argIn,Y.getCells,pl,e,Y.callEnd,Y.putCells]
 ·exact h.elim
open Classical in
theorem zPz{l r:List Int}{kn:P}{K:Int→Int→Bool} (hin:∀x∈l,∀y∈r,∀st,vInN false (.p (.tup [.int x,.int y])) (.p kn) st=.ok (.p (.bl (K x y))) st) (hl:l.length≤200) (hr:r.length≤200) (st:List Cell) :
  zAM zBP [.p (.lst (l.map P.int)),.p (.lst (r.map P.int)),.p kn] st=.ok (.p (.bl (decide (Prd K l r)))) st:=by
 refine Pu.call3 (Pu.of3 ?_) st;have d0:∀(σ:Sg) st,zGe σ st=.ok (.r st.length) (st++[.dk [] []]):=fun _ _=>rfl
 rw[zFr];simp only[zDu,zAQ]
 by_cases lr:l.length=r.length
 case neg =>
  have no:¬Prd K l r:=by
   rintro⟨r',p,e,_⟩;exact lr (by rw[←e,p.length_eq])
  simp[show l.length≤1000000 by omega,show r.length≤1000000 by omega,show ¬((l.length:Int)=r.length) by omega,no,lr]
 simp[d0,←lr,show(l.length:Int)≤1000000 by omega,show(-1000000:Int)≤l.length by omega,show l.length≤1000000 by omega,-zAn,-zDL]
 rw[zJP];refine zAm (fun res=>Gv (runR (res.then _)) (.bl (decide (Prd K l r)))) (fun i σ st=>∃(L:Arcs) (a4:Option W),Mat r.length i (RK K l r) L∧σ=[some (.p (.lst (l.map P.int))),some (.p (.lst (r.map P.int))),some (.p kn),some (.r 0),a4]∧st=[.dk (kys L) (vls L)]) ⟨[],none,Mat.nil _ _,rfl,rfl⟩ ?_ ?_
 ·rintro i w σ st hw ⟨L,a4,hP,rfl,rfl⟩;rw[Jd]at hw;obtain⟨i',hi',rfl⟩:=Jx.mp hw
  have hil:i<l.length:=by
   have:=(Jb.mp hi').1
   simpa using this
  obtain rfl:i=i':=by
   obtain⟨_,e⟩:=Jb.mp hi';rw[YI]at e;exact e
  rcases zPv hin hl hr hP hil with⟨N,hP2,e⟩|⟨no,e⟩
  ·conv=>arg 3;simp[agB,e]
   exact⟨_,_,hP2,rfl,rfl⟩
  ·have no:=prd_no hil no
   conv=>arg 3;simp[agB,e]
   show Sq _ _ _;simp[Sq,no]
 ·rintro σ st ⟨L,a4,hP,rfl,rfl⟩;rw[Jc,JN]at hP;simp[prd_of hP lr]
theorem zSv(x y:Nat):P.tup [.int (x:Int),.int (y:Int)]=prP (x,y):=rfl
theorem zP0(L:List (Nat×Nat)) (x y:Nat) (st:List Cell):vInB false (.p (.tup [.int (x:Int),.int (y:Int)])) (.p (.lst (L.map prP))) st=.ok (.p (.bl (decide ((x,y)∈L)))) st:=by
 have t1:∀q:Nat×Nat,toD (prP q)=some (.tuple [.int q.1,.int q.2]):=fun q=>by
  unfold prP;rw[toD,toDs,toD,toDs,toD,toDs]
 have ok:∀L:List (Nat×Nat),okP 64 (.lst (L.map prP))=true:=fun L=>by
  rw[okP];rw[VR];refine Jp.mpr fun q _=>?_
  show okP 63 (prP q)=true;unfold prP;simp
 obtain⟨d1,a1,a2⟩:=zEQ (n:=64) ∅ (x:=.lst (L.map prP)) (ok L);obtain⟨d2,b1,b2⟩:=zEQ (n:=64) ∅ (x:=prP (x,y)) (by unfold prP;simp)
 have a3:toD (.lst (L.map prP))=some (.list (L.map fun q=>.tuple [.int q.1,.int q.2])):=by
  rw[toD,zIN t1]
 rw[a3]at a1;cases a1;have b3:=t1 (x,y);rw[b3]at b1;cases b1;rw[zSv];unfold vInB;simp only[prP];rw[show seqP st (.p (.lst (L.map prP)))=some (L.map prP)from rfl]
 simp only;rw[Vh (by rintro⟨z,_⟩;cases z)]
 rw[show toD (.tup [.int ((x,y):Nat×Nat).1,.int ((x,y):Nat×Nat).2])=_ from b3,show unD st (.p (.lst (L.map prP)))=_ from a3]
 simp only;rw[JW ⟨b2,a2⟩]
 congr 3
 rw[List.any_map,Vu,Jz];simp only[Vc,YE,Yc,Function.comp]
 have key:∀q:Nat×Nat,PyData.eqv (.tuple [.int q.1,.int q.2]) (.tuple [.int ((x,y):Nat×Nat).1,.int ((x,y):Nat×Nat).2])=true↔q=(x,y):=fun q=>by
  rw[zKW (t1 q) b3];unfold prP;simp;rw[Prod.ext_iff];show _↔q.1=x∧q.2=y;omega
 constructor
 ·rintro⟨q,hq,e⟩;rw[←(key q).mp e];exact hq
 ·intro h;exact⟨_,h,(key _).mpr rfl⟩
theorem Prd.perm{K:Int→Int→Bool}{l r s:List Int} (h:Prd K l r) (p:r.Perm s):Prd K l s:=by
 obtain⟨r',p',e,hK⟩:=h;exact⟨r',p'.trans p,e,hK⟩
theorem zEw(x:Int) (l:List Int) (i:Nat):at0 (x::l) ((i+1:Nat):Int)=at0 l (i:Int):=by
 unfold at0;rw[Vj,Vj,Vo]
theorem Prd.cons{K:Int→Int→Bool}{x y:Int}{l r:List Int} (h:Prd K l r) (hK:K x y=true):Prd K (x::l) (y::r):=by
 obtain⟨r',p',e,h2⟩:=h;refine⟨y::r',p'.cons y,by simp[e],fun i hi=>?_⟩
 cases i with
 |zero=>exact hK
 |succ i=>rw[zEw,zEw];exact h2 i (by simpa using hi)
theorem Prd.inv{K:Int→Int→Bool}{x:Int}{l r:List Int} (h:Prd K (x::l) r):∃y s,r.Perm (y::s)∧K x y=true∧Prd K l s:=by
 obtain⟨r',p,e,h2⟩:=h;cases r' with
 |nil=>cases e
 |cons y s =>
  refine⟨y,s,p.symm,h2 0 (by simp),s,.refl _,by simpa using e,fun i hi=>?_⟩
  have:=h2 (i+1) (by simpa using hi)
  rwa [zEw,zEw]at this
theorem zPj{K:Int→Int→Bool}{r:List Int}:Prd K [] r↔r=[]:=by
 constructor
 ·rintro⟨r',p,e,_⟩
  have:r'.length=0:=e
  rw[YU this]at p;exact p.symm.eq_nil
 ·rintro rfl;exact⟨[],.nil,rfl,fun i hi=>by simp at hi⟩
theorem zPx{K:Int→Int→Bool}{x:Int}{l:List Int}:¬Prd K (x::l) []:=fun h=>by
 obtain⟨y,s,p,_⟩:=h.inv
 have:=p.length_eq
 simp at this
def outI(r:List Int) (i:Nat):List Int:=r.take i++r.drop (i+1)
theorem zDc{r:List Int}{i:Nat} (h:i<r.length):r.Perm (at0 r i::outI r i):=by
 have e:r=r.take i++r[i]::r.drop (i+1):=by
  rw[←Vi h,YN]
 rw[zE2 h];unfold outI
 conv=>lhs;rw[e]
 exact bQ
theorem zRT{K:Int→Int→Bool}{x:Int}{l r:List Int} (h:Prd K (x::l) r):∃i:Nat,i<r.length∧K x (at0 r i)=true∧Prd K l (outI r i):=by
 obtain⟨y,s,p,hK,h2⟩:=h.inv;have hy:y∈r:=p.mem_iff.mpr Jg;obtain⟨i,hi,e⟩:=V3.mp hy;have e2:at0 r i=y:=by rw[zE2 hi,e]
 refine⟨i,hi,by rw[e2];exact hK,h2.perm ?_⟩
 have:=p.symm.trans (zDc hi)
 rw[e2]at this;exact(jf y).mp this
theorem prd_at{K:Int→Int→Bool}{x:Int}{l r:List Int}{i:Nat} (hi:i<r.length) (hK:K x (at0 r i)=true) (h:Prd K l (outI r i)):Prd K (x::l) r:=(h.cons hK).perm (zDc hi).symm
def zAt:Nat→FM
 |0=>fun _ _=>.no
 |n+1=>runF 3 4 (sSeq (sIf (mOrT (mTst (mBin (vEqB false) (mVar 0) (mLst mNil))) (mTst (mBin (vEqB false) (mVar 1) (mLst mNil)))) (sRet (mBin (vEqB false) (mVar 0) (mVar 1))) sNx)
  (sSeq (sFor (zBO (zAH vLen %[(mVar 1)|0])) (.nm 3) (sIf (zEX (mTst (mBin (vInB true) (mBin vIx (mVar 1) (mVar 3)) (mSl (mVar 1) zE4 (zFM (mVar 3))))) (zEX (mTst (mBin (vInB false) (mTup %[(mBin vIx (mVar 0) (mC (.int 0))),(mBin vIx (mVar 1) (mVar 3))|0]) (mVar 2))) (mTru (zAF (zAt n) %[(mSl (mVar 0) (zFM (mC (.int 1))) zE4),(mBin vAdd (mSl (mVar 1) zE4 (zFM (mVar 3))) (mSl (mVar 1) (zFM (mBin vAdd (mVar 3) (mC (.int 1)))) zE4)),(mVar 2)|0])))) (sRet (mC (.bl true))) sNx))
  (sRet (mC (.bl false)))))
def lpdB(n:Nat):SMm:=(sIf (zEX (mTst (mBin (vInB true) (mBin vIx (mVar 1) (mVar 3)) (mSl (mVar 1) zE4 (zFM (mVar 3))))) (zEX (mTst (mBin (vInB false) (mTup %[(mBin vIx (mVar 0) (mC (.int 0))),(mBin vIx (mVar 1) (mVar 3))|0]) (mVar 2))) (mTru (zAF (zAt n) %[(mSl (mVar 0) (zFM (mC (.int 1))) zE4),(mBin vAdd (mSl (mVar 1) zE4 (zFM (mVar 3))) (mSl (mVar 1) (zFM (mBin vAdd (mVar 3) (mC (.int 1)))) zE4)),(mVar 2)|0])))) (sRet (mC (.bl true))) sNx)
theorem zHy(n:Nat):zAt (n+1)=runF 3 4 (sSeq (sIf (mOrT (mTst (mBin (vEqB false) (mVar 0) (mLst mNil))) (mTst (mBin (vEqB false) (mVar 1) (mLst mNil)))) (sRet (mBin (vEqB false) (mVar 0) (mVar 1))) sNx) (sSeq (sFor (zBO (zAH vLen %[(mVar 1)|0])) (.nm 3) (lpdB n)) (sRet (mC (.bl false))))):=rfl
theorem zPs(r:List Int){i:Nat} (h:i≤r.length):cutL (r.map P.int) none (some (i:Int))=(r.take i).map P.int:=by
 unfold cutL HT.sIx;simp only;rw[Vh ∅,Jc,show min (i:Int).toNat r.length=i by omega,VE,Nat.sub_zero,YX]
theorem zJo(r:List Int){i:Nat} (h:i<r.length):cutL (r.map P.int) (some ((i:Int)+1)) none=(r.drop (i+1)).map P.int:=by
 unfold cutL HT.sIx;simp only;rw[Vh ∅,Jc,show min ((i:Int)+1).toNat r.length=i+1 by omega,bF,Vk (by simp)]
theorem zP7(x:Int) (l:List Int):cutL (P.int x::l.map P.int) (some 1) none=l.map P.int:=by
 have:=zJo (x::l) (i:=0) (by simp)
 simpa using this
open Classical in
end
section
open Y YZ NS
def prF:P→Int
 | .tup [.int a,.int _]=>a
 |_=>0
def prS:P→Int
 | .tup [.int _,.int b]=>b
 |_=>0
theorem zGn(A:Arcs) (v:Int):(srcs A v).length≤A.length:=by
 unfold srcs;rw[Jc];exact Ve _ _
end
section
open Y YZ NS
inductive Bd where
 |q (a b:Int)
 |ls
 |no
 |t1
 |tb
def Bd.p:Bd→P
 | .q a b=>.tup [.int a,.int b]
 | .ls=>.lst [.int 0,.int 0]
 | .no=>.non
 | .t1=>.tup [.int 0]
 | .tb=>.tup [.bl true,.int 0]
def Bd.in_(n m:Nat):Bd→Bool
 | .q a b=>decide (0≤a∧a<n∧0≤b∧b<m)
 |_=>false
def Bd.nn:Bd→Nat×Nat
 | .q a b=>(a.toNat,b.toNat)
 |_=>(0,0)
def Bd.t2:Bd→Bool
 | .q _ _=>true
 | .tb=>true
 |_=>false
theorem Bd.in_q{n m:Nat}{x:Bd} (h:x.in_ n m=true):x.p=prP x.nn∧x.nn.1<n∧x.nn.2<m:=by
 cases x with
 |q a b =>
  have h:=JB h;refine⟨?_,?_,?_⟩
  ·show P.tup [.int a,.int b]=.tup [.int (a.toNat:Int),.int (b.toNat:Int)];rw[show(a.toNat:Int)=a by omega,show(b.toNat:Int)=b by omega]
  ·show a.toNat<n;omega
  ·show b.toNat<m;omega
 |_=>cases h
theorem zOn{n m:Nat}:∀ {I:List Bd},(∀x∈I,x.in_ n m=true)→I.map Bd.p=(I.map Bd.nn).map prP
 |[],_=>rfl
 |x::I,h=>by
  rw[Jl,Jl,Jl,(Bd.in_q (h x Jg)).1,zOn fun y hy=>h y (Jf _ hy)]
theorem zJe{l:List W}{src:Src}{t:Tg}{b:SMm}{σ:Sg}{st0:List Cell} (F:SR→Prop) (J:Nat→Sg→Prop) (hn:src.n=l.length) (hg:∀k,src.get st0 k=some l[k]?) (h:J 0 σ)
  (hs:∀(i:Nat) (w:W) σ,l[i]?=some w→J i σ→Sq (fun σ' st'=>st'=st0∧J (i+1) σ') F (zFW t b w σ st0)) (he:∀σ,J l.length σ→F (.ok .nx σ st0)):F (zMO t b σ src st0):=by
 rw[zIT]
 have go:∀(n i:Nat) (σ:Sg),i≤l.length→l.length-i<n→J i σ→F (forF src t b n i σ st0):=by
  intro n
  induction n with
  |zero=>intro i σ _ h;omega
  |succ n ih =>
   intro i σ hi hn h;rw[forF,hg]
   by_cases hl:i<l.length
   ·rw[Ja hl];have s0:=hs i l[i] σ (Ja hl) h;unfold zFW at s0;simp only;cases ep:t.put l[i] σ with
    |none=>rw[ep]at s0;exact s0.elim
    |some σ1 =>
     rw[ep,zKf]at s0;simp only;cases hr:b σ1 st0 with
     |ok f σ2 st2 =>
      rw[hr]at s0;cases f with
      |nx=>obtain⟨rfl,s0⟩:=s0;exact ih (i+1) σ2 ∅ ∅ s0
      |ct=>obtain⟨rfl,s0⟩:=s0;exact ih (i+1) σ2 ∅ ∅ s0
      |bk=>exact s0
      |rt v=>exact s0
     |exc _ _ _=>rw[hr]at s0;exact s0.elim
     |no=>rw[hr]at s0;exact s0.elim
   ·rw[Jt ∅];obtain rfl:i=l.length:=by omega
    exact he σ h
 rw[hn];exact go (l.length+1) 0 σ (J3 _) ∅ h
theorem zOW{a b:Nat×Int} (ha:okC a.1) (hb:okC b.1) (st:List Cell):vEqB true (.p (mkP a)) (.p (mkP b)) st=.ok (.p (.bl (!decide (a=b)))) st:=by
 have r:=zCi (n:=true) (st:=st) (x:=mkP a) (y:=mkP b) (by simp[mkP,okP,chP,zJm ha]) (by simp[mkP,okP,chP,zJm hb])
 rw[r]
 have:pEq (mkP a) (mkP b)=decide (a=b):=by
  rw[Vu,Jz];obtain⟨a1,a2⟩:=a;obtain⟨b1,b2⟩:=b;simp[mkP,chP]
 rw[this];rfl
theorem zNt{L:List (Nat×Nat)}{n:Nat} (hn:n≤900) (hL:L.length≤1000000) (pr:P→Int) (e:EM) (pf:Nat×Nat→Nat) (hpf:∀q,pr (prP q)=(pf q:Int)){σ:Sg}{st:List Cell}{m:IM} (hm:m σ st=.ok (srcL ((prK L).map W.p)) st) (h4:4<σ.length)
  (he:∀q∈L,∀σ1:Sg,σ1[4]?=some (some (.p (prP q)))→e σ1 st=.ok (.p (.int (pf q))) st) (hin:∀q∈L,pf q<n) :
  ∃c:Nat,c≤n∧(c=n↔∀i,i<n→∃q∈L,pf q=i)∧scI m (.nm 4) [4] mYes e zFg σ st=.ok (.p (.int c)) st:=by
 have hl:=zNK L
 have key:∀x∈prK L,e ((zAv σ [4]).set 4 (some (.p x))) st=.ok (.p (.int (pr x))) st∧0≤pr x∧pr x<(n:Int):=fun x hx=>by
  obtain⟨q,hq,rfl⟩:=Jj.mp (zEg.mp hx)
  have:=hin q hq
  rw[hpf];exact⟨he q hq _ (by rw[Jw (by simp[zAv];omega)]),∅,∅⟩
 have r:=zLB (σ0:=zAv σ [4]) (st:=st) (e:=e) (pr:=pr) (KS:=prK L) hn key ((prK L).length+1) 0 [] Yt (by simp) ∅ ∅
 have bd:∀x∈(prK L).map pr,0≤x∧x<(n:Int):=fun x hx=>by
  obtain⟨y,hy,rfl⟩:=Jj.mp hx;exact(key y hy).2
 refine⟨(dis [] ((prK L).map pr)).length,zRC bd,(zSM bd).trans ?_,?_⟩
 ·constructor
  ·intro h i hi;obtain⟨y,hy,e⟩:=Jj.mp (h i hi);obtain⟨q,hq,rfl⟩:=Jj.mp (zEg.mp hy);rw[hpf]at e;exact⟨q,hq,∅⟩
  ·intro h i hi;obtain⟨q,hq,e⟩:=h i hi;exact Jj.mpr ⟨prP q,zEg.mpr (Vg hq),by rw[hpf,e]⟩
 ·unfold scI;rw[hm];simp only[Y.Res.bind];rw[JW (by show((prK L).map W.p).length≤_;rw[Jc];show _≤1000000;omega)]
  rw[show(srcL ((prK L).map W.p)).n=(prK L).length by show((prK L).map W.p).length=_;rw[Jc]]
  rw[r];show zFg (dis [] (((prK L).drop 0).map pr)) st=_;rw[VE];unfold zFg;rfl
def KL(L:List (Nat×Nat)) (x y:Int):Bool:=decide ((x.toNat,y.toNat)∈L)
def RelC(w:Wy) (s:Str) (A:Arcs) (t:Str) (B:Arcs) (L:List (Nat×Nat)):Prop :=
 (∀q∈L,mkQ w s A q.1=mkQ w t B q.2∧Prd (KL L) (sortI (srcs A (q.1:Int))) (sortI (srcs B (q.2:Int))))∧(∀i:Nat,i<s.length→∃q∈L,q.1=i)∧(∀i:Nat,i<t.length→∃q∈L,q.2=i)
def RelI(w:Wy) (s:Str) (A:Arcs) (t:Str) (B:Arcs) (I:List Bd):Prop:=(∀x∈I,x.in_ s.length t.length=true)∧RelC w s A t B (I.map Bd.nn)
end
section
open Y YZ NS
def zAL:FM:=runX 4 10 (sSeq (zBo (zBm zAg %[(mVar 0),(mVar 2)|0]))
  (sSeq (zBo (zBm zAg %[(mVar 1),(mVar 2)|0]))
  (sSeq (sFor (mSrc (mVar 3)) (.nm 4) (sSeq (sIf (mOrT (zBq (mTru (mIsi "tuple" (mVar 4)))) (mTst (mBin (vEqB true) (zAH vLen %[(mVar 4)|0]) (mC (.int 2))))) (sRet (mC (.bl false))) sNx)
  (sIf (mOrT (zBq (mTru (zAF zAf %[(mBin vIx (mVar 4) (mC (.int 0))),(mC (.int 0)),(mBin vSub (zAH (zEz 3 zA4) %[(mVar 0)|0]) (mC (.int 1)))|0]))) (zBq (mTru (zAF zAf %[(mBin vIx (mVar 4) (mC (.int 1))),(mC (.int 0)),(mBin vSub (zAH (zEz 3 zA4) %[(mVar 1)|0]) (mC (.int 1)))|0])))) (sRet (mC (.bl false))) sNx)))
  (sSeq (sSet 5 (mDcN (mSrc (mVar 3)) (.nm 4) [4] mYes (mVar 4) (mC (.bl true))))
  (sSeq (sPar 6 7 %[(zBm zBJ %[(mVar 0),(mVar 2)|0]),(zBm zBJ %[(mVar 1),(mVar 2)|0])|0])
  (sSeq (sFor (zHD (mVar 5)) (.tp [(.nm 8),(.nm 9)]) (sIf (mOrT (mTst (mBin (vEqB true) (mBin vIx (mVar 6) (mVar 8)) (mBin vIx (mVar 7) (mVar 9)))) (zBq (mTru (zAF zBP %[(zDw 3 zBh (mVar 0) %[(mVar 8)|0]),(zDw 3 zBh (mVar 1) %[(mVar 9)|0]),(mVar 5)|0])))) (sRet (mC (.bl false))) sNx))
  (sSeq (sIf (mTst (mBin vLt (scI (zHD (mVar 5)) (.nm 4) [4] mYes (mBin vIx (mVar 4) (mC (.int 0))) zFg) (zAH (zEz 3 zA4) %[(mVar 0)|0]))) (sRet (mC (.bl false))) sNx)
  (sRet (mBin (vEqB false) (scI (zHD (mVar 5)) (.nm 4) [4] mYes (mBin vIx (mVar 4) (mC (.int 1))) zFg) (zAH (zEz 3 zA4) %[(mVar 1)|0]))))))))))
def rhB1:SMm:=(sIf (mOrT (mTst (mBin (vEqB true) (mBin vIx (mVar 6) (mVar 8)) (mBin vIx (mVar 7) (mVar 9)))) (zBq (mTru (zAF zBP %[(zDw 3 zBh (mVar 0) %[(mVar 8)|0]),(zDw 3 zBh (mVar 1) %[(mVar 9)|0]),(mVar 5)|0])))) (sRet (mC (.bl false))) sNx)
def zCr:FM:=runX 4 10 (sSeq (zBo (zBm zAg %[(mVar 0),(mVar 2)|0])) (sSeq (zBo (zBm zAg %[(mVar 1),(mVar 2)|0])) (sSeq (sFor (mSrc (mVar 3)) (.nm 4) rhA) (sSeq (sSet 5 (mDcN (mSrc (mVar 3)) (.nm 4) [4] mYes (mVar 4) (mC (.bl true)))) (sSeq (sPar 6 7 %[(zBm zBJ %[(mVar 0),(mVar 2)|0]),(zBm zBJ %[(mVar 1),(mVar 2)|0])|0]) (sSeq (sFor (zHD (mVar 5)) (.tp [(.nm 8),(.nm 9)]) rhB1) (sSeq (sIf (mTst (mBin vLt (scI (zHD (mVar 5)) (.nm 4) [4] mYes (mBin vIx (mVar 4) (mC (.int 0))) zFg) (zAH (zEz 3 zA4) %[(mVar 0)|0]))) (sRet (mC (.bl false))) sNx) (sRet (mBin (vEqB false) (scI (zHD (mVar 5)) (.nm 4) [4] mYes (mBin vIx (mVar 4) (mC (.int 1))) zFg) (zAH (zEz 3 zA4) %[(mVar 1)|0]))))))))))
theorem zEb:zAL=zCr:=rfl
theorem zJI(b:Bool) (i j:Int) (st:List Cell):zAM zAf [.p (.bl b),.p (.int i),.p (.int j)] st=.ok (.p (.bl false)) st:=by
 have:=zIc (x:=.bl b) rfl i j st
 simpa[isN]using this
section
variable {w:Wy}{s t:Str}{A B:Arcs}
open Classical in
theorem zOM(hW:Wb s A) (hs:s.length≤60) (hl:A.length≤200) (hV:Wb t B) (ht:t.length≤60) (hl2:B.length≤200)
  (n1:∀st,zAM zAg [.p (webO s A),.p (.str w.s)] st=.ok (.p .non) st) (n2:∀st,zAM zAg [.p (webO t B),.p (.str w.s)] st=.ok (.p .non) st)
  (m1:∀st,zAM zBJ [.p (webO s A),.p (.str w.s)] st=.ok (.p (.lst ((List.range s.length).map (mk w s A)))) st) (m2:∀st,zAM zBJ [.p (webO t B),.p (.str w.s)] st=.ok (.p (.lst ((List.range t.length).map (mk w t B)))) st)
  {I:List Bd} (lI:I.length≤4000){w3:W}{st0:List Cell}{src:Src} (hsrc:vSrc st0 w3=some src) (hn:src.n=I.length) (hg:∀k,src.get st0 k=some ((I.map Bd.p).map W.p)[k]?) :
  zAL [.p (webO s A),.p (webO t B),.p (.str w.s),w3] st0=.ok (.p (.bl (decide (RelI w s A t B I)))) st0:=by
 have l1:=fun st=>zFZ s A ∅ st
 have l2:=fun st=>zFZ t B ∅ st
 have w1:=fun st=>zMl s A st
 have w2:=fun st=>zMl t B st
 have h1:=fun(u:Nat) (hu:u<s.length) st=>zKv (s:=s) (A:=A) (v:=(u:Int)) ∅ ∅ ∅ ∅ st
 have h2:=fun(u:Nat) (hu:u<t.length) st=>zKv (s:=t) (A:=B) (v:=(u:Int)) ∅ ∅ ∅ ∅ st
 have iw:=fun i a b st=>zDm i a b st
 have ib:=fun b i j st=>zJI b i j st
 rw[zEb];simp only[zCr,zCs];generalize webO s A=O1 at *
 generalize webO t B=O2 at *
 have hm:∀a4 a5 a6 a7 a8 a9,mSrc (mVar 3) [some (.p O1),some (.p O2),some (.p (.str w.s)),some w3,a4,a5,a6,a7,a8,a9] st0=.ok src st0:=fun a4 a5 a6 a7 a8 a9=>by
  simp[mVar,srcK,hsrc]
 generalize mSrc (mVar 3)=MS at *
 simp -implicitDefEqProofs [n1,n2,hm,-zAn,-zDL];refine zJe (l:=(I.map Bd.p).map W.p) (fun r=>zFC (r.then _)=.ok (.p (.bl (decide (RelI w s A t B I)))) st0) (fun i σ=>∃a4,(∀j:Nat,j<i→∀x,I[j]?=some x→x.in_ s.length t.length=true)∧σ=[some (.p O1),some (.p O2),some (.p (.str w.s)),some w3,a4,none,none,none,none,none]) (by simp[hn]) hg ⟨none,fun j h=>by omega,rfl⟩ ?_ ?_
 ·rintro i w0 σ hw ⟨a4,hok,rfl⟩;rw[Jd,Jd]at hw;obtain⟨p0,hp0,rfl⟩:=Jx.mp hw;obtain⟨x,hx,rfl⟩:=Jx.mp hp0
  have step:x.in_ s.length t.length=true→∀j:Nat,j<i+1→∀x,I[j]?=some x→x.in_ s.length t.length=true:=fun h j hj y hy=>by
   by_cases z:j<i
   ·exact hok j z y hy
   ·obtain rfl:j=i:=by omega
    rw[hx]at hy;cases hy;exact h
  have no:x.in_ s.length t.length=false→¬RelI w s A t B I:=fun h z=>by
   have:=z.1 x (Ji hx)
   rw[h]at this;cases this
  cases x with
  |q a b =>
   by_cases hi:Bd.in_ s.length t.length (.q a b)=true
   ·have hi':=JB hi
    conv=>arg 3;simp -implicitDefEqProofs [rhA,Bd.p,iw,l1,l2,w1,w2,show(0:Int)≤a by omega,show a≤(s.length:Int)-1 by omega,show(0:Int)≤b by omega,show b≤(t.length:Int)-1 by omega,show(s.length:Int)≤1000000 by omega,show(t.length:Int)≤1000000 by omega]
    exact⟨rfl,_,step hi,rfl⟩
   ·have no:=no (Yo.mpr hi);have hi':¬(0≤a∧a<(s.length:Int)∧0≤b∧b<(t.length:Int)):=fun z=>hi (JD z)
    by_cases ha:0≤a∧a<(s.length:Int)
    ·have hb:¬(0≤b∧b≤(t.length:Int)-1):=by omega
     have hb':=JM hb
     conv=>arg 3;simp -implicitDefEqProofs [rhA,Bd.p,iw,l1,l2,w1,w2,show(0:Int)≤a by omega,show a≤(s.length:Int)-1 by omega,hb',show(s.length:Int)≤1000000 by omega,show(t.length:Int)≤1000000 by omega]
     show Sq _ _ _;simp[Sq,no,hb]
    ·have ha:¬(0≤a∧a≤(s.length:Int)-1):=by omega
     have ha':=JM ha
     conv=>arg 3;simp -implicitDefEqProofs [rhA,Bd.p,iw,l1,l2,w1,w2,ha',show(s.length:Int)≤1000000 by omega,show(t.length:Int)≤1000000 by omega]
     show Sq _ _ _;simp[Sq,no,ha]
  |ls =>
   conv=>arg 3;simp -implicitDefEqProofs [rhA,Bd.p]
   show Sq _ _ _;simp[Sq,no rfl]
  |no =>
   conv=>arg 3;simp -implicitDefEqProofs [rhA,Bd.p]
   show Sq _ _ _;simp[Sq,no rfl]
  |t1 =>
   conv=>arg 3;simp -implicitDefEqProofs [rhA,Bd.p]
   show Sq _ _ _;simp[Sq,no rfl]
  |tb =>
   conv=>arg 3;simp -implicitDefEqProofs [rhA,Bd.p,ib,l1,l2,w1,w2,show(s.length:Int)≤1000000 by omega,show(t.length:Int)≤1000000 by omega]
   show Sq _ _ _;simp[Sq,no rfl]
 ·rintro σ ⟨a4,hok,rfl⟩;rw[Jc,Jc]at hok
  have hin:∀x∈I,x.in_ s.length t.length=true:=fun x hx=>by
   obtain⟨i,hi,e⟩:=V3.mp hx;exact hok i hi x (by rw[Ja hi,e])
  have eL:=zOn hin;have lL:(I.map Bd.nn).length=I.length:=Jc _
  have inL:∀q∈I.map Bd.nn,q.1<s.length∧q.2<t.length:=fun q hq=>by
   obtain⟨x,hx,rfl⟩:=Jj.mp hq;exact(Bd.in_q (hin x hx)).2
  have eR:RelI w s A t B I↔RelC w s A t B (I.map Bd.nn):=⟨fun h=>h.2,fun h=>⟨hin,h⟩⟩
  have dR:(decide (RelI w s A t B I))=decide (RelC w s A t B (I.map Bd.nn)):=YV.mpr eR;rw[dR];rw[eL]at hg;clear dR eR eL;generalize I.map Bd.nn=L at *
  have dc:∀a4 a5 a6 a7 a8 a9,mDcN MS (.nm 4) [4] mYes (mVar 4) (mC (.bl true)) [some (.p O1),some (.p O2),some (.p (.str w.s)),some w3,a4,a5,a6,a7,a8,a9] st0=.ok (.p (.fn (prK L) (prV L))) st0:=fun a4 a5 a6 a7 a8 a9=>by
   refine prK_dc (src:=src) (hm _ _ _ _ _ _) (by rw[hn,lL]) ∅ (by simp) fun i=>?_
   rw[hg,Jd]
  have ms:∀(σ:Sg),σ[5]?=some (some (.p (.fn (prK L) (prV L))))→zHD (mVar 5) σ st0=.ok (srcL ((prK L).map W.p)) st0:=fun σ h=>by
   unfold zHD mVar;rw[h];rfl
  have kl:=zNK L;have ms1:∀a6 a7 a8 a9,zHD (mVar 5) [some (.p O1),some (.p O2),some (.p (.str w.s)),some w3,a4,some (.p (.fn (prK L) (prV L))),a6,a7,a8,a9] st0=.ok (srcL ((prK L).map W.p)) st0:=fun a6 a7 a8 a9=>ms _ rfl
  simp -implicitDefEqProofs [dc,m1,m2,ms1,show(prK L).length≤1000000 by omega,-zAn,-zDL]
  generalize hM1:P.lst ((List.range s.length).map (mk w s A))=M1;generalize hM2:P.lst ((List.range t.length).map (mk w t B))=M2;refine zAm (fun r=>zFC (r.then _)=.ok (.p (.bl (decide (RelC w s A t B L)))) st0) (fun i σ st=>∃a8 a9,(∀j:Nat,j<i→∀x,(prK L)[j]?=some x→∀q,x=prP q→mkQ w s A q.1=mkQ w t B q.2∧Prd (KL L) (sortI (srcs A (q.1:Int))) (sortI (srcs B (q.2:Int))))∧σ=[some (.p O1),some (.p O2),some (.p (.str w.s)),some w3,a4,some (.p (.fn (prK L) (prV L))),some (.p M1),some (.p M2),a8,a9]∧st=st0) ⟨none,none,fun j h=>by omega,rfl,rfl⟩ ?_ ?_
  ·rintro i w0 σ st hw ⟨a8,a9,hok,rfl,rfl⟩;rw[Jd]at hw;obtain⟨x,hx,rfl⟩:=Jx.mp hw;obtain⟨q,hq,rfl⟩:=Jj.mp (zEg.mp (Ji hx));obtain⟨b1,b2⟩:=inL q hq
   have i1:∀st,vIx (.p M1) (.p (.int (q.1:Int))) st=.ok (.p (mkP (mkQ w s A q.1))) st:=fun st=>by
    rw[←hM1,←zQK b1];simp[b1]
   have i2:∀st,vIx (.p M2) (.p (.int (q.2:Int))) st=.ok (.p (mkP (mkQ w t B q.2))) st:=fun st=>by
    rw[←hM2,←zQK b2];simp[b2]
   have cq1:okC (mkQ w s A q.1).1:=by
    have e:s.cps.toList[q.1]?=some (s.cps.toList[q.1]'b1):=Ja b1;unfold mkQ;rw[e];exact hW.ch _ (JL b1)
   have cq2:okC (mkQ w t B q.2).1:=by
    have e:t.cps.toList[q.2]?=some (t.cps.toList[q.2]'b2):=Ja b2;unfold mkQ;rw[e];exact hV.ch _ (JL b2)
   have eqm:=fun st=>zOW cq1 cq2 st
   have pd:=fun st=>zPz (l:=sortI (srcs A (q.1:Int))) (r:=sortI (srcs B (q.2:Int))) (kn:=.fn (prK L) (prV L)) (K:=KL L) (fun x hx y hy st=>by
    have hx:=(zGv hW.inn _ x ((sortI_perm _).mem_iff.mp hx));have hy:=(zGv hV.inn _ y ((sortI_perm _).mem_iff.mp hy));have r:=zRY L (x.toNat,y.toNat) st;rw[show(((x.toNat,y.toNat):Nat×Nat).1:Int)=x by show((x.toNat:Nat):Int)=x;omega,show(((x.toNat,y.toNat):Nat×Nat).2:Int)=y by show((y.toNat:Nat):Int)=y;omega]at r
    exact r) (by
     rw[(sortI_perm _).length_eq]
     have:=zGn A (q.1:Int)
     omega) (by
     rw[(sortI_perm _).length_eq]
     have:=zGn B (q.2:Int)
     omega) st
   have g1:=h1 q.1 b1;have g2:=h2 q.2 b2
   by_cases e1:mkQ w s A q.1=mkQ w t B q.2
   ·rw[show decide (mkQ w s A q.1=mkQ w t B q.2)=true from JD e1]at eqm
    by_cases e2:Prd (KL L) (sortI (srcs A (q.1:Int))) (sortI (srcs B (q.2:Int)))
    ·rw[JD e2]at pd
     conv=>arg 3;simp -implicitDefEqProofs [rhB1,prP,i1,i2,eqm,g1,g2,w1,w2,pd]
     refine⟨_,_,fun j hj x' hx' q' hq'=>?_,rfl,rfl⟩
     by_cases z:j<i
     ·exact hok j z x' hx' q' hq'
     ·obtain rfl:j=i:=by omega
      rw[hx]at hx';cases hx';obtain rfl:=zRR hq';exact⟨e1,e2⟩
    ·rw[JM e2]at pd
     conv=>arg 3;simp -implicitDefEqProofs [rhB1,prP,i1,i2,eqm,g1,g2,w1,w2,pd]
     have no:¬RelC w s A t B L:=fun z=>e2 (z.1 q hq).2
     show Sq _ _ _;simp[Sq,no]
   ·rw[show decide (mkQ w s A q.1=mkQ w t B q.2)=false from JM e1]at eqm
    conv=>arg 3;simp -implicitDefEqProofs [rhB1,prP,i1,i2,eqm,g1,g2,w1,w2,pd]
    have no:¬RelC w s A t B L:=fun z=>e1 (z.1 q hq).1
    show Sq _ _ _;simp[Sq,no]
  ·rintro σ st ⟨a8,a9,hok,rfl,rfl⟩;rw[Jc]at hok
   have all:∀q∈L,mkQ w s A q.1=mkQ w t B q.2∧Prd (KL L) (sortI (srcs A (q.1:Int))) (sortI (srcs B (q.2:Int))):=fun q hq=>by
    obtain⟨i,hi,e⟩:=V3.mp (zEg.mpr (Vg hq));exact hok i hi _ (by rw[Ja hi]) q e
   obtain⟨c1,x1,y1,s1⟩:=zNt (L:=L) (n:=s.length) ∅ ∅ prF (mBin vIx (mVar 4) (mC (.int 0))) (fun q=>q.1) (fun q=>rfl) (ms [some (.p O1),some (.p O2),some (.p (.str w.s)),some w3,a4,some (.p (.fn (prK L) (prV L))),some (.p M1),some (.p M2),a8,a9] rfl) (by simp) (fun q hq σ1 h=>by simp[mVar,h,prP]) (fun q hq=>(inL q hq).1)
   obtain⟨c2,x2,y2,s2⟩:=zNt (L:=L) (n:=t.length) ∅ ∅ prS (mBin vIx (mVar 4) (mC (.int 1))) (fun q=>q.2) (fun q=>rfl) (ms [some (.p O1),some (.p O2),some (.p (.str w.s)),some w3,a4,some (.p (.fn (prK L) (prV L))),some (.p M1),some (.p M2),a8,a9] rfl) (by simp) (fun q hq σ1 h=>by simp[mVar,h,prP]) (fun q hq=>(inL q hq).2)
   have rc:RelC w s A t B L↔c1=s.length∧c2=t.length:=by
    rw[y1,y2];exact⟨fun h=>h.2,fun h=>⟨all,h⟩⟩
   have dR:(decide (RelC w s A t B L))=decide (c1=s.length∧c2=t.length):=YV.mpr rc;rw[dR];clear dR
   by_cases z1:c1=s.length
   ·subst z1
    by_cases z2:c2=t.length
    ·simp -implicitDefEqProofs [s1,s2,l1,l2,w1,w2,z2,show(s.length:Int)≤1000000 by omega,show(t.length:Int)≤1000000 by omega]
    ·have zi:((c2:Int)==(t.length:Int))=false:=by rw[VB];omega
     simp -implicitDefEqProofs [s1,s2,l1,l2,w1,w2,z2,zi,show(s.length:Int)≤1000000 by omega,show(t.length:Int)≤1000000 by omega]
   ·have lt:(c1:Int)<s.length:=by omega
    simp -implicitDefEqProofs [s1,s2,l1,l2,w1,w2,z1,lt,show(s.length:Int)≤1000000 by omega,show(t.length:Int)≤1000000 by omega]
end
end
section
open Y YZ NS
theorem callC3{F:FM}{x y z:P}{c:Cell} (h:F [.p x,.p y,.r 0] [c]=.ok (.p z) [c]) (pc:zAx c=true){st:List Cell}{j:Nat} (hj:st[j]?=some c):zAM F [.p x,.p y,.r j] st=.ok (.p z) st:=by
 have e:=zHu hj;unfold zAM;simp[Y.argRefs,Y.argIn,Y.getCells,hj,pc,h,Y.callEnd,Y.putCells,e]
theorem zQT{F:FM}{x y u z:P}{c:Cell} (h:F [.p x,.p y,.p u,.r 0] [c]=.ok (.p z) [c]) (pc:zAx c=true){st:List Cell}{j:Nat} (hj:st[j]?=some c):zAM F [.p x,.p y,.p u,.r j] st=.ok (.p z) st:=by
 have e:=zHu hj;unfold zAM;simp[Y.argRefs,Y.argIn,Y.getCells,hj,pc,h,Y.callEnd,Y.putCells,e]
theorem zL8{l m:List P}{st:List Cell}{j:Nat} (h:st[j]?=some (.lst (l.map W.p))):vInB false (.p (.tup m)) (.r j) st=vInB false (.p (.tup m)) (.p (.lst l)) st:=by
 have e:unC st (.r j)=some (.lst l):=by
  unfold unC;simp only[h,zBa]
 have e2:unC st (.p (.lst l))=some (.lst l):=rfl;unfold vInB;simp only[seqP,unD,e,e2]
theorem zGf(l:List P):zAx (.lst (l.map W.p))=true:=by simp[zAx,content,zBa]
open Classical in
theorem zJK{c:Cell} (pc:zAx c=true){K:Int→Int→Bool}:∀ {n:Nat}{l r:List Int},l.length<n→r.length≤200→(∀x∈l,∀y∈r,vInB false (.p (.tup [.int x,.int y])) (.r 0) [c]=.ok (.p (.bl (K x y))) [c])→∀(st:List Cell) (j:Nat),st[j]?=some c →
  zAM (zAt n) [.p (.lst (l.map P.int)),.p (.lst (r.map P.int)),.r j] st=.ok (.p (.bl (decide (Prd K l r)))) st
 |0,l,r,h,_,_,_,_,_=>by omega
 |n+1,l,r,h,hr,hin,st,j,hj=>by
  refine callC3 ?_ pc hj;clear hj;clear st;rw[zHy];simp only[zAQ]
  have q1:∀(l:List Int) st,vEqB false (.p (.lst (l.map P.int))) (.p (.lst [])) st=.ok (.p (.bl (decide (l=[])))) st:=fun l st=>by
   have:=zCi (n:=false) (st:=st) (x:=.lst (l.map P.int)) (y:=.lst (([]:List Int).map P.int)) (by rw[okP,VR];exact Jp.mpr fun _ _=>rfl) (by simp)
   rw[zH3]at this;simpa using this
  have q2:∀(l m:List Int) st,vEqB false (.p (.lst (l.map P.int))) (.p (.lst (m.map P.int))) st=.ok (.p (.bl (decide (l=m)))) st:=fun l m st=>by
   have:=zCi (n:=false) (st:=st) (x:=.lst (l.map P.int)) (y:=.lst (m.map P.int)) (by rw[okP,VR];exact Jp.mpr fun _ _=>rfl) (by rw[okP,VR];exact Jp.mpr fun _ _=>rfl)
   rw[zH3]at this;simpa using this
  cases l with
  |nil =>
   have d:decide (Prd K [] r)=decide (([]:List Int)=r):=YV.mpr (zPj.trans eq_comm);rw[d];have e1:=fun st=>q1 [] st
   have e2:=fun st=>q2 [] r st
   simp only[VS,decide_true]at e1 e2;rw[VS];generalize hr0:P.lst (r.map P.int)=R0 at *
   simp[e1,e2]
  |cons x l =>
   have lh:l.length<n:=by simpa using h
   have e1:=fun st=>q1 (x::l) st
   have e2:=fun st=>q1 r st
   have e3:=fun st=>q2 (x::l) r st
   by_cases hr0:r=[]
   ·subst hr0;have no:¬Prd K (x::l) []:=zPx;simp only[VS]at e2 e3;generalize hl0:P.lst ((x::l).map P.int)=L0 at *
    simp[e1,e2,e3,no]
   ·have lr:0<r.length:=List.length_pos_iff.mpr hr0;simp[e1,e2,hr0,show(r.length:Int)≤1000000 by omega,show(-1000000:Int)≤r.length by omega,show r.length≤1000000 by omega,-zAn,-zDL,-List.map_cons]
    rw[zJP];refine zAm (fun res=>runR (res.then _)=.ok (.p (.bl (decide (Prd K (x::l) r)))) [c]) (fun i σ st=>∃(a3:Option W),(∀j:Nat,j<i→¬(K x (at0 r j)=true∧Prd K l (outI r j)))∧σ=[some (.p (.lst ((x::l).map P.int))),some (.p (.lst (r.map P.int))),some (.r 0),a3]∧st=[c]) ⟨none,fun j h=>by omega,rfl,rfl⟩ ?_ ?_
    ·rintro i w σ st hw ⟨a3,hno,rfl,rfl⟩;rw[Jd]at hw;obtain⟨i',hi',rfl⟩:=Jx.mp hw
     have hir:i<r.length:=by
      have:=(Jb.mp hi').1
      simpa using this
     obtain rfl:i=i':=by
      obtain⟨_,e⟩:=Jb.mp hi';rw[YI]at e;exact e
     have ei:=zJ4 hir;have c1:=zPs r (i:=i) ∅;have c2:=zJo r (i:=i) ∅;have c3:=zP7 x l;have n1:=fun st=>zD3 true (at0 r (i:Int)) (r.take i) st
     have k1:=hin x Jg _ (zKJ hir)
     have rec1:=zJK pc (K:=K) (n:=n) (l:=l) (r:=outI r i) lh (by
      have:=(zDc hir).length_eq
      rw[JJ]at this;omega) fun a ha b hb=>hin a (Jf _ ha) b ((zDc hir).mem_iff.mpr (Jf _ hb))
     rw[show(outI r i).map P.int=(r.take i).map P.int++(r.drop (i+1)).map P.int by unfold outI;rw[JE]]at rec1
     have rec_:=rec1 [c] 0 rfl;have lt:((r.take i).map P.int).length+((r.drop (i+1)).map P.int).length≤1000000:=by simp;omega
     generalize (r.take i).map P.int=T1 at *
     generalize (r.drop (i+1)).map P.int=T2 at *
     have step:¬(K x (at0 r i)=true∧Prd K l (outI r i))→∀j:Nat,j<i+1→¬(K x (at0 r j)=true∧Prd K l (outI r j)):=fun h j hj=>by
      by_cases z:j<i
      ·exact hno j z
      ·obtain rfl:j=i:=by omega
       exact h
     by_cases h1:at0 r (i:Int)∈r.take i
     ·rw[show decide (at0 r (i:Int)∈r.take i)=true from JD h1]at n1
      conv=>arg 3;simp[lpdB,ei,c1,n1]
      refine⟨_,step ?_,rfl,rfl⟩;rintro⟨z1,z2⟩;obtain⟨j,hj,e⟩:=V3.mp h1;rw[Vy]at hj
      have e2:at0 r (j:Int)=at0 r (i:Int):=by
       rw[zE2 ∅,←e,List.getElem_take]
      refine hno j ∅ ⟨by rw[e2];exact z1,z2.perm ?_⟩
      have:=(zDc hir).symm.trans (zDc (r:=r) (i:=j) ∅)
      rw[e2]at this;exact(jf _).mp this
     ·rw[show decide (at0 r (i:Int)∈r.take i)=false from JM h1]at n1
      by_cases h2:K x (at0 r (i:Int))=true
      ·rw[h2]at k1
       by_cases h3:Prd K l (outI r i)
       ·rw[JD h3]at rec_
        conv=>arg 3;simp[lpdB,ei,c1,n1,k1,c2,c3,lt,rec_]
        show Sq _ _ _;simp[Sq,prd_at hir h2 h3]
       ·rw[JM h3]at rec_
        conv=>arg 3;simp[lpdB,ei,c1,n1,k1,c2,c3,lt,rec_]
        exact⟨_,step fun z=>h3 z.2,rfl,rfl⟩
      ·rw[Yo.mpr h2]at k1
       conv=>arg 3;simp[lpdB,ei,c1,n1,k1]
       exact⟨_,step fun z=>h2 z.1,rfl,rfl⟩
    ·rintro σ st ⟨a3,hno,rfl,rfl⟩;rw[Jc,JN]at hno
     have no:¬Prd K (x::l) r:=fun z=>by
      obtain⟨i,hi,h1,h2⟩:=zRT z;exact hno i hi ⟨h1,h2⟩
     simp[no]
def zBQ:FM:=runF 4 10 (sSeq (sSet 4 (mLc (mSrc (mVar 3)) (.nm 9) [9] mYes (zCu (mIsi "tuple" (mVar 9)) (mBin (vEqB false) (zAH vLen %[(mVar 9)|0]) (mC (.int 2)))) finP))
  (sSeq (sIf (mOrT (zBq (mTru (zAH (zGy fun bs=>bs.all id) %[(mVar 4)|0]))) (zBq (mTru (zAH (zGy fun bs=>bs.all id) %[(mLc (mSrc (mVar 3)) (.nm 9) [9] mYes (zCu (zAF zAU %[(mBin vIx (mVar 9) (mC (.int 0))),(mC (.int 0)),(mBin vSub (zAH vLen %[(mBin vIx (mVar 0) (mC (.int 0)))|0]) (mC (.int 1)))|0]) (zAF zAU %[(mBin vIx (mVar 9) (mC (.int 1))),(mC (.int 0)),(mBin vSub (zAH vLen %[(mBin vIx (mVar 1) (mC (.int 0)))|0]) (mC (.int 1)))|0])) finP)|0])))) (sRet (mC (.bl false))) sNx)
  (sSeq (sIf (mOrT (mTst (mBin (vEqB true) (zEU (mLc (mSrc (mVar 3)) (.nm 9) [9] mYes (mBin vIx (mVar 9) (mC (.int 0))) finP)) (zCe (zAH vLen %[(mBin vIx (mVar 0) (mC (.int 0)))|0])))) (mTst (mBin (vEqB true) (zEU (mLc (mSrc (mVar 3)) (.nm 9) [9] mYes (mBin vIx (mVar 9) (mC (.int 1))) finP)) (zCe (zAH vLen %[(mBin vIx (mVar 1) (mC (.int 0)))|0]))))) (sRet (mC (.bl false))) sNx)
  (sSeq (sPar 5 6 %[(zAF zBA %[(mVar 0),(mVar 2)|0]),(zAF zBA %[(mVar 1),(mVar 2)|0])|0])
  (sSeq (sFor (mSrc (mVar 3)) (.tp [(.nm 7),(.nm 8)]) (sIf (mOrT (mTst (mBin (vEqB true) (mBin vIx (mVar 5) (mVar 7)) (mBin vIx (mVar 6) (mVar 8)))) (zBq (mTru (zAF (zAt 12) %[(zAF zAu %[(mVar 0),(mVar 7)|0]),(zAF zAu %[(mVar 1),(mVar 8)|0]),(mVar 3)|0])))) (sRet (mC (.bl false))) sNx))
  (sRet (mC (.bl true))))))))
def lrB:SMm:=(sIf (mOrT (mTst (mBin (vEqB true) (mBin vIx (mVar 5) (mVar 7)) (mBin vIx (mVar 6) (mVar 8)))) (zBq (mTru (zAF (zAt 12) %[(zAF zAu %[(mVar 0),(mVar 7)|0]),(zAF zAu %[(mVar 1),(mVar 8)|0]),(mVar 3)|0])))) (sRet (mC (.bl false))) sNx)
def zD6:FM:=runF 4 10 (sSeq (sSet 4 (mLc (mSrc (mVar 3)) (.nm 9) [9] mYes (zCu (mIsi "tuple" (mVar 9)) (mBin (vEqB false) (zAH vLen %[(mVar 9)|0]) (mC (.int 2)))) finP)) (sSeq (sIf (mOrT (zBq (mTru (zAH (zGy fun bs=>bs.all id) %[(mVar 4)|0]))) (zBq (mTru (zAH (zGy fun bs=>bs.all id) %[(mLc (mSrc (mVar 3)) (.nm 9) [9] mYes (zCu (zAF zAU %[(mBin vIx (mVar 9) (mC (.int 0))),(mC (.int 0)),(mBin vSub (zAH vLen %[(mBin vIx (mVar 0) (mC (.int 0)))|0]) (mC (.int 1)))|0]) (zAF zAU %[(mBin vIx (mVar 9) (mC (.int 1))),(mC (.int 0)),(mBin vSub (zAH vLen %[(mBin vIx (mVar 1) (mC (.int 0)))|0]) (mC (.int 1)))|0])) finP)|0])))) (sRet (mC (.bl false))) sNx) (sSeq (sIf (mOrT (mTst (mBin (vEqB true) (zEU (mLc (mSrc (mVar 3)) (.nm 9) [9] mYes (mBin vIx (mVar 9) (mC (.int 0))) finP)) (zCe (zAH vLen %[(mBin vIx (mVar 0) (mC (.int 0)))|0])))) (mTst (mBin (vEqB true) (zEU (mLc (mSrc (mVar 3)) (.nm 9) [9] mYes (mBin vIx (mVar 9) (mC (.int 1))) finP)) (zCe (zAH vLen %[(mBin vIx (mVar 1) (mC (.int 0)))|0]))))) (sRet (mC (.bl false))) sNx) (sSeq (sPar 5 6 %[(zAF zBA %[(mVar 0),(mVar 2)|0]),(zAF zBA %[(mVar 1),(mVar 2)|0])|0]) (sSeq (sFor (mSrc (mVar 3)) (.tp [(.nm 7),(.nm 8)]) lrB) (sRet (mC (.bl true))))))))
theorem zG6:zBQ=zD6:=rfl
end
section
open Y YZ NS
section
variable {w:Wy}{s t:Str}{A B:Arcs}
theorem zJY{α:Type} (l:List α) (f:α→Bool):((l.map f).all id)=l.all f:=by rw[VR];rfl
theorem zHv{α:Type}{I:List α}{f:α→P}{e:EM}{σ:Sg} (g:α→P) (hI:I.length≤1000000) (h9:9<σ.length) (H:∀x∈I,∀σ1:Sg,σ1=((zAv σ [9]).set 9 (some (.p (f x))))→e σ1 [.lst (I.map fun x=>.p (f x))]=.ok (.p (g x)) [.lst (I.map fun x=>.p (f x))]) :
  lcK (.nm 9) [9] mYes e finP σ (srcC 0 I.length) [.lst (I.map fun x=>.p (f x))]=.ok (.p (.lst (I.map g))) [.lst (I.map fun x=>.p (f x))]:=by
 have h:=zOY (α:=α) (l:=I) (f:=fun x=>W.p (f x)) (t:=.nm 9) (vs:=[9]) (c:=mYes) (e:=e) (fin:=finP) (j:=0) (m:=I.length) (σ:=σ) (st:=[.lst (I.map fun x=>.p (f x))]) (fun _=>true) g rfl rfl hI fun x hx=>⟨_,zBl _ _,by simp,fun _=>H x hx _ rfl⟩
 rw[h];simp[List.filter_eq_self.mpr (fun(x:α) (_:x∈I)=>rfl)]
open Classical in
theorem lr_run(hW:Wb s A) (hs:s.length≤60) (hl:A.length≤200) (hV:Wb t B) (ht:t.length≤60) (hl2:B.length≤200) (hd:∀v:Nat,v<s.length→(srcs A (v:Int)).length≤10) (hd2:∀v:Nat,v<t.length→(srcs B (v:Int)).length≤10)
  {I:List Bd} (lI:I.length≤1000) :
  zBQ [.p (wP s A),.p (wP t B),.p (.str w.s),.r 0] [.lst (I.map fun x=>.p x.p)]=.ok (.p (.bl (decide (RelI w s A t B I)))) [.lst (I.map fun x=>.p x.p)]:=by
 have x0:=wp0 s A;have y0:=wp0 t B;have k1:=fun st=>zGZ (w:=w) (s:=s) (A:=A) ∅ ∅ st
 have k2:=fun st=>zGZ (w:=w) (s:=t) (A:=B) ∅ ∅ st
 have smA:∀q∈A,zCC q:=fun q hq=>by
  have:=hW.inn q hq
  unfold zCC;omega
 have smB:∀q∈B,zCC q:=fun q hq=>by
  have:=hV.inn q hq
  unfold zCC;omega
 have h1:=fun(v:Int) st=>zDI (s:=s) (A:=A) smA ∅ v st
 have h2:=fun(v:Int) st=>zDI (s:=t) (A:=B) smB ∅ v st
 have in1:=fun i a b st=>zFY (i:=i) (a:=a) (b:=b) st
 have in2:=fun i a b st=>zFs (i:=i) (a:=a) (b:=b) st
 rw[zG6];simp only[zD6,zAQ];generalize wP s A=O1 at *
 generalize wP t B=O2 at *
 have L1:∀σ:Sg,9<σ.length→lcK (.nm 9) [9] mYes (zCu (mIsi "tuple" (mVar 9)) (mBin (vEqB false) (zAH vLen %[(mVar 9)|0]) (mC (.int 2)))) finP σ (srcC 0 I.length) [.lst (I.map fun x=>.p x.p)]=.ok (.p (.lst (I.map fun x=>.bl x.t2))) [.lst (I.map fun x=>.p x.p)]:=fun σ h9=>by
  refine zHv _ ∅ h9 fun x hx σ1 e=>?_
  have e9:σ1[9]?=some (some (.p x.p)):=by rw[e,Jw (by simp[zAv];omega)]
  cases x<;>simp[mVar,e9,Bd.p,Bd.t2]
 have L2:I.all Bd.t2=true→∀σ:Sg,9<σ.length→σ[0]?=some (some (.p O1))→σ[1]?=some (some (.p O2))→lcK (.nm 9) [9] mYes (zCu (zAF zAU %[(mBin vIx (mVar 9) (mC (.int 0))),(mC (.int 0)),(mBin vSub (zAH vLen %[(mBin vIx (mVar 0) (mC (.int 0)))|0]) (mC (.int 1)))|0]) (zAF zAU %[(mBin vIx (mVar 9) (mC (.int 1))),(mC (.int 0)),(mBin vSub (zAH vLen %[(mBin vIx (mVar 1) (mC (.int 0)))|0]) (mC (.int 1)))|0])) finP σ (srcC 0 I.length) [.lst (I.map fun x=>.p x.p)]=.ok (.p (.lst (I.map fun x=>.bl (x.in_ s.length t.length)))) [.lst (I.map fun x=>.p x.p)]:=fun ha σ h9 s0 s1=>by
  refine zHv _ ∅ h9 fun x hx σ1 e=>?_
  have e9:σ1[9]?=some (some (.p x.p)):=by rw[e,Jw (by simp[zAv];omega)]
  have e0:σ1[0]?=some (some (.p O1)):=by rw[e,Jv ∅];simp[zAv,s0]
  have e1:σ1[1]?=some (some (.p O2)):=by rw[e,Jv ∅];simp[zAv,s1]
  have hx2:=Jp.mp ha x hx;cases x with
  |q a b =>
   by_cases ha:0≤a∧a<(s.length:Int)
   ·by_cases hb:0≤b∧b<(t.length:Int)
    ·have a1:a≤(s.length:Int)-1:=by omega
     have b1:b≤(t.length:Int)-1:=by omega
     simp[mVar,e9,e0,e1,Bd.p,Bd.in_,x0,y0,in1,ha.1,ha.2,a1,hb.1,hb.2,b1,show s.length≤1000000 by omega,show t.length≤1000000 by omega]
    ·have b1:(decide (0≤b)&&decide (b≤(t.length:Int)-1))=false:=by
      rw[YL,Ya,Ya];omega
     have a1:a≤(s.length:Int)-1:=by omega
     simp[mVar,e9,e0,e1,Bd.p,Bd.in_,x0,y0,in1,ha.1,ha.2,a1,hb,b1,show s.length≤1000000 by omega,show t.length≤1000000 by omega]
   ·have a1:(decide (0≤a)&&decide (a≤(s.length:Int)-1))=false:=by
     rw[YL,Ya,Ya];omega
    have h3:¬(0≤a∧a<(s.length:Int)∧0≤b∧b<(t.length:Int)):=fun z=>ha ⟨z.1,z.2.1⟩
    simp[mVar,e9,e0,e1,Bd.p,Bd.in_,x0,y0,in1,a1,h3,show s.length≤1000000 by omega,show t.length≤1000000 by omega]
  |tb=>simp[mVar,e9,e0,e1,Bd.p,Bd.in_,x0,y0,in2,show s.length≤1000000 by omega,show t.length≤1000000 by omega]
  |ls=>cases hx2
  |no=>cases hx2
  |t1=>cases hx2
 by_cases ha:I.all Bd.t2=true
 case neg =>
  have no:¬RelI w s A t B I:=fun z=>ha (Jp.mpr fun x hx=>by
   have:=z.1 x hx
   cases x<;>first|rfl|cases this)
  have ha:=Yo.mpr ha;simp[L1,ha,zJY,no]
 have L2:=L2 ha
 by_cases hi:I.all (Bd.in_ s.length t.length)=true
 case neg =>
  have no:¬RelI w s A t B I:=fun z=>hi (Jp.mpr z.1)
  have hi:=Yo.mpr hi;simp[L1,L2,ha,hi,zJY,no]
 have hin:∀x∈I,x.in_ s.length t.length=true:=fun x hx=>Jp.mp hi x hx
 have fx:∀x∈I,x.p=prP x.nn∧x.nn.1<s.length∧x.nn.2<t.length:=fun x hx=>Bd.in_q (hin x hx)
 have L3:∀σ:Sg,9<σ.length→lcK (.nm 9) [9] mYes (mBin vIx (mVar 9) (mC (.int 0))) finP σ (srcC 0 I.length) [.lst (I.map fun x=>.p x.p)]=.ok (.p (.lst (I.map fun x=>.int (x.nn.1:Int)))) [.lst (I.map fun x=>.p x.p)]:=fun σ h9=>by
  refine zHv _ ∅ h9 fun x hx σ1 e=>?_
  have e9:σ1[9]?=some (some (.p x.p)):=by rw[e,Jw (by simp[zAv];omega)]
  simp[mVar,e9,(fx x hx).1,prP]
 have L4:∀σ:Sg,9<σ.length→lcK (.nm 9) [9] mYes (mBin vIx (mVar 9) (mC (.int 1))) finP σ (srcC 0 I.length) [.lst (I.map fun x=>.p x.p)]=.ok (.p (.lst (I.map fun x=>.int (x.nn.2:Int)))) [.lst (I.map fun x=>.p x.p)]:=fun σ h9=>by
  refine zHv _ ∅ h9 fun x hx σ1 e=>?_
  have e9:σ1[9]?=some (some (.p x.p)):=by rw[e,Jw (by simp[zAv];omega)]
  simp[mVar,e9,(fx x hx).1,prP]
 have ec:I.map (fun x=>W.p x.p)=((I.map Bd.nn).map prP).map W.p:=by
  rw[←zOn hin,Jm];rfl
 have g3:I.map (fun x=>P.int (x.nn.1:Int))=((I.map Bd.nn).map fun q=>(q.1:Int)).map P.int:=by rw[Jm,Jm];rfl
 have g4:I.map (fun x=>P.int (x.nn.2:Int))=((I.map Bd.nn).map fun q=>(q.2:Int)).map P.int:=by rw[Jm,Jm];rfl
 have eR:RelI w s A t B I↔RelC w s A t B (I.map Bd.nn):=⟨fun h=>h.2,fun h=>⟨hin,h⟩⟩
 have dR:(decide (RelI w s A t B I))=decide (RelC w s A t B (I.map Bd.nn)):=YV.mpr eR;rw[dR];have lL:(I.map Bd.nn).length=I.length:=Jc _
 have inL:∀q∈I.map Bd.nn,q.1<s.length∧q.2<t.length:=fun q hq=>by
  obtain⟨x,hx,rfl⟩:=Jj.mp hq;exact(fx x hx).2
 rw[g3]at L3;rw[g4]at L4;rw[ec]at L1 L2 L3 L4 ⊢;clear dR eR g3 g4 ec fx hin;have lc:(((I.map Bd.nn).map prP).map W.p).length=I.length:=by simp
 generalize I.map Bd.nn=L at *
 have b1:∀k∈L.map (fun q=>(q.1:Int)),0≤k∧k<(s.length:Int):=fun k hk=>by
  obtain⟨q,hq,rfl⟩:=Jj.mp hk
  have:=(inL q hq).1
  omega
 have b2:∀k∈L.map (fun q=>(q.2:Int)),0≤k∧k<(t.length:Int):=fun k hk=>by
  obtain⟨q,hq,rfl⟩:=Jj.mp hk
  have:=(inL q hq).2
  omega
 have f1:=zNM b1;have f2:=zNM b2;have v1:=fun st=>zHS (M:=L.map (fun q=>(q.1:Int))) (by rw[Jc];omega) ∅ st
 have v2:=fun st=>zHS (M:=L.map (fun q=>(q.2:Int))) (by rw[Jc];omega) ∅ st
 have r1:(List.range s.length).map (fun(i:Nat)=>P.int (i:Int))=((List.range s.length).map fun(i:Nat)=>(i:Int)).map P.int:=by rw[Jm];rfl
 have r2:(List.range t.length).map (fun(i:Nat)=>P.int (i:Int))=((List.range t.length).map fun(i:Nat)=>(i:Int)).map P.int:=by rw[Jm];rfl
 have q1:=fun st=>zCi (st:=st) (n:=true) (zLH (dsI (L.map fun q=>(q.1:Int)))) (zLH ((List.range s.length).map fun(i:Nat)=>(i:Int)))
 have q2:=fun st=>zCi (st:=st) (n:=true) (zLH (dsI (L.map fun q=>(q.2:Int)))) (zLH ((List.range t.length).map fun(i:Nat)=>(i:Int)))
 rw[zH3]at q1 q2
 have cov1:dsI (L.map fun q=>(q.1:Int))=(List.range s.length).map (fun(i:Nat)=>(i:Int))↔∀i:Nat,i<s.length→∃q∈L,q.1=i:=(zQ5 b1).trans (forall_congr' fun u=>imp_congr_right fun hu=>by
  rw[Jj]
  exact⟨fun⟨q,hq,e⟩=>⟨q,hq,∅⟩,fun⟨q,hq,e⟩=>⟨q,hq,∅⟩⟩)
 have cov2:dsI (L.map fun q=>(q.2:Int))=(List.range t.length).map (fun(i:Nat)=>(i:Int))↔∀i:Nat,i<t.length→∃q∈L,q.2=i:=(zQ5 b2).trans (forall_congr' fun u=>imp_congr_right fun hu=>by
  rw[Jj]
  exact⟨fun⟨q,hq,e⟩=>⟨q,hq,∅⟩,fun⟨q,hq,e⟩=>⟨q,hq,∅⟩⟩)
 generalize (L.map fun q=>(q.1:Int))=M1 at *
 generalize (L.map fun q=>(q.2:Int))=M2 at *
 clear b1 b2 f1 f2;generalize dsI M1=D1 at *
 generalize dsI M2=D2 at *
 have hc0:((L.map prP).map W.p).length=I.length:=lc
 by_cases hd1:D1=(List.range s.length).map (fun(i:Nat)=>(i:Int))
 case neg =>
  have no:¬RelC w s A t B L:=fun z=>hd1 (cov1.mpr z.2.1)
  rw[JM hd1]at q1;generalize ((List.range s.length).map fun(i:Nat)=>(i:Int))=R1 at *
  generalize hcc:(L.map prP).map W.p=CC at *
  simp[L1,L2,L3,L4,hc0,ha,hi,zJY,zFc,v1,v2,x0,y0,show s.length≤1000000 by omega,show(s.length:Int)≤1000000 by omega,r1,q1,no]
 by_cases hd2:D2=(List.range t.length).map (fun(i:Nat)=>(i:Int))
 case neg =>
  have no:¬RelC w s A t B L:=fun z=>hd2 (cov2.mpr z.2.2)
  rw[JM hd2]at q2;rw[JD hd1]at q1;generalize ((List.range s.length).map fun(i:Nat)=>(i:Int))=R1 at *
  generalize ((List.range t.length).map fun(i:Nat)=>(i:Int))=R2 at *
  generalize hcc:(L.map prP).map W.p=CC at *
  simp[L1,L2,L3,L4,hc0,ha,hi,zJY,zFc,v1,v2,x0,y0,show s.length≤1000000 by omega,show(s.length:Int)≤1000000 by omega,show t.length≤1000000 by omega,show(t.length:Int)≤1000000 by omega,r1,q1,r2,q2,no]
 rw[JD hd1]at q1;rw[JD hd2]at q2;have cv1:=cov1.mp hd1;have cv2:=cov2.mp hd2;clear cov1 cov2 hd1 hd2;generalize ((List.range s.length).map fun(i:Nat)=>(i:Int))=R1 at *
 generalize ((List.range t.length).map fun(i:Nat)=>(i:Int))=R2 at *
 have vin:∀x y:Int,0≤x→0≤y→vInB false (.p (.tup [.int x,.int y])) (.r 0) [.lst ((L.map prP).map W.p)]=.ok (.p (.bl (KL L x y))) [.lst ((L.map prP).map W.p)]:=fun x y hx hy=>by
  rw[zL8 (l:=L.map prP) rfl]
  have:=zP0 L x.toNat y.toNat [.lst ((L.map prP).map W.p)]
  rw[show((x.toNat:Nat):Int)=x by omega,show((y.toNat:Nat):Int)=y by omega]at this
  exact this
 have pc:=zGf (L.map prP)
 have lp:∀q∈L,∀st j,st[j]?=some (.lst ((L.map prP).map W.p))→zAM (zAt 12) [.p (.lst ((sortI (srcs A (q.1:Int))).map P.int)),.p (.lst ((sortI (srcs B (q.2:Int))).map P.int)),.r j] st=.ok (.p (.bl (decide (Prd (KL L) (sortI (srcs A (q.1:Int))) (sortI (srcs B (q.2:Int))))))) st:=fun q hq st j hj=>by
  obtain⟨c1,c2⟩:=inL q hq;have d1:=hd q.1 c1;have d2:=hd2 q.2 c2;refine zJK pc (by rw[(sortI_perm _).length_eq];omega) (by rw[(sortI_perm _).length_eq];omega) (fun x hx y hy=>?_) st j hj
  have hx:=zGv hW.inn _ x ((sortI_perm _).mem_iff.mp hx);have hy:=zGv hV.inn _ y ((sortI_perm _).mem_iff.mp hy);exact vin x y hx.1 hy.1
 have hg:∀k,(srcC 0 I.length).get [.lst ((L.map prP).map W.p)] k=some ((L.map prP).map W.p)[k]?:=fun k=>rfl
 have get:∀i:Nat,((L.map prP).map W.p)[i]?=L[i]?.map fun q=>W.p (prP q):=fun i=>by rw[Jd,Jd,Option.map_map];rfl
 generalize hcc:(L.map prP).map W.p=CC at *
 simp[L1,L2,L3,L4,hc0,ha,hi,zJY,zFc,v1,v2,x0,y0,show s.length≤1000000 by omega,show(s.length:Int)≤1000000 by omega,show t.length≤1000000 by omega,show(t.length:Int)≤1000000 by omega,r1,q1,r2,q2,k1,k2,-zAn,-zDL]
 generalize hG:P.lst (I.map fun x=>P.bl x.t2)=G1 at *
 generalize hM1:P.lst ((List.range s.length).map (mk w s A))=N1;generalize hM2:P.lst ((List.range t.length).map (mk w t B))=N2;refine zJe (l:=CC) (fun r=>runR (r.then _)=.ok (.p (.bl (decide (RelC w s A t B L)))) [.lst CC]) (fun i σ=>∃a7 a8,(∀j:Nat,j<i→∀q,L[j]?=some q→mkQ w s A q.1=mkQ w t B q.2∧Prd (KL L) (sortI (srcs A (q.1:Int))) (sortI (srcs B (q.2:Int))))∧σ=[some (.p O1),some (.p O2),some (.p (.str w.s)),some (.r 0),some (.p G1),some (.p N1),some (.p N2),a7,a8,none]) (by rw[hc0];rfl) hg ⟨none,none,fun j h=>by omega,rfl⟩ ?_ ?_
 ·rintro i w0 σ hw ⟨a7,a8,hok,rfl⟩;rw[get]at hw;obtain⟨q,hx,rfl⟩:=Jx.mp hw;have hq:=Ji hx;obtain⟨b1,b2⟩:=inL q hq
  have i1:∀st,vIx (.p N1) (.p (.int (q.1:Int))) st=.ok (.p (mkP (mkQ w s A q.1))) st:=fun st=>by
   rw[←hM1,←zQK b1];simp[b1]
  have i2:∀st,vIx (.p N2) (.p (.int (q.2:Int))) st=.ok (.p (mkP (mkQ w t B q.2))) st:=fun st=>by
   rw[←hM2,←zQK b2];simp[b2]
  have cq1:okC (mkQ w s A q.1).1:=by
   have e:s.cps.toList[q.1]?=some (s.cps.toList[q.1]'b1):=Ja b1;unfold mkQ;rw[e];exact hW.ch _ (JL b1)
  have cq2:okC (mkQ w t B q.2).1:=by
   have e:t.cps.toList[q.2]?=some (t.cps.toList[q.2]'b2):=Ja b2;unfold mkQ;rw[e];exact hV.ch _ (JL b2)
  have eqm:=fun st=>zOW cq1 cq2 st
  have pd:=lp q hq;have g1:=h1 (q.1:Int);have g2:=h2 (q.2:Int)
  by_cases e1:mkQ w s A q.1=mkQ w t B q.2
  ·rw[show decide (mkQ w s A q.1=mkQ w t B q.2)=true from JD e1]at eqm
   by_cases e2:Prd (KL L) (sortI (srcs A (q.1:Int))) (sortI (srcs B (q.2:Int)))
   ·rw[JD e2]at pd
    conv=>arg 3;simp -implicitDefEqProofs [lrB,prP,i1,i2,eqm,g1,g2,pd]
    refine⟨rfl,_,_,fun j hj q' hq'=>?_,rfl⟩
    by_cases z:j<i
    ·exact hok j z q' hq'
    ·obtain rfl:j=i:=by omega
     rw[hx]at hq';cases hq';exact⟨e1,e2⟩
   ·rw[JM e2]at pd
    conv=>arg 3;simp -implicitDefEqProofs [lrB,prP,i1,i2,eqm,g1,g2,pd]
    have no:¬RelC w s A t B L:=fun z=>e2 (z.1 q hq).2
    show Sq _ _ _;simp[Sq,no]
  ·rw[show decide (mkQ w s A q.1=mkQ w t B q.2)=false from JM e1]at eqm
   conv=>arg 3;simp -implicitDefEqProofs [lrB,prP,i1,i2,eqm,g1,g2,pd]
   have no:¬RelC w s A t B L:=fun z=>e1 (z.1 q hq).1
   show Sq _ _ _;simp[Sq,no]
 ·rintro σ ⟨a7,a8,hok,rfl⟩;have lCC:CC.length=L.length:=by rw[←hcc];simp
  rw[lCC]at hok
  have yes:RelC w s A t B L:=⟨fun q hq=>by
   obtain⟨i,hi,e⟩:=V3.mp hq
   exact hok i hi q (by rw[Ja hi,e]),cv1,cv2⟩
  simp[yes]
end
end
section
open Y YZ NS
abbrev Ru:=Int×Int×Int×Int
def lat(R:List Ru) (own:Int) (h:List Int):Int:=match R with
 |[]=>own
 |q::R=>if q.1=own∧q.2.2.1≤(h.count q.2.1:Nat)then q.2.2.2 else lat R own h
def stA(t:Ru) (c:Nat):Int:=if c=97 then t.1 else if c=98 then t.2.1 else if c=99 then t.2.2.1 else t.2.2.2
def sq0(t:Ru) (s:Str):List Int:=s.cps.toList.map (stA t)
def sqN(R:List Ru) (A:Arcs) (n:Nat) (S:List Int):List Int:=(List.range n).map fun(v:Nat)=>lat R (at0 S (v:Int)) ((sortI (srcs A (v:Int))).map (at0 S))
def sq(t:Ru) (R:List Ru) (s:Str) (A:Arcs):Nat→List Int
 |0=>sq0 t s
 |k+1=>sqN R A s.length (sq t R s A k)
end
section
open Y YZ NS
def SqX(I:Sg→List Cell→Prop) (F:SR→Prop):SR→Prop
 | .ok .nx σ st=>I σ st
 | .ok .ct σ st=>I σ st
 | .ok .bk σ st=>F (.ok .nx σ st)
 | .ok (.rt w) σ st=>F (.ok (.rt w) σ st)
 | .exc x σ st=>F (.exc x σ st)
 | .no=>False
end
section
open Y YZ NS
def stepC(pt:Nat→W→Sg→Option Sg) (b:SMm) (i:Nat) (l:List P) (σ:Sg) (st:List Cell):SR:=match pt i (.r st.length) σ with
 |some σ1=>b σ1 (st++[.lst (l.map W.p)])
 |none=>.no
theorem zGT{r:LR}{pt:Nat→W→Sg→Option Sg}{b:SMm} (F:SR→Prop) (I:Nat→Sg→List Cell→Prop){σ:Sg}{st:List Cell} (h0:I 0 σ st)
  (all:∀(i:Nat) (z:P),r.src.1[i]?=some z→∃l,z=.lst l) (step:∀(i:Nat) (l:List P) σ st,r.src.1[i]?=some (.lst l)→I i σ st→SqX (I (i+1)) F (stepC pt b i l σ st)) (fin:∀σ st,I r.src.1.length σ st→r.src.2=true∧F (.ok .nx σ st)):F (forC r pt b (r.src.1.length+1) 0 σ st):=by
 have go:∀(n i:Nat) (σ:Sg) (st:List Cell),i≤r.src.1.length→r.src.1.length-i<n→I i σ st→F (forC r pt b n i σ st):=by
  intro n
  induction n with
  |zero=>intro i σ st _ h;omega
  |succ n ih =>
   intro i σ st hi hn hI;unfold forC
   by_cases hl:i<r.src.1.length
   ·have hz:r.src.1[i]?=some r.src.1[i]:=Ja hl;obtain⟨l,el⟩:=all i _ hz;rw[el]at hz;have s:=step i l σ st hz hI;simp only[hz];unfold stepC at s;cases ep:pt i (.r st.length) σ with
    |none=>rw[ep]at s;exact s.elim
    |some σ1 =>
     rw[ep]at s;have s:SqX (I (i+1)) F (b σ1 (st++[.lst (l.map W.p)])):=s;dsimp only;cases er:b σ1 (st++[.lst (l.map W.p)])with
     |no=>rw[er]at s;exact s.elim
     |exc x σ2 st2=>rw[er]at s;exact s
     |ok fl σ2 st2 =>
      rw[er]at s;cases fl with
      |nx=>exact ih (i+1) σ2 st2 hl ∅ s
      |ct=>exact ih (i+1) σ2 st2 hl ∅ s
      |bk=>exact s
      |rt w=>exact s
   ·have hi':i=r.src.1.length:=by omega
    subst hi';obtain⟨h1,h2⟩:=fin σ st hI;simp only[Jt (JH _)];rw[JW h1];exact h2
 exact go _ 0 σ st (J3 _) ∅ h0
end
end YS
namespace K18
open Y YZ YS NS
section
def zAj:FM:=runF 1 2 (sRet (zAH zG7 %[(mLc (zBO (zAH vLen %[(mBin vIx (mVar 0) (mC (.int 0)))|0])) (.nm 1) [1] mYes (zAH vLen %[(zAF zAu %[(mVar 0),(mVar 1)|0])|0]) finP)|0]))
def zBR:FM:=runF 2 4 (sSeq (sSet 2 (zDB mNil))
  (sSeq (sFor (mSrc (mVar 1)) (.nm 3) (zBo (mBm "list" zFV (mVar 2) %[(zAF zAG %[(mVar 0),(mBin vAdd (zAH vLen %[(mVar 2)|0]) (mC (.int 1)))|0]),(mVar 3)|0])))
  (sRet (mVar 2))))
def sm_law:FM:=runF 1 13 (sSeq (sSet 1 (zAF zCw %[(mVar 0)|0]))
  (sSeq (sFor (zBO (mC (.int 6))) (.nm 2) (sSeq (sSet 5 (zAF zAW %[(mVar 1),(zAF zCY mNil)|0]))
  (sSeq (sSet 6 (mIfE (mTst (mBin (vEqB false) (mVar 5) (mC (.str "marked")))) (zAF zA9 %[(mVar 1),(mVar 5),(mC (.int 4))|0]) (zAF zCc %[(mVar 1),(mVar 5)|0])))
  (sSeq (sSet 7 (zAF zDU %[(mVar 1),(mVar 6),(mVar 5)|0]))
  (sSeq (sIf (mTst (mBin vGt (zAH zG7 %[(zAF zAj %[(mVar 6)|0]),(zAF zAj %[(mVar 7)|0])|0]) (mC (.int 5)))) sCnt sNx)
  (sSeq (sSet 8 (zAF zBU %[(mVar 6),(mVar 7),(mVar 5)|0]))
  (sFor (zBO (mC (.int 5))) (.nm 9) (sSeq (sSet 10 (zAH zFQ %[(mVar 8)|0]))
  (sSeq (sIf (mTst (mBin (vEqB false) (zAF zAG %[(mVar 1),(mC (.int 3))|0]) (mC (.int 0)))) (sSet 10 (mLc (mSrc (mVar 10)) (.nm 12) [12] (mTst (mBin vGt (zAF zAG %[(mVar 1),(mC (.int 4))|0]) (mC (.int 0)))) (mVar 12) finC)) sNx)
  (sSeq (sIf (mTst (mBin (vEqB false) (zAF zAG %[(mVar 1),(mC (.int 3))|0]) (mC (.int 0)))) (sSet 10 (zAF zBR %[(mVar 1),(mBin vAdd (mVar 10) (mSl (mVar 10) zE4 (zFM (mC (.int 2)))))|0])) sNx)
  (sSeq (sIf (mTst (mBin (vEqB false) (zAF zAG %[(mVar 1),(mC (.int 3))|0]) (mC (.int 0)))) (zBo (mBm "list" zAs (mVar 10) %[(zAF zAW %[(mVar 1),(mLst %[(mTup %[(mC (.int 0)),(mC (.int 0))|0]),(mTup %[(mC (.int 0)),(zAH vLen %[(mBin vIx (mVar 7) (mC (.int 0)))|0])|0]),(mTup %[(mNeg (mC (.int 1))),(mC (.int 0))|0]),(mLst %[(mC (.int 0)),(mC (.int 0))|0]),(mC .non),(mTup %[(mC (.int 0))|0]),(mTup %[(mC (.bl true)),(mC (.int 0))|0]),(mTup %[(mC (.int 0)),(mBin vSub (zAH vLen %[(mBin vIx (mVar 7) (mC (.int 0)))|0]) (mC (.int 1)))|0])|0])|0])|0])) sNx)
  (sSeq (sSet 11 (zBm zAL %[(zBm zB2 %[(mVar 6)|0]),(zBm zB2 %[(mVar 7)|0]),(mVar 5),(zKq zAW %[(mVar 1),(zDB %[(mVar 10),(zAH zDW %[(mVar 10)|0])|0])|0])|0]))
  (sIf (zBq (mTru (zAF (zAY 12) %[(mVar 11),(zAF zBQ %[(mVar 6),(mVar 7),(mVar 5),(mVar 10)|0])|0]))) (sRet (mC (.bl false))) sNx)))))))))))))
  (sSeq (sPar 3 4 %[(zHb 3 zBf [.bl false] %[(mC (.str "ab"))|0]),(zHb 3 zBf [.bl false] %[(mC (.str "abab"))|0])|0])
  (sRet (zCu (zIl (noxF zAL) [2,3,1,0] 4 %[(mLst %[(mTup %[(mC (.int 0)),(mC (.int 0))|0]),(mTup %[(mC (.int 1)),(mC (.int 1))|0]),(mTup %[(mC (.int 0)),(mC (.int 2))|0]),(mTup %[(mC (.int 1)),(mC (.int 3))|0])|0]),(mC (.str "heard")),(mVar 3),(mVar 4)|0]) (zJu (zBm zAL %[(mVar 3),(mVar 4),(mC (.str "heard")),(mLst %[(mTup %[(mC (.int 0)),(mC (.int 0))|0]),(mTup %[(mC (.int 1)),(mC (.int 1))|0])|0])|0])))))))
def i0:SMm:=(sSet 10 (zAH zFQ %[(mVar 8)|0]))
def i1:SMm:=(sIf (mTst (mBin (vEqB false) (zAF zAG %[(mVar 1),(mC (.int 3))|0]) (mC (.int 0)))) (sSet 10 (mLc (mSrc (mVar 10)) (.nm 12) [12] (mTst (mBin vGt (zAF zAG %[(mVar 1),(mC (.int 4))|0]) (mC (.int 0)))) (mVar 12) finC)) sNx)
def i2:SMm:=(sIf (mTst (mBin (vEqB false) (zAF zAG %[(mVar 1),(mC (.int 3))|0]) (mC (.int 0)))) (sSet 10 (zAF zBR %[(mVar 1),(mBin vAdd (mVar 10) (mSl (mVar 10) zE4 (zFM (mC (.int 2)))))|0])) sNx)
def i3:SMm:=(sIf (mTst (mBin (vEqB false) (zAF zAG %[(mVar 1),(mC (.int 3))|0]) (mC (.int 0)))) (zBo (mBm "list" zAs (mVar 10) %[(zAF zAW %[(mVar 1),(mLst %[(mTup %[(mC (.int 0)),(mC (.int 0))|0]),(mTup %[(mC (.int 0)),(zAH vLen %[(mBin vIx (mVar 7) (mC (.int 0)))|0])|0]),(mTup %[(mNeg (mC (.int 1))),(mC (.int 0))|0]),(mLst %[(mC (.int 0)),(mC (.int 0))|0]),(mC .non),(mTup %[(mC (.int 0))|0]),(mTup %[(mC (.bl true)),(mC (.int 0))|0]),(mTup %[(mC (.int 0)),(mBin vSub (zAH vLen %[(mBin vIx (mVar 7) (mC (.int 0)))|0]) (mC (.int 1)))|0])|0])|0])|0])) sNx)
def i4:SMm:=(sSeq (sSet 11 (zBm zAL %[(zBm zB2 %[(mVar 6)|0]),(zBm zB2 %[(mVar 7)|0]),(mVar 5),(zKq zAW %[(mVar 1),(zDB %[(mVar 10),(zAH zDW %[(mVar 10)|0])|0])|0])|0])) (sIf (zBq (mTru (zAF (zAY 12) %[(mVar 11),(zAF zBQ %[(mVar 6),(mVar 7),(mVar 5),(mVar 10)|0])|0]))) (sRet (mC (.bl false))) sNx))
def bI:SMm:=(sSeq i0 (sSeq i1 (sSeq i2 (sSeq i3 i4))))
def j6:SMm:=(sSet 6 (mIfE (mTst (mBin (vEqB false) (mVar 5) (mC (.str "marked")))) (zAF zA9 %[(mVar 1),(mVar 5),(mC (.int 4))|0]) (zAF zCc %[(mVar 1),(mVar 5)|0])))
def bT:SMm:=(sSeq (sSet 5 (zAF zAW %[(mVar 1),(zAF zCY mNil)|0])) (sSeq j6 (sSeq (sSet 7 (zAF zDU %[(mVar 1),(mVar 6),(mVar 5)|0])) (sSeq (sIf (mTst (mBin vGt (zAH zG7 %[(zAF zAj %[(mVar 6)|0]),(zAF zAj %[(mVar 7)|0])|0]) (mC (.int 5)))) sCnt sNx) (sSeq (sSet 8 (zAF zBU %[(mVar 6),(mVar 7),(mVar 5)|0])) (sFor (zBO (mC (.int 5))) (.nm 9) bI))))))
def bE:SMm:=(sSeq (sPar 3 4 %[(zHb 3 zBf [.bl false] %[(mC (.str "ab"))|0]),(zHb 3 zBf [.bl false] %[(mC (.str "abab"))|0])|0]) (sRet (zCu (zIl (noxF zAL) [2,3,1,0] 4 %[(mLst %[(mTup %[(mC (.int 0)),(mC (.int 0))|0]),(mTup %[(mC (.int 1)),(mC (.int 1))|0]),(mTup %[(mC (.int 0)),(mC (.int 2))|0]),(mTup %[(mC (.int 1)),(mC (.int 3))|0])|0]),(mC (.str "heard")),(mVar 3),(mVar 4)|0]) (zJu (zBm zAL %[(mVar 3),(mVar 4),(mC (.str "heard")),(mLst %[(mTup %[(mC (.int 0)),(mC (.int 0))|0]),(mTup %[(mC (.int 1)),(mC (.int 1))|0])|0])|0])))))
def zNc:FM:=runF 1 13 (sSeq (sSet 1 (zAF zCw %[(mVar 0)|0])) (sSeq (sFor (zBO (mC (.int 6))) (.nm 2) bT) bE))
theorem law_eq:sm_law=zNc:=rfl
def Yes(r:Res W):Prop:=∃st,r=.ok (.p (.bl true)) st
theorem vSl_r(i:Nat) (lo hi:Option Int) (st:List Cell) (l:List P) (h:st[i]?=some (.lst (l.map W.p))):vSl (.r i) lo hi st=.ok (.p (.lst (cutL l lo hi))) st:=by
 unfold vSl unC;simp[h]
theorem vAdd_r{i:Nat}{st:List Cell}{l:List P} (h:st[i]?=some (.lst (l.map W.p))) (m:List P) (hl:l.length+m.length≤1000000):vAdd (.r i) (.p (.lst m)) st=.ok (.p (.lst (l++m))) st:=by
 unfold vAdd unC;simp[h];exact JW hl
theorem zR7{α:Type} (l:List α):cutL l none (some 2)=l.take 2:=by
 unfold cutL HT.sIx;simp
theorem g0(l m:List Cell) (x:Cell):(l++x::m)[l.length]?=some x:=by
 rw[Jq (JH _),Nat.sub_self];rfl
def lsC(I:List Bd):Cell:=.lst (I.map fun x=>.p x.p)
theorem zMp(I:List Bd):lsC I=.lst ((I.map Bd.p).map W.p):=by unfold lsC;rw[Jm];rfl
theorem of_two{c:Cell} (hc:GB c){rest:List Cell}{i:Nat}{x y:W} (h:rest[i]?=some (.lst [x,y])) :
  ∃c' w,GB c'∧(w=x∨w=y)∧zAW [.r 0,.r (i+1)] (c::rest)=.ok w (c'::rest):=by
 obtain⟨_,c1,e1,hc1,k,rfl,k0,k1⟩:=(zAk (n:=2) ∅ (zAT ∅ ∅)).call1 hc rest;have hk:k=0∨k=1:=by omega
 rcases hk with rfl|rfl
 ·exact⟨c1,x,hc1,.inl rfl,by simp[zAW,zAQ,h,e1]⟩
 ·exact⟨c1,y,hc1,.inr rfl,by simp[zAW,zAQ,h,e1]⟩
theorem zQX{σ0:Sg} (s1:σ0[1]?=some (some (.r 0))) (s12:12<σ0.length){rest:List Cell}{j:Nat}{I:List Bd} (hj:rest[j]?=some (lsC I)):∀(n i:Nat) (c:Cell),GB c→i≤I.length→I.length-i<n →
  ∃(c':Cell) (J:List Bd),GB c'∧J.length≤I.length-i∧lcF (srcC (j+1) I.length) (.nm 12) (mTst (mBin vGt (zAF zAG %[(mVar 1),(mC (.int 4))|0]) (mC (.int 0)))) (mVar 12) σ0 n i (c::rest)=.ok (J.map fun x:Bd=>W.p x.p) (c'::rest)
 |0,i,c,_,_,h=>by omega
 |n+1,i,c,hc,hi,hn=>by
  have hg:(c::rest)[j+1]?=some (.lst (I.map fun x=>.p x.p)):=by rw[Vo];exact hj
  rw[lcF,zF6 hg]
  by_cases hl:i<I.length
  ·rw[Jd,Ja hl];obtain⟨_,c1,e1,hc1,k,rfl,k0,k1⟩:=(zAk (n:=4) ∅ (zAT ∅ ∅)).call1 hc rest;obtain⟨c2,J,hc2,hJ,e2⟩:=zQX s1 s12 hj n (i+1) c1 hc1 ∅ ∅;have s1':(σ0.set 12 (some (.p I[i].p)))[1]?=some (some (.r 0)):=by rw[Jv ∅];exact s1
   have s12':(σ0.set 12 (some (.p I[i].p)))[12]?=some (some (.p I[i].p)):=by rw[Jw s12]
   have ce:mTst (mBin vGt (zAF zAG %[(mVar 1),(mC (.int 4))|0]) (mC (.int 0))) (σ0.set 12 (some (.p I[i].p))) (c::rest)=.ok (decide (0<k)) (c1::rest):=by
    simp[mVar,s1',e1]
   simp only[VF,zBl,ce]
   by_cases hk:0<k
   ·refine⟨c2,I[i]::J,hc2,by rw[JJ];omega,?_⟩
    simp[hk,mVar,s12',e2]
   ·refine⟨c2,J,hc2,∅,?_⟩;simp[hk,e2]
  ·rw[Jt (by rw[Jc];omega)]
   exact⟨c,[],hc,by simp,rfl⟩
theorem zSo{l:List P} (h1:l.length<100000){c:Cell} (hc:GB c) (rest:List Cell):∃(c':Cell) (m:List P),GB c'∧m.Perm l∧zAM zBR [.r 0,.p (.lst l)] (c::rest)=.ok (.r (rest.length+1)) (c'::(rest++[.lst (m.map W.p)])):=by
 have r:∃(c':Cell) (m:List P),GB c'∧m.Perm l∧zBR [.r 0,.p (.lst l)] [c]=.ok (.r 1) [c',.lst (m.map W.p)]:=by
  simp[zBR,zAQ];refine zAm (fun r=>∃(c':Cell),GB c'∧∃(m:List P),m.Perm l∧runR (r.then (sRet (mVar 2)))=.ok (.r 1) [c',.lst (m.map W.p)]) (fun i σ st=>∃x m c',σ=[some (.r 0),some (.p (.lst l)),some (.r 1),x]∧st=[c',.lst (m.map W.p)]∧GB c'∧m.Perm (l.take i)) ⟨none,[],c,rfl,rfl,hc,.nil⟩ ?_ ?_
  ·rintro i w σ st hw ⟨x,m,c1,rfl,rfl,h1c,hp⟩;rw[Jd]at hw;obtain⟨y,hy,rfl⟩:=Jx.mp hw;have hi:i<l.length:=(Jb.mp hy).1;have hml:m.length=i:=by rw[hp.length_eq,Vy];omega
   obtain⟨r,c2,e,hc2,k,rfl,k0,k1⟩:=(zAk (n:=m.length+1) ∅ (zAT ∅ ∅)).call1 h1c [.lst (m.map W.p)]
   conv=>arg 3;simp[e,k0,show m.length<1000000 by omega,show k≤1000000 by omega]
   refine⟨_,m.take k.toNat++y::m.drop k.toNat,c2,rfl,by simp,hc2,?_⟩
   rw[VD,hy];refine bQ.trans ?_
   rw[YN];refine List.Perm.trans (List.Perm.cons y hp) ?_
   exact(bf y _).symm
  ·rintro σ st ⟨x,m,c',rfl,rfl,hc',hp⟩;rw[Jc,Vk (JH _)]at hp;exact⟨c',hc',m,hp,by simp⟩
 obtain⟨c',m,hc',hp,e⟩:=r;refine⟨c',m,hc',hp,?_⟩;unfold zAM;simp[Y.argRefs,Y.argIn,Y.getCells,hc.plain,hc'.plain,e,Y.callEnd,Y.putCells,zGf]
theorem zOe:∀ {l:List Int}{x:Int},x∈l→x≤maxI l
 |[i],x,h=>by simp at h;subst h;exact jh _
 |i::j::l,x,h=>by
  show x≤max i (maxI (j::l));rcases Jo.mp h with rfl|h
  ·omega
  ·have:=zOe (l:=j::l) h
   omega
theorem zNk{s:Str}{A:Arcs} (hW:Wb s A) (hs:s.length≤60) (hl:A.length≤200):∃m:Int,(∀st,zAM zAj [.p (wP s A)] st=.ok (.p (.int m)) st)∧∀v:Nat,v<s.length→((srcs A (v:Int)).length:Int)≤m:=by
 have smA:∀q∈A,zCC q:=fun q hq=>by
  have:=hW.inn q hq
  unfold zCC;omega
 have h1:=fun(v:Int) st=>zDI (s:=s) (A:=A) smA ∅ v st
 have x0:=wp0 s A;have n0:=hW.n0;refine⟨maxI ((List.range s.length).map fun(v:Nat)=>((srcs A (v:Int)).length:Int)),fun st=>Pu.call1 (Pu.of1 ?_) st,fun v hv=>?_⟩
 ·generalize wP s A=O1 at *
  have L:=zDA (f:=fun(v:Nat)=>W.p (.int (v:Int))) (l:=List.range s.length) (t:=.nm 1) (e:=zAH vLen %[(zAF zAu %[(mVar 0),(mVar 1)|0])|0]) (σ0:=[some (.p O1),none]) (st:=[]) (fun(v:Nat)=>P.int ((srcs A (v:Int)).length:Int)) fun v hv=>by
   have le:(srcs A (v:Int)).length≤1000000:=by have:=zGn A (v:Int);omega
   have l2:(sortI (srcs A (v:Int))).length=(srcs A (v:Int)).length:=(sortI_perm _).length_eq;exact⟨_,zBl _ _,by simp[h1,l2,le]⟩
  rw[←zJP]at L
  have ii:intsOf ((List.range s.length).map fun(v:Nat)=>P.int ((srcs A (v:Int)).length:Int))=some ((List.range s.length).map fun(v:Nat)=>((srcs A (v:Int)).length:Int)):=by
   have:=zDf ((List.range s.length).map fun(v:Nat)=>((srcs A (v:Int)).length:Int))
   rw[Jm]at this;exact this
  simp[zAj,zAQ,x0,L,ii,show s.length≤1000000 by omega,show(s.length:Int)≤1000000 by omega,show(-1000000:Int)≤s.length by omega,n0]
 ·exact zOe (Jj.mpr ⟨v,Jy.mpr hv,rfl⟩)
def SI(N:Nat) (a0 a2 a3 a4:Option W) (w:Wy) (p1 p2 p3:P) (σ:Sg) (st:List Cell):Prop:=∃c rest j I a9 a11,GB c∧I.length≤N∧rest[j]?=some (lsC I)∧σ=[a0,some (.r 0),a2,a3,a4,some (.p (.str w.s)),some (.p p1),some (.p p2),some (.p p3),a9,some (.r (j+1)),a11,none]∧st=c::rest
theorem i0_ok{N:Nat}{a0 a2 a3 a4:Option W}{w:Wy}{p1 p2:P}{L:List (Nat×Nat)} (hL:L.length≤N) (hN:N≤100000){c:Cell} (hc:GB c) (rest:List Cell) (a9 a10 a11:Option W) :
  ∃σ' st',i0 [a0,some (.r 0),a2,a3,a4,some (.p (.str w.s)),some (.p p1),some (.p p2),some (.p (.lst (L.map prP))),a9,a10,a11,none] (c::rest)=.ok .nx σ' st'∧SI N a0 a2 a3 a4 w p1 p2 (.lst (L.map prP)) σ' st':=by
 have e:(L.map prP).map W.p=(L.map fun q=>Bd.q q.1 q.2).map fun x=>W.p x.p:=by rw[Jm,Jm];rfl
 have e2:lsC (L.map fun q=>Bd.q q.1 q.2)=.lst ((L.map prP).map W.p):=by unfold lsC;rw[←e]
 refine⟨[a0,some (.r 0),a2,a3,a4,some (.p (.str w.s)),some (.p p1),some (.p p2),some (.p (.lst (L.map prP))),a9,some (.r (rest.length+1)),a11,none],c::(rest++[lsC (L.map fun q=>Bd.q q.1 q.2)]),?_,c,rest++[lsC (L.map fun q=>Bd.q q.1 q.2)],rest.length,_,a9,a11,hc,by rw[Jc];exact hL,g0 _ _ _,rfl,rfl⟩
 rw[e2];generalize L.map prP=M at *
 simp[i0]
theorem i1_ok{N:Nat}{a0 a2 a3 a4:Option W}{w:Wy}{p1 p2 p3:P} (hN:N≤100000){σ:Sg}{st:List Cell} (h:SI N a0 a2 a3 a4 w p1 p2 p3 σ st):∃σ' st',i1 σ st=.ok .nx σ' st'∧SI N a0 a2 a3 a4 w p1 p2 p3 σ' st':=by
 obtain⟨c,rest,j,I,a9,a11,hc,lI,hj,rfl,rfl⟩:=h;obtain⟨_,c1,e1,hc1,k,rfl,k0,k1⟩:=(zAk (n:=3) ∅ (zAT ∅ ∅)).call1 hc rest
 by_cases hk:k=0
 ·subst hk;obtain⟨c2,J,hc2,hJ,e2⟩:=zQX (σ0:=[a0,some (.r 0),a2,a3,a4,some (.p (.str w.s)),some (.p p1),some (.p p2),some (.p p3),a9,some (.r (j+1)),a11,none]) rfl (by simp) hj (I.length+1) 0 c1 hc1 ∅ ∅
  have lc:lcK (.nm 12) [12] (mTst (mBin vGt (zAF zAG %[(mVar 1),(mC (.int 4))|0]) (mC (.int 0)))) (mVar 12) finC [a0,some (.r 0),a2,a3,a4,some (.p (.str w.s)),some (.p p1),some (.p p2),some (.p p3),a9,some (.r (j+1)),a11,none] (srcC (j+1) I.length) (c1::rest)=.ok (.r (rest.length+1)) (c2::(rest++[lsC J])):=by
   rw[zNA,JW (show(srcC (j+1) I.length).n≤1000000 from Vs lI ∅)]
   have w0:zAv [a0,some (.r 0),a2,a3,a4,some (.p (.str w.s)),some (.p p1),some (.p p2),some (.p p3),a9,some (.r (j+1)),a11,none] [12]=[a0,some (.r 0),a2,a3,a4,some (.p (.str w.s)),some (.p p1),some (.p p2),some (.p p3),a9,some (.r (j+1)),a11,none]:=rfl;rw[w0];show(lcF (srcC (j+1) I.length) _ _ _ _ (I.length+1) 0 _).bind _=_;rw[e2];simp[lsC]
  have hj':rest[j]?=some (.lst (I.map fun x=>.p x.p)):=hj
  refine⟨[a0,some (.r 0),a2,a3,a4,some (.p (.str w.s)),some (.p p1),some (.p p2),some (.p p3),a9,some (.r (rest.length+1)),a11,none],c2::(rest++[lsC J]),?_,c2,rest++[lsC J],rest.length,J,a9,a11,hc2,∅,g0 _ _ _,rfl,rfl⟩;simp[i1,e1,hj',lc]
 ·refine⟨_,_,?_,c1,rest,j,I,a9,a11,hc1,lI,hj,rfl,rfl⟩;simp[i1,e1,hk]
theorem i2_ok{N:Nat}{a0 a2 a3 a4:Option W}{w:Wy}{p1 p2 p3:P} (hN:N≤10000){σ:Sg}{st:List Cell} (h:SI N a0 a2 a3 a4 w p1 p2 p3 σ st):∃σ' st',i2 σ st=.ok .nx σ' st'∧SI (N+2) a0 a2 a3 a4 w p1 p2 p3 σ' st':=by
 obtain⟨c,rest,j,I,a9,a11,hc,lI,hj,rfl,rfl⟩:=h;obtain⟨_,c1,e1,hc1,k,rfl,k0,k1⟩:=(zAk (n:=3) ∅ (zAT ∅ ∅)).call1 hc rest
 by_cases hk:k=0
 ·subst hk;have hj':rest[j]?=some (.lst ((I.map Bd.p).map W.p)):=by rw[hj,zMp]
  have sl:=vSl_r (j+1) none (some 2) (c1::rest) (I.map Bd.p) (by rw[Vo];exact hj')
  have ct:cutL (I.map Bd.p) none (some 2)=(I.take 2).map Bd.p:=by
   rw[YX];exact zR7 _
  obtain⟨c2,m,hc2,hm,e2⟩:=zSo (l:=I.map Bd.p++(I.take 2).map Bd.p) (by simp;omega) hc1 rest
  rw[←JE]at hm;obtain⟨J,hJ,rfl⟩:=perm_lift hm rfl
  have lJ:J.length≤N+2:=by
   rw[hJ.length_eq,Ju,Vy];omega
  have eJ:((J.map Bd.p).map W.p)=J.map fun x=>W.p x.p:=by rw[Jm];rfl
  refine⟨[a0,some (.r 0),a2,a3,a4,some (.p (.str w.s)),some (.p p1),some (.p p2),some (.p p3),a9,some (.r (rest.length+1)),a11,none],c2::(rest++[lsC J]),?_,c2,rest++[lsC J],rest.length,J,a9,a11,hc2,lJ,g0 _ _ _,rfl,rfl⟩;rw[eJ]at e2;have l1:(I.map Bd.p).length+((I.take 2).map Bd.p).length≤1000000:=by simp;omega
  have va:=vAdd_r (i:=j+1) (st:=c1::rest) (l:=I.map Bd.p) (by rw[Vo];exact hj') ((I.take 2).map Bd.p) l1
  generalize (I.take 2).map Bd.p=T2 at *
  generalize I.map Bd.p=T1 at *
  simp[i2,e1,hj',sl,ct,va,e2,lsC]
 ·refine⟨_,_,?_,c1,rest,j,I,a9,a11,hc1,∅,hj,rfl,rfl⟩;simp[i2,e1,hk]
def odds(n:Nat):List Bd:=[.q 0 0,.q 0 n,.q (-1) 0,.ls,.no,.t1,.tb,.q 0 ((n:Int)-1)]
theorem i3_ok{N:Nat}{a0 a2 a3 a4:Option W}{w:Wy}{p1 p3:P}{t:Str}{B:Arcs} (ht:t.length≤1000) (hN:N≤10000){σ:Sg}{st:List Cell} (h:SI N a0 a2 a3 a4 w p1 (wP t B) p3 σ st):∃σ' st',i3 σ st=.ok .nx σ' st'∧SI (N+1) a0 a2 a3 a4 w p1 (wP t B) p3 σ' st':=by
 obtain⟨c,rest,j,I,a9,a11,hc,lI,hj,rfl,rfl⟩:=h;have y0:=wp0 t B;generalize wP t B=p2 at *
 obtain⟨_,c1,e1,hc1,k,rfl,k0,k1⟩:=(zAk (n:=3) ∅ (zAT ∅ ∅)).call1 hc rest
 by_cases hk:k=0
 ·subst hk;obtain⟨v,c2,e2,hc2,hv⟩:=(zRl (l:=(odds t.length).map Bd.p) (by simp[odds]) (by simp[odds])).call1 hc1 rest
  obtain⟨x,hx,rfl⟩:=Jj.mp hv;have e2:zAM zAW [.r 0,.p (.lst [.tup [.int 0,.int 0],.tup [.int 0,.int t.length],.tup [.int (-1),.int 0],.lst [.int 0,.int 0],.non,.tup [.int 0],.tup [.bl true,.int 0],.tup [.int 0,.int ((t.length:Int)-1)]])] (c1::rest)=.ok (.p x.p) (c2::rest):=e2;have hj':rest[j]?=some (.lst (I.map fun x=>.p x.p)):=hj
  have hl:=(Jb.mp hj).1;refine⟨[a0,some (.r 0),a2,a3,a4,some (.p (.str w.s)),some (.p p1),some (.p p2),some (.p p3),a9,some (.r (j+1)),a11,none],c2::rest.set j (lsC (I++[x])),?_,c2,rest.set j (lsC (I++[x])),j,I++[x],a9,a11,hc2,by simp;omega,by rw[Jw hl],rfl,rfl⟩
  simp[i3,e1,hj',e2,y0,show t.length≤1000000 by omega,show I.length<1000000 by omega,lsC]
 ·refine⟨_,_,?_,c1,rest,j,I,a9,a11,hc1,∅,hj,rfl,rfl⟩;simp[i3,e1,hk]
def ST(a0 a2 a3 a4:Option W) (w:Wy) (p1 p2 p3:P) (σ:Sg) (st:List Cell):Prop:=∃c rest a9 a10 a11,GB c∧σ=[a0,some (.r 0),a2,a3,a4,some (.p (.str w.s)),some (.p p1),some (.p p2),some (.p p3),a9,a10,a11,none]∧st=c::rest
open Classical in
theorem i4_ok(F:SR→Prop){N:Nat}{a0 a2 a3 a4:Option W}{w:Wy}{p3:P}{s t:Str}{A B:Arcs} (hN:N≤1000) (hW:Wb s A) (hs:s.length≤9) (hl:A.length<64) (hw:isW w s A=true) (hV:Wb t B) (ht:t.length≤12) (hl2:B.length<64) (hw2:isW w t B=true)
  (hd:∀v:Nat,v<s.length→(srcs A (v:Int)).length≤10) (hd2:∀v:Nat,v<t.length→(srcs B (v:Int)).length≤10){σ:Sg}{st:List Cell} (h:SI N a0 a2 a3 a4 w (wP s A) (wP t B) p3 σ st):Sq (ST a0 a2 a3 a4 w (wP s A) (wP t B) p3) F (i4 σ st):=by
 obtain⟨c,rest,j,I,a9,a11,hc,lI,hj,rfl,rfl⟩:=h;have sA:=hW.inn.small ∅;have sB:=hV.inn.small ∅;have n1:=fun st=>zCG (w:=w) (s:=s) (A:=A) sA ∅ ∅ hw st
 have n2:=fun st=>zCG (w:=w) (s:=t) (A:=B) sB ∅ ∅ hw2 st
 have m1:=fun st=>zDi (w:=w) (s:=s) (A:=A) sA ∅ ∅ hw st
 have m2:=fun st=>zDi (w:=w) (s:=t) (A:=B) sB ∅ ∅ hw2 st
 have lm:=zGS hW (show s.length≤30 by omega) (show A.length<100 by omega)
 have lm2:=zGS hV (show t.length≤30 by omega) (show B.length<100 by omega)
 have hj':rest[j]?=some (.lst ((I.map Bd.p).map W.p)):=by rw[hj,zMp]
 have hj1:∀c,(c::(rest++[.lst [.r (j+1),.p (.tup (I.map Bd.p))]]))[j+1]?=some (lsC I):=fun c=>by
  rw[Vo,Je (Jb.mp hj).1];exact hj
 have pc:zAx (lsC I)=true:=by rw[zMp];exact zGf _
 obtain⟨c',v,hc',hv,eo⟩:=of_two hc (rest:=rest++[.lst [.r (j+1),.p (.tup (I.map Bd.p))]]) (i:=rest.length) (x:=.r (j+1)) (y:=.p (.tup (I.map Bd.p))) (g0 _ _ _)
 have rh:zAM zAL [.p (webO s A),.p (webO t B),.p (.str w.s),v] (c'::(rest++[.lst [.r (j+1),.p (.tup (I.map Bd.p))]]))=.ok (.p (.bl (decide (RelI w s A t B I)))) (c'::(rest++[.lst [.r (j+1),.p (.tup (I.map Bd.p))]])):=by
  rcases hv with rfl|rfl
  ·refine zQT ?_ pc (hj1 c');refine zOM hW ∅ ∅ hV ∅ ∅ n1 n2 m1 m2 (I:=I) ∅ (src:=srcC 0 I.length) ?_ rfl fun k=>?_
   ·rw[zMp];simp
   ·rw[zMp];rfl
  ·have r:=zOM hW ∅ ∅ hV ∅ ∅ n1 n2 m1 m2 (I:=I) ∅ (w3:=.p (.tup (I.map Bd.p))) (st0:=[]) (src:=srcL ((I.map Bd.p).map W.p)) rfl (by simp) fun k=>rfl
   refine Pu.call4 (zQv ?_) _;rw[r];rfl
 have lr:zAM zBQ [.p (wP s A),.p (wP t B),.p (.str w.s),.r (j+1)] (c'::(rest++[.lst [.r (j+1),.p (.tup (I.map Bd.p))]]))=.ok (.p (.bl (decide (RelI w s A t B I)))) (c'::(rest++[.lst [.r (j+1),.p (.tup (I.map Bd.p))]])) :=
  zQT (lr_run hW ∅ ∅ hV ∅ ∅ hd hd2 (I:=I) ∅) pc (hj1 c')
 generalize decide (RelI w s A t B I)=b at *
 have sm:=fun st=>zPD (x:=.bl b) rfl st
 generalize webO s A=O1 at *
 generalize webO t B=O2 at *
 generalize wP s A=V1 at *
 generalize wP t B=V2 at *
 have lJ:(I.map Bd.p).length≤1000000:=by rw[Jc];omega
 generalize I.map Bd.p=T1 at *
 unfold i4
 conv=>arg 3;simp[lm,lm2,hj',lJ,zKq,eo,rh,lr,sm]
 exact⟨c',_,_,_,_,hc',rfl,rfl⟩
def SO(a0:Option W) (σ:Sg) (st:List Cell):Prop:=∃c rest a2 a3 a4 a5 a6 a7 a8 a9 a10 a11,GB c∧σ=[a0,some (.r 0),a2,a3,a4,a5,a6,a7,a8,a9,a10,a11,none]∧st=c::rest
theorem j6_ok(w:Wy){c:Cell} (hc:GB c) (rest:List Cell):∃(s:Str) (A:Arcs) (c':Cell),GB c'∧Wb s A∧s.length≤9∧AB w A.length∧Wof w s A ∧
  ∀a0 a2 a3 a4 a6 a7 a8 a9 a10 a11,j6 [a0,some (.r 0),a2,a3,a4,some (.p (.str w.s)),a6,a7,a8,a9,a10,a11,none] (c::rest)=.ok .nx [a0,some (.r 0),a2,a3,a4,some (.p (.str w.s)),some (.p (wP s A)),a7,a8,a9,a10,a11,none] (c'::rest):=by
 by_cases hw:w=.marked
 ·subst hw;obtain⟨_,c1,e1,hc1,s,A,rfl,hW,hs,hA,hA2,hof⟩:=(zD1 .marked (most:=4) (!0) (!0)).call2 hc rest;refine⟨s,A,c1,hc1,hW,∅,⟨∅,fun h=>by have:=hA2 h;omega⟩,hof,fun a0 a2 a3 a4 a6 a7 a8 a9 a10 a11=>?_⟩
  simp only[Wy.s]at e1 ⊢;simp[j6,e1]
 ·obtain⟨_,c1,e1,hc1,s,A,rfl,hW,hs,hA,hof⟩:=(zFj w hw).call1 hc rest;refine⟨s,A,c1,hc1,hW,hs,hA,hof,fun a0 a2 a3 a4 a6 a7 a8 a9 a10 a11=>?_⟩
  cases w with
  |marked=>exact absurd rfl hw
  |_ =>
   simp only[Wy.s]at e1 ⊢;simp[j6,e1]
theorem bT_ok(F:SR→Prop){c:Cell} (hc:GB c) (rest:List Cell) (a0 a2 a3 a4 a5 a6 a7 a8 a9 a10 a11:Option W) :
  Sq (SO a0) F (bT [a0,some (.r 0),a2,a3,a4,a5,a6,a7,a8,a9,a10,a11,none] (c::rest)):=by
 obtain⟨_,c1,e1,hc1,w,rfl⟩:=zPo.call1 hc rest;obtain⟨s,A,c2,hc2,hW,hs,hlB,hof,e2⟩:=j6_ok w hc1 rest;obtain⟨_,c3,e3,hc3,t,B,rfl,hV,ht,hl2,hof2⟩:=(zJw w hW hs hlB hof).call2 hc2 rest;have hl:=hlB.1;have hu:(s++t).length<64:=by rw[bM];omega
 have hw:=zQ6 (hW.inn.small ∅) hof;have hw2:=zQ6 (hV.inn.small ∅) hof2;obtain⟨m1,k1,q1⟩:=zNk hW ∅ ∅;obtain⟨m2,k2,q2⟩:=zNk hV ∅ ∅;have pr:=fun st=>zKh (w:=w) hW hV ∅ ∅ hu ∅ ∅ st
 have ln:=zKO (w:=w) (s:=s) (t:=t) (A:=A) (B:=B) (stbC (w:=w) (zOv hW hV) hu) s.length;have lm:s.length*t.length≤9*12:=VQ ∅ ∅;rw[prs_N]at ln;simp only[prs_N]at pr;generalize prN w s t A B (stbC (w:=w) (zOv hW hV) hu) s.length=L at *
 rw[Jc]at ln;have i4:=fun(F:SR→Prop) (a2:Option W) (h5:m1≤5∧m2≤5){σ:Sg}{st:List Cell}=>i4_ok F (N:=203) (a0:=a0) (a2:=a2) (a3:=a3) (a4:=a4) (w:=w) (p3:=.lst (L.map prP)) ∅ hW hs ∅ hw hV ht hl2 hw2 (fun v hv=>by have:=q1 v hv;omega) (fun v hv=>by have:=q2 v hv;omega) (σ:=σ) (st:=st)
 have i3:=fun(a2:Option W){σ:Sg}{st:List Cell}=>i3_ok (N:=202) (a0:=a0) (a2:=a2) (a3:=a3) (a4:=a4) (w:=w) (p1:=wP s A) (p3:=.lst (L.map prP)) (t:=t) (B:=B) ∅ ∅ (σ:=σ) (st:=st)
 clear q1 q2 hw hw2 hlB hof hof2;have hLL:L.length≤200:=by omega
 generalize wP s A=V1 at *
 generalize wP t B=V2 at *
 unfold bT
 by_cases h5:5<(if m2>m1 then m2 else m1)
 ·simp[zG4,e1,e2,e3,k1,k2,h5];exact⟨c3,rest,_,_,_,_,_,_,_,_,_,_,hc3,rfl,rfl⟩
 ·simp[zG4,e1,e2,e3,k1,k2,h5,pr,-zAn];refine zAm (fun r=>Sq (SO a0) F r) (fun i σ st=>ST a0 a2 a3 a4 w V1 V2 (.lst (L.map prP)) σ st) ⟨c3,rest,_,_,_,hc3,rfl,rfl⟩ ?_ ?_
  ·rintro i w0 σ st _ ⟨c',rest',b9,b10,b11,hc',rfl,rfl⟩;rw[zLG];obtain⟨σ1,st1,f1,g1⟩:=i0_ok (N:=200) (a0:=a0) (a2:=a2) (a3:=a3) (a4:=a4) (w:=w) (p1:=V1) (p2:=V2) (L:=L) hLL ∅ hc' rest' (some w0) b10 b11;obtain⟨σ2,st2,f2,g2⟩:=i1_ok ∅ g1;obtain⟨σ3,st3,f3,g3⟩:=i2_ok ∅ g2;obtain⟨σ4,st4,f4,g4⟩:=i3 a2 g3;have R:=i4 (fun r=>Sq (SO a0) F r) a2 (by split at h5<;>omega) g4
   conv=>arg 3;simp[bI,f1,f2,f3,f4]
   exact R
  ·rintro σ st ⟨c',rest',b9,b10,b11,hc',rfl,rfl⟩;exact⟨c',rest',_,_,_,_,_,_,_,_,_,_,hc',rfl,rfl⟩
theorem zEV{K:Int→Int→Bool}{x y:Int} (h:K x y=true):Prd K [x] [y]:=⟨[y],.refl _,rfl,fun i hi=>by
 have:i=0:=by simp at hi;omega
 subst this
 exact h⟩
def J1:List Bd:=[.q 0 0,.q 1 1,.q 0 2,.q 1 3]
def J2:List Bd:=[.q 0 0,.q 1 1]
theorem zLC:s_ab.length=2:=by decide +kernel
theorem zEu:zDF.length=4:=by decide +kernel
theorem rel_1:RelI .heard s_ab (rgA 2 false 2) zDF (rgA 4 false 4) J1:=by
 refine⟨?_,?_,?_,?_⟩
 ·rw[zLC,zEu];decide
 ·intro q hq;have hq:q=(0,0)∨q=(1,1)∨q=(0,2)∨q=(1,3):=by simpa[J1,Bd.nn]using hq
  rcases hq with rfl|rfl|rfl|rfl
  ·refine⟨⋯,?_⟩;rw[show sortI (srcs (rgA 2 false 2) ((0:Nat):Int))=[1] by decide +kernel,show sortI (srcs (rgA 4 false 4) ((0:Nat):Int))=[3] by decide +kernel]
   exact zEV (!0)
  ·refine⟨⋯,?_⟩;rw[show sortI (srcs (rgA 2 false 2) ((1:Nat):Int))=[0] by decide +kernel,show sortI (srcs (rgA 4 false 4) ((1:Nat):Int))=[0] by decide +kernel]
   exact zEV (!0)
  ·refine⟨⋯,?_⟩;rw[show sortI (srcs (rgA 2 false 2) ((0:Nat):Int))=[1] by decide +kernel,show sortI (srcs (rgA 4 false 4) ((2:Nat):Int))=[1] by decide +kernel]
   exact zEV (!0)
  ·refine⟨⋯,?_⟩;rw[show sortI (srcs (rgA 2 false 2) ((1:Nat):Int))=[0] by decide +kernel,show sortI (srcs (rgA 4 false 4) ((3:Nat):Int))=[2] by decide +kernel]
   exact zEV (!0)
 ·rw[zLC];decide
 ·rw[zEu];decide
theorem rel_2:¬RelI .heard s_ab (rgA 2 false 2) zDF (rgA 4 false 4) J2:=by
 rintro⟨_,_,_,h⟩;rw[zEu]at h;obtain⟨q,hq,e⟩:=h 2 (!0);have hq:q=(0,0)∨q=(1,1):=by simpa[J2,Bd.nn]using hq
 rcases hq with rfl|rfl
 ·cases e
 ·cases e
open Classical in
theorem zK8(J:List Bd) (hJ:J.length≤100) (st:List Cell):zAM zAL [.p (webO s_ab (rgA 2 false 2)),.p (webO zDF (rgA 4 false 4)),.p (.str Wy.heard.s),.p (.lst (J.map Bd.p))] st=.ok (.p (.bl (decide (RelI .heard s_ab (rgA 2 false 2) zDF (rgA 4 false 4) J)))) st:=by
 have l1:=zLC;have l2:=zEu;have lA:(rgA 2 false 2).length≤10:=by decide +kernel
 have lB:(rgA 4 false 4).length≤10:=by decide +kernel
 have hw:isW .heard s_ab (rgA 2 false 2)=true:=by decide +kernel
 have hw2:isW .heard zDF (rgA 4 false 4)=true:=by decide +kernel
 have sA:=wb_ab.inn.small ∅;have sB:=zNG.inn.small ∅;have n1:=fun st=>zCG (w:=.heard) sA ∅ ∅ hw st
 have n2:=fun st=>zCG (w:=.heard) sB ∅ ∅ hw2 st
 have m1:=fun st=>zDi (w:=.heard) sA ∅ ∅ hw st
 have m2:=fun st=>zDi (w:=.heard) sB ∅ ∅ hw2 st
 have r:=zOM wb_ab ∅ ∅ zNG ∅ ∅ n1 n2 m1 m2 (I:=J) ∅ (w3:=.p (.lst (J.map Bd.p))) (st0:=[]) (src:=srcL ((J.map Bd.p).map W.p)) rfl (by simp) fun k=>rfl
 refine Pu.call4 (zQv ?_) _;rw[r];rfl
open Classical in
theorem end_ok(σ:Sg) (st:List Cell) (h:4<σ.length):∃σ',bE σ st=.ok (.rt (.p (.bl true))) σ' st:=by
 have r1:=fun st=>zGj (s:=s_ab) (LtS.of ⋯) false st
 have r2:=fun st=>zGj (s:=zDF) (LtS.of ⋯) false st
 rw[zLC]at r1;rw[zEu]at r2
 have k1:∀st,zAM zAL [.p (webO s_ab (rgA 2 false 2)),.p (webO zDF (rgA 4 false 4)),.p (.str Wy.heard.s),.p (.lst (J1.map Bd.p))] st=.ok (.p (.bl true)) st:=fun st=>by
  have r:=zK8 J1 (!0) st;rw[JD rel_1]at r;exact r
 have k2:∀st,zAM zAL [.p (webO s_ab (rgA 2 false 2)),.p (webO zDF (rgA 4 false 4)),.p (.str Wy.heard.s),.p (.lst (J2.map Bd.p))] st=.ok (.p (.bl false)) st:=fun st=>by
  have r:=zK8 J2 (!0) st;rw[JM rel_2]at r;exact r
 simp only[J1,J2,Jl,VS,Bd.p,Wy.s]at k1 k2;simp only[s_ab,zDF]at r1 r2 k1 k2;generalize webO (Str.ofString "ab") (rgA 2 false 2)=O1 at *
 generalize webO (Str.ofString "abab") (rgA 4 false 4)=O2 at *
 refine⟨(σ.set 3 (some (.p O1))).set 4 (some (.p O2)),?_⟩;have e3:((σ.set 3 (some (.p O1))).set 4 (some (.p O2)))[3]?=some (some (.p O1)):=by rw[Jv ∅,Jw ∅]
 have e4:((σ.set 3 (some (.p O1))).set 4 (some (.p O2)))[4]?=some (some (.p O2)):=by rw[Jw (by rw[J5];omega)]
 simp -implicitDefEqProofs [bE,r1,r2,e3,e4,k1,k2,zMc]
theorem plain(ns:List Int) (h:ns.length≤63):∃st,sm_law [.p (.scr ns)] []=.ok (.p (.bl true)) st:=by
 show Yes (sm_law [.p (.scr ns)] []);rw[law_eq];obtain⟨c0,e0,hc0⟩:=zOy ns
 conv=>arg 1;simp[zNc,zAQ,e0,-zAn]
 refine zAm (fun r=>Yes (runR (r.then bE))) (fun i σ st=>SO (some (.p (.scr ns))) σ st) ⟨c0,[],_,_,_,_,_,_,_,_,_,_,hc0,rfl,rfl⟩ ?_ ?_
 ·rintro i w0 σ st _ ⟨c,rest,a2,a3,a4,a5,a6,a7,a8,a9,a10,a11,hc,rfl,rfl⟩;rw[zLG];exact bT_ok _ hc _ _ _ _ _ _ _ _ _ _ _ _
 ·rintro σ st ⟨c,rest,a2,a3,a4,a5,a6,a7,a8,a9,a10,a11,hc,rfl,rfl⟩;obtain⟨σ',e⟩:=end_ok [some (.p (.scr ns)),some (.r 0),a2,a3,a4,a5,a6,a7,a8,a9,a10,a11,none] (c::rest) (by simp)
  refine⟨c::rest,?_⟩;simp -implicitDefEqProofs [e]
end
section
open Y YZ YS
/-- what the head says -/
structure Fcts (P:Program) (K:PySem.W.Frag) (w:World) (mg:Str→Option Value):Prop where
 g__law_bag:mg "_law_bag" = some (.ref (He.ga K "_law_bag"))
 g__law_pull:mg "_law_pull" = some (.ref (He.ga K "_law_pull"))
 g__law_of:mg "_law_of" = some (.ref (He.ga K "_law_of"))
 g__law_ways:mg "_law_ways" = some (.ref (He.ga K "_law_ways"))
 g__law_mixed:mg "_law_mixed" = some (.ref (He.ga K "_law_mixed"))
 g__law_model:mg "_law_model" = some (.ref (He.ga K "_law_model"))
 g__law_ring:mg "_law_ring" = some (.ref (He.ga K "_law_ring"))
 g__law_lifted:mg "_law_lifted" = some (.ref (He.ga K "_law_lifted"))
 g__law_goals:mg "_law_goals" = some (.ref (He.ga K "_law_goals"))
 g__law_connected:mg "_law_connected" = some (.ref (He.ga K "_law_connected"))
 g__law_even:mg "_law_even" = some (.ref (He.ga K "_law_even"))
 g__law_moved:mg "_law_moved" = some (.ref (He.ga K "_law_moved"))
 g__law_drawn:mg "_law_drawn" = some (.ref (He.ga K "_law_drawn"))
 g__law_kin:mg "_law_kin" = some (.ref (He.ga K "_law_kin"))
 g__law_heard:mg "_law_heard" = some (.ref (He.ga K "_law_heard"))
 g__law_most_heard:mg "_law_most_heard" = some (.ref (He.ga K "_law_most_heard"))
 g__law_ranks:mg "_law_ranks" = some (.ref (He.ga K "_law_ranks"))
 g__law_outs:mg "_law_outs" = some (.ref (He.ga K "_law_outs"))
 g__law_marks:mg "_law_marks" = some (.ref (He.ga K "_law_marks"))
 g__law_next:mg "_law_next" = some (.ref (He.ga K "_law_next"))
 g__law_rounds:mg "_law_rounds" = some (.ref (He.ga K "_law_rounds"))
 g__law_pairs_of:mg "_law_pairs_of" = some (.ref (He.ga K "_law_pairs_of"))
 g_need_way:mg "need_way" = some (.ref (He.ga K "need_way"))
 g_need_of_way:mg "need_of_way" = some (.ref (He.ga K "need_of_way"))
 g_is_number:mg "is_number" = some (.ref (He.ga K "is_number"))
 g_is_within:mg "is_within" = some (.ref (He.ga K "is_within"))
 g_knows_out_numbers:mg "knows_out_numbers" = some (.ref (He.ga K "knows_out_numbers"))
 g_mark_of:mg "mark_of" = some (.ref (He.ga K "mark_of"))
 g_marks_of:mg "marks_of" = some (.ref (He.ga K "marks_of"))
 g_exchanged:mg "exchanged" = some (.ref (He.ga K "exchanged"))
 g_found_partner:mg "found_partner" = some (.ref (He.ga K "found_partner"))
 g_are_paired:mg "are_paired" = some (.ref (He.ga K "are_paired"))
 g_relation_holds:mg "relation_holds" = some (.ref (He.ga K "relation_holds"))
 g_are_letters:mg "are_letters" = some (.ref (He.ga K "are_letters"))
 g_is_arc:mg "is_arc" = some (.ref (He.ga K "is_arc"))
 g_reachable:mg "reachable" = some (.ref (He.ga K "reachable"))
 g_is_connected:mg "is_connected" = some (.ref (He.ga K "is_connected"))
 g__law_made:mg "_law_made" = some (.ref (He.ga K "_law_made"))
 g__law_same:mg "_law_same" = some (.ref (He.ga K "_law_same"))
 g__law_is_number:mg "_law_is_number" = some (.ref (He.ga K "_law_is_number"))
 g__law_paired:mg "_law_paired" = some (.ref (He.ga K "_law_paired"))
 g__law_related:mg "_law_related" = some (.ref (He.ga K "_law_related"))
 g_law:mg "law" = some (.ref (He.ga K "law"))
 g_Web:mg "Web" = some (.ref (He.ga K "Web"))
 g_InvalidWay:mg "InvalidWay" = some (.ref (He.ga K "InvalidWay"))
 g_NotOfWay:mg "NotOfWay" = some (.ref (He.ga K "NotOfWay"))
 g_InvalidNode:mg "InvalidNode" = some (.ref (He.ga K "InvalidNode"))
 g_InvalidLetters:mg "InvalidLetters" = some (.ref (He.ga K "InvalidLetters"))
 g_InvalidArc:mg "InvalidArc" = some (.ref (He.ga K "InvalidArc"))
 g_NotConnected:mg "NotConnected" = some (.ref (He.ga K "NotConnected"))
 b_all:mg "all" = none
 b_bool:mg "bool" = none
 b_enumerate:mg "enumerate" = none
 b_int:mg "int" = none
 b_isinstance:mg "isinstance" = none
 b_len:mg "len" = none
 b_list:mg "list" = none
 b_max:mg "max" = none
 b_range:mg "range" = none
 b_set:mg "set" = none
 b_sorted:mg "sorted" = none
 b_str:mg "str" = none
 b_super:mg "super" = none
 b_tuple:mg "tuple" = none
 b_zip:mg "zip" = none
 i_MOST_ARCS:∃t,mg "MOST_ARCS" = some (.int 200 t)
 i_MOST_NODES:∃t,mg "MOST_NODES" = some (.int 30 t)
 s_SIGNS:∃t,mg "SIGNS" = some (.str "abcm" t)
 c_Web:L2.Cls K (He.ga K "Web")
 mk_Web:Mk K (He.ga K "Web") (He.fAd K ("Web",some "__init__"))
 m_Web_len:Meth K (He.ga K "Web") "__len__" (He.fAd K ("Web",some "__len__"))
 m_Web_heard:Meth K (He.ga K "Web") "heard" (He.fAd K ("Web",some "heard"))
 m_Web_is_of:Meth K (He.ga K "Web") "is_of" (He.fAd K ("Web",some "is_of"))
 m_Web_need_node:Meth K (He.ga K "Web") "need_node" (He.fAd K ("Web",some "need_node"))
 m_Web_out_number:Meth K (He.ga K "Web") "out_number" (He.fAd K ("Web",some "out_number"))
 f_Web_lines:∀ {fr:List (Str×List (Str×Addr))},zIp K (cl K w fr) "lines" 3 1
 f_Web_same:∀ {fr:List (Str×List (Str×Addr))},zIp K (cl K w fr) "same" 3 3
 f_Web_signs:∀ {fr:List (Str×List (Str×Addr))},zIp K (cl K w fr) "signs" 3 0
 f_Web_sources:∀ {fr:List (Str×List (Str×Addr))},zIp K (cl K w fr) "sources" 3 2
 k_WAYS:∃u,mg "WAYS" = some u∧kvB K zID u=true
 e_InvalidWay:excB K "InvalidWay" "/claim/cut.py" (some "given")=true
 de_InvalidWay:fnE K (He.ma K (He.ga K "InvalidWay") "__init__")=zDg.val
 dd_InvalidWay:zDg.okB K=true
 e_NotOfWay:excB K "NotOfWay" "/claim/cut.py" (some "given")=true
 de_NotOfWay:fnE K (He.ma K (He.ga K "NotOfWay") "__init__")=zEh.val
 dd_NotOfWay:zEh.okB K=true
 e_InvalidNode:excB K "InvalidNode" "/claim/cut.py" (some "given")=true
 de_InvalidNode:fnE K (He.ma K (He.ga K "InvalidNode") "__init__")=zDR.val
 dd_InvalidNode:zDR.okB K=true
 e_InvalidLetters:excB K "InvalidLetters" "/claim/cut.py" none=true
 de_InvalidLetters:fnE K (He.ma K (He.ga K "InvalidLetters") "__init__")=zCT.val
 dd_InvalidLetters:zCT.okB K=true
 e_InvalidArc:excB K "InvalidArc" "/claim/cut.py" (some "index")=true
 de_InvalidArc:fnE K (He.ma K (He.ga K "InvalidArc") "__init__")=zDn.val
 dd_InvalidArc:zDn.okB K=true
 e_NotConnected:excB K "NotConnected" "/claim/cut.py" none=true
 de_NotConnected:fnE K (He.ma K (He.ga K "NotConnected") "__init__")=zCz.val
 dd_NotConnected:zCz.okB K=true
 p_Web_letters:PropOf K (He.ga K "Web") "letters" (zBd K (He.ga K "Web") "letters").1 (zBd K (He.ga K "Web") "letters").2
 d_Web_letters:∃fd,FunD K "letters" "Web.letters" (defArgs zBI) (defBody zBI) (defScope zBI) [] [] ((zBd K (He.ga K "Web") "letters").2) fd
 p_Web_ring:ClsM K (He.ga K "Web") "ring"
 d_Web_ring:∃fd,FunD K "ring" "Web.ring" (defArgs zCa) (defBody zCa) (defScope zCa) [] [] ((He5.wf K (He.ga K "Web") "classmethod" "ring")) fd
 kw_Web_ring:zQP K ((He5.wf K (He.ga K "Web") "classmethod" "ring")) [("both",V.bl false)]=true
 pf:FileOf P "/claim/cut.py"
 d_law_bag:∃fd,FunD K "_law_bag" "_law_bag" (defArgs zC4) (defBody zC4) (defScope zC4) [] [] (He.fAd K ("_law_bag",none)) fd
 d_law_pull:∃fd,FunD K "_law_pull" "_law_pull" (defArgs zCW) (defBody zCW) (defScope zCW) [] [] (He.fAd K ("_law_pull",none)) fd
 d_law_of:∃fd,FunD K "_law_of" "_law_of" (defArgs zDj) (defBody zDj) (defScope zDj) [] [] (He.fAd K ("_law_of",none)) fd
 d_law_ways:∃fd,FunD K "_law_ways" "_law_ways" (defArgs zCV) (defBody zCV) (defScope zCV) [] [] (He.fAd K ("_law_ways",none)) fd
 d_law_mixed:∃fd,FunD K "_law_mixed" "_law_mixed" (defArgs zBZ) (defBody zBZ) (defScope zBZ) [] [] (He.fAd K ("_law_mixed",none)) fd
 d_law_model:∃fd,FunD K "_law_model" "_law_model" (defArgs zB9) (defBody zB9) (defScope zB9) [] [] (He.fAd K ("_law_model",none)) fd
 d_law_ring:∃fd,FunD K "_law_ring" "_law_ring" (defArgs zCR) (defBody zCR) (defScope zCR) [] [] (He.fAd K ("_law_ring",none)) fd
 d_law_lifted:∃fd,FunD K "_law_lifted" "_law_lifted" (defArgs zBi) (defBody zBi) (defScope zBi) [] [] (He.fAd K ("_law_lifted",none)) fd
 d_law_goals:∃fd,FunD K "_law_goals" "_law_goals" (defArgs zB8) (defBody zB8) (defScope zB8) [] [] (He.fAd K ("_law_goals",none)) fd
 d_law_connected:∃fd,FunD K "_law_connected" "_law_connected" (defArgs zA0) (defBody zA0) (defScope zA0) [] [] (He.fAd K ("_law_connected",none)) fd
 d_law_even:∃fd,FunD K "_law_even" "_law_even" (defArgs zCO) (defBody zCO) (defScope zCO) [] [] (He.fAd K ("_law_even",none)) fd
 d_law_moved:∃fd,FunD K "_law_moved" "_law_moved" (defArgs zBz) (defBody zBz) (defScope zBz) [] [] (He.fAd K ("_law_moved",none)) fd
 d_law_drawn:∃fd,FunD K "_law_drawn" "_law_drawn" (defArgs zB4) (defBody zB4) (defScope zB4) [] [] (He.fAd K ("_law_drawn",none)) fd
 d_law_kin:∃fd,FunD K "_law_kin" "_law_kin" (defArgs zC2) (defBody zC2) (defScope zC2) [] [] (He.fAd K ("_law_kin",none)) fd
 d_law_heard:∃fd,FunD K "_law_heard" "_law_heard" (defArgs zB0) (defBody zB0) (defScope zB0) [] [] (He.fAd K ("_law_heard",none)) fd
 d_law_most_heard:∃fd,FunD K "_law_most_heard" "_law_most_heard" (defArgs zAq) (defBody zAq) (defScope zAq) [] [] (He.fAd K ("_law_most_heard",none)) fd
 d_law_ranks:∃fd,FunD K "_law_ranks" "_law_ranks" (defArgs zB6) (defBody zB6) (defScope zB6) [] [] (He.fAd K ("_law_ranks",none)) fd
 d_law_outs:∃fd,FunD K "_law_outs" "_law_outs" (defArgs zCd) (defBody zCd) (defScope zCd) [] [] (He.fAd K ("_law_outs",none)) fd
 d_law_marks:∃fd,FunD K "_law_marks" "_law_marks" (defArgs zBv) (defBody zBv) (defScope zBv) [] [] (He.fAd K ("_law_marks",none)) fd
 d_law_next:∃fd,FunD K "_law_next" "_law_next" (defArgs zCN) (defBody zCN) (defScope zCN) [] [] (He.fAd K ("_law_next",none)) fd
 d_law_rounds:∃fd,FunD K "_law_rounds" "_law_rounds" (defArgs zBV) (defBody zBV) (defScope zBV) [] [] (He.fAd K ("_law_rounds",none)) fd
 d_law_pairs_of:∃fd,FunD K "_law_pairs_of" "_law_pairs_of" (defArgs zBC) (defBody zBC) (defScope zBC) [] [] (He.fAd K ("_law_pairs_of",none)) fd
 d_need_way:∃fd,FunD K "need_way" "need_way" (defArgs zCP) (defBody zCP) (defScope zCP) [] [] (He.fAd K ("need_way",none)) fd
 d_Web_is_of:∃fd,FunD K "is_of" "Web.is_of" (defArgs zBu) (defBody zBu) (defScope zBu) [] [] (He.fAd K ("Web",some "is_of")) fd
 d_need_of_way:∃fd,FunD K "need_of_way" "need_of_way" (defArgs zBN) (defBody zBN) (defScope zBN) [] [] (He.fAd K ("need_of_way",none)) fd
 d_is_number:∃fd,FunD K "is_number" "is_number" (defArgs zB1) (defBody zB1) (defScope zB1) [] [] (He.fAd K ("is_number",none)) fd
 d_is_within:∃fd,FunD K "is_within" "is_within" (defArgs zBy) (defBody zBy) (defScope zBy) [] [] (He.fAd K ("is_within",none)) fd
 d_Web_len:∃fd,FunD K "__len__" "Web.__len__" (defArgs zC6) (defBody zC6) (defScope zC6) [] [] (He.fAd K ("Web",some "__len__")) fd
 d_Web_need_node:∃fd,FunD K "need_node" "Web.need_node" (defArgs zAy) (defBody zAy) (defScope zAy) [] [] (He.fAd K ("Web",some "need_node")) fd
 d_knows_out_numbers:∃fd,FunD K "knows_out_numbers" "knows_out_numbers" (defArgs zAe) (defBody zAe) (defScope zAe) [] [] (He.fAd K ("knows_out_numbers",none)) fd
 d_Web_out_number:∃fd,FunD K "out_number" "Web.out_number" (defArgs zAo) (defBody zAo) (defScope zAo) [] [] (He.fAd K ("Web",some "out_number")) fd
 d_mark_of:∃fd,FunD K "mark_of" "mark_of" (defArgs zC1) (defBody zC1) (defScope zC1) [] [] (He.fAd K ("mark_of",none)) fd
 d_marks_of:∃fd,FunD K "marks_of" "marks_of" (defArgs zCZ) (defBody zCZ) (defScope zCZ) [] [] (He.fAd K ("marks_of",none)) fd
 d_exchanged:∃fd,FunD K "exchanged" "exchanged" (defArgs zB5) (defBody zB5) (defScope zB5) [] [] (He.fAd K ("exchanged",none)) fd
 d_found_partner:∃fd,FunD K "found_partner" "found_partner" (defArgs zAz) (defBody zAz) (defScope zAz) [] [] (He.fAd K ("found_partner",none)) fd
 d_are_paired:∃fd,FunD K "are_paired" "are_paired" (defArgs zBj) (defBody zBj) (defScope zBj) [] [] (He.fAd K ("are_paired",none)) fd
 d_Web_heard:∃fd,FunD K "heard" "Web.heard" (defArgs zBt) (defBody zBt) (defScope zBt) [] [] (He.fAd K ("Web",some "heard")) fd
 d_relation_holds:∃fd,FunD K "relation_holds" "relation_holds" (defArgs zAr) (defBody zAr) (defScope zAr) [] [] (He.fAd K ("relation_holds",none)) fd
 d_are_letters:∃fd,FunD K "are_letters" "are_letters" (defArgs zBK) (defBody zBK) (defScope zBK) [] [] (He.fAd K ("are_letters",none)) fd
 d_is_arc:∃fd,FunD K "is_arc" "is_arc" (defArgs zDh) (defBody zDh) (defScope zDh) [] [] (He.fAd K ("is_arc",none)) fd
 d_reachable:∃fd,FunD K "reachable" "reachable" (defArgs zB3) (defBody zB3) (defScope zB3) [] [] (He.fAd K ("reachable",none)) fd
 d_is_connected:∃fd,FunD K "is_connected" "is_connected" (defArgs zBB) (defBody zBB) (defScope zBB) [] [] (He.fAd K ("is_connected",none)) fd
 d_Web_init:∃fd,FunD K "__init__" "Web.__init__" (defArgs zCb) (defBody zCb) (defScope zCb) [] [] (He.fAd K ("Web",some "__init__")) fd
 d_law_made:∃fd,FunD K "_law_made" "_law_made" (defArgs zCX) (defBody zCX) (defScope zCX) [] [] (He.fAd K ("_law_made",none)) fd
 d_law_same:∃fd,FunD K "_law_same" "_law_same" (defArgs zCU) (defBody zCU) (defScope zCU) [] [] (He.fAd K ("_law_same",none)) fd
 d_law_is_number:∃fd,FunD K "_law_is_number" "_law_is_number" (defArgs zA1) (defBody zA1) (defScope zA1) [] [] (He.fAd K ("_law_is_number",none)) fd
 d_law_paired:∃fd,FunD K "_law_paired" "_law_paired" (defArgs zBb) (defBody zBb) (defScope zBb) [] [] (He.fAd K ("_law_paired",none)) fd
 d_law_related:∃fd,FunD K "_law_related" "_law_related" (defArgs zBM) (defBody zBM) (defScope zBM) [] [] (He.fAd K ("_law_related",none)) fd
section
variable {P:Program}{w:World}{K:PySem.W.Frag}{mg:Str→Option Value}{base:Heap}{fr:List (Str×List (Str×Addr))}
theorem zII(x:Fcts P K w mg):Exc1 P w K mg base (cl K w fr) 1 22 (He.ga K "InvalidWay") "InvalidWay" "given" "given" := zHq x.pf x.e_InvalidWay x.b_super rfl x.dd_InvalidWay x.de_InvalidWay ⟨_,rfl,rfl⟩ ⟨rfl,rfl,rfl,⋯,⋯,⋯,⋯,rfl,rfl⟩ (fun f cda cc=>⟨_,fun L=>⟨rfl,rfl,rfl⟩⟩) ⋯ ⋯ (fun _ _ _ _ _ _ _ us hl=>match us,hl with|[_,_],_=>rfl) (fun _=>rfl) (fun _=>rfl)
theorem zJv(x:Fcts P K w mg):Exc1 P w K mg base (cl K w fr) 1 23 (He.ga K "NotOfWay") "NotOfWay" "given" "given" := zHq x.pf x.e_NotOfWay x.b_super rfl x.dd_NotOfWay x.de_NotOfWay ⟨_,rfl,rfl⟩ ⟨rfl,rfl,rfl,⋯,⋯,⋯,⋯,rfl,rfl⟩ (fun f cda cc=>⟨_,fun L=>⟨rfl,rfl,rfl⟩⟩) ⋯ ⋯ (fun _ _ _ _ _ _ _ us hl=>match us,hl with|[_,_],_=>rfl) (fun _=>rfl) (fun _=>rfl)
theorem zHN(x:Fcts P K w mg):Exc1 P w K mg base (cl K w fr) 1 20 (He.ga K "InvalidNode") "InvalidNode" "given" "given" := zHq x.pf x.e_InvalidNode x.b_super rfl x.dd_InvalidNode x.de_InvalidNode ⟨_,rfl,rfl⟩ ⟨rfl,rfl,rfl,⋯,⋯,⋯,⋯,rfl,rfl⟩ (fun f cda cc=>⟨_,fun L=>⟨rfl,rfl,rfl⟩⟩) ⋯ ⋯ (fun _ _ _ _ _ _ _ us hl=>match us,hl with|[_,_],_=>rfl) (fun _=>rfl) (fun _=>rfl)
theorem zDa(x:Fcts P K w mg):Exc0 P w K mg base (cl K w fr) 1 17 (He.ga K "InvalidLetters") "InvalidLetters" := zNI x.pf x.e_InvalidLetters x.b_super rfl x.dd_InvalidLetters x.de_InvalidLetters ⟨_,rfl,rfl⟩ ⟨rfl,rfl,rfl,⋯,⋯,⋯,⋯,rfl,rfl⟩ (fun f cda cc=>⟨_,fun L=>⟨rfl,rfl,rfl⟩⟩) (fun _ _ _ _ _ _ _ us hl=>match us,hl with|[_],_=>rfl) (fun _=>rfl)
theorem zIK(x:Fcts P K w mg):Exc1 P w K mg base (cl K w fr) 1 18 (He.ga K "InvalidArc") "InvalidArc" "index" "index" := zHq x.pf x.e_InvalidArc x.b_super rfl x.dd_InvalidArc x.de_InvalidArc ⟨_,rfl,rfl⟩ ⟨rfl,rfl,rfl,⋯,⋯,⋯,⋯,rfl,rfl⟩ (fun f cda cc=>⟨_,fun L=>⟨rfl,rfl,rfl⟩⟩) ⋯ ⋯ (fun _ _ _ _ _ _ _ us hl=>match us,hl with|[_,_],_=>rfl) (fun _=>rfl) (fun _=>rfl)
theorem zGR(x:Fcts P K w mg):Exc0 P w K mg base (cl K w fr) 1 19 (He.ga K "NotConnected") "NotConnected" := zNI x.pf x.e_NotConnected x.b_super rfl x.dd_NotConnected x.de_NotConnected ⟨_,rfl,rfl⟩ ⟨rfl,rfl,rfl,⋯,⋯,⋯,⋯,rfl,rfl⟩ (fun f cda cc=>⟨_,fun L=>⟨rfl,rfl,rfl⟩⟩) (fun _ _ _ _ _ _ _ us hl=>match us,hl with|[_],_=>rfl) (fun _=>rfl)
theorem zML:FnScope ["_law_script", "_law_salt", "_law_cell"] ["_law_script"] (defScope zC4):=⟨rfl,rfl,rfl,⋯,rfl,⋯,⋯⟩
theorem zMH(x:Fcts P K w mg):Fk P w K mg base (cl K w fr) 1 (He.fAd K ("_law_bag",none)) ["_law_script"] zCw:=Fk.of x.d_law_bag zML (fun _ _ _ _ _ _ us hl=>match us,hl with|[_],_=>rfl) fun cd A outer s H E g hr=>(zAE (zAZ g (i:=1) rfl (zAV rfl) zAD rfl (.inl rfl))
  (zAE (zCA JQ g (zBn g (zKj g (v0 0) zEi (zEr zAD))) (sgn g 2) (zAI (zAZ g (i:=1) rfl (zAV rfl) (zDM (zA7 zCI zDs rfl x.b_int ⋯ (zAA (zAi g (zAi g (zD0 (v0 1) zAD) (zDM (zA7 zCI zDs rfl x.b_int ⋯ (zAA (v0 2) zAC rfl) ⋯ rfl rfl rfl) zAD)) zAD) zAC rfl) ⋯ rfl rfl rfl) zAD) rfl (.inl rfl))) (fun _=>rfl))
  (zAI (zAN (zCM (zAA (zA7 b7 zF7 rfl x.b_list ⋯ (zAA (zKj g (v0 0) zEi (zEr zAD)) zAC rfl) ⋯ rfl rfl rfl) (zAA zAD (zAA zAD (zAA (v0 1) zAC rfl) rfl) rfl) rfl))))))
theorem zJ3:FnScope ["_law_bag_here", "_law_amount", "_law_seed", "_law_cell", "_law_got"] ["_law_bag_here", "_law_amount"] (defScope zCW):=⟨rfl,rfl,rfl,⋯,rfl,⋯,⋯⟩
theorem zAP(x:Fcts P K w mg):Fk P w K mg base (cl K w fr) 1 (He.fAd K ("_law_pull",none)) ["_law_bag_here", "_law_amount"] zAG:=Fk.of x.d_law_pull zJ3 (fun _ _ _ _ _ _ us hl=>match us,hl with|[_,_],_=>rfl) fun cd A outer s H E g hr=>(zAE (zAw (zDS (zFd (zCp g (ixK g (fun _ _=>rfl) (v0 0) zAD) zAD rfl) (zEt (zM9 (ixK g (fun _ _=>rfl) (v0 0) zAD) (zAJ zAK zAO rfl x.b_len ⋯ (zAA (ixK g (fun _ _=>rfl) (v0 0) zAD) zAC rfl) ⋯ rfl rfl rfl) rfl)))) (zAE (zAZ g (i:=3) rfl (zAV rfl) (ixK g (fun _ _=>rfl) (ixK g (fun _ _=>rfl) (v0 0) zAD) (ixK g (fun _ _=>rfl) (v0 0) zAD)) rfl (.inl rfl))
  (zAE (zER g (v0 0) zAD (zAi g (ixK g (fun _ _=>rfl) (v0 0) zAD) zAD) (fun _=>rfl) rfl rfl rfl)
  (zAI (zAw (st_ge (v0 3) (se_pow zAD zAD) rfl) (zAI (zER g (v0 0) zAD (v0 3) (fun _=>rfl) rfl rfl rfl)) (zAI (zER g (v0 0) zAD (zDM (zA7 zCI zDs rfl x.b_int ⋯ (zAA (zAi g (zAi g (zD0 (ixK g (fun _ _=>rfl) (v0 0) zAD) zAD) (zD0 (zDM (zA7 zCI zDs rfl x.b_int ⋯ (zAA (v0 3) zAC rfl) ⋯ rfl rfl rfl) zAD) zAD)) zAD) zAC rfl) ⋯ rfl rfl rfl) zAD) (fun _=>rfl) rfl rfl rfl)))))) zAa)
  (zAE (zAw (zP9 (ixK g (fun _ _=>rfl) (v0 0) zAD) zAD rfl) (zAE (zAZ g (i:=4) rfl (zAV rfl) (zDM (zA7 zCI zDs rfl x.b_int ⋯ (zAA (ixK g (fun _ _=>rfl) (v0 0) zAD) zAC rfl) ⋯ rfl rfl rfl) (v0 1)) rfl (.inl rfl))
  (zAE (zER g (v0 0) zAD (zQl (ixK g (fun _ _=>rfl) (v0 0) zAD) (v0 1)) (fun _=>rfl) rfl rfl rfl)
  (zAI (zAN (v0 4))))) zAa)
  (zAE (zAZ g (i:=2) rfl (zAV rfl) (ixK g (fun _ _=>rfl) (v0 0) zAD) rfl (.inl rfl))
  (zAE (zER g (v0 0) zAD (zDM (zA7 zCI zDs rfl x.b_int ⋯ (zAA (zAi g (zAi g (zD0 (v0 2) (v0 2)) (zD0 (v0 2) zAD)) zAD) zAC rfl) ⋯ rfl rfl rfl) zAD) (fun _=>rfl) rfl rfl rfl)
  (zAI (zAN (zDM (zA7 zCI zDs rfl x.b_int ⋯ (zAA (zAi g (zQl (ixK g (fun _ _=>rfl) (v0 0) zAD) zAD) (zD0 (zDM (zA7 zCI zDs rfl x.b_int ⋯ (zAA (ixK g (fun _ _=>rfl) (v0 0) zAD) zAC rfl) ⋯ rfl rfl rfl) zAD) zAD)) zAC rfl) ⋯ rfl rfl rfl) (v0 1))))))))
theorem zNz:FnScope ["_law_bag_here", "_law_things"] ["_law_bag_here", "_law_things"] (defScope zDj):=⟨rfl,rfl,rfl,⋯,rfl,⋯,⋯⟩
theorem zDZ(x:Fcts P K w mg):Fk P w K mg base (cl K w fr) 2 (He.fAd K ("_law_of",none)) ["_law_bag_here", "_law_things"] zAW:=Fk.of x.d_law_of zNz (fun _ _ _ _ _ _ us hl=>match us,hl with|[_,_],_=>rfl) fun cd A outer s H E g hr=>(zAI (zAN (ixK g (fun _ _=>rfl) (v0 1) (zAR (zAP x) g (rm hr) rfl x.g__law_pull (zAA (v0 0) (zAA (zAJ zAK zAO rfl x.b_len ⋯ (zAA (v0 1) zAC rfl) ⋯ rfl rfl rfl) zAC rfl) rfl) rfl rfl rfl))))
theorem zKF:FnScope [] [] (defScope zCV):=⟨rfl,rfl,rfl,⋯,rfl,⋯,⋯⟩
theorem zJ7(x:Fcts P K w mg):Fk P w K mg base (cl K w fr) 1 (He.fAd K ("_law_ways",none)) [] zCY:=Fk.of x.d_law_ways zKF (fun _ _ _ _ _ _ us hl=>match us,hl with|[],_=>rfl) fun cd A outer s H E g hr=>(zAI (zAN (zDH (zAA zAl (zAA zAl (zAA zAl (zAA zAl zAC rfl) rfl) rfl) rfl))))
theorem zJH:FnScope ["_law_bag_here", "_law_things", "_law_found", "_law_thing"] ["_law_bag_here", "_law_things"] (defScope zBZ):=⟨rfl,rfl,rfl,⋯,rfl,⋯,⋯⟩
theorem zEL(x:Fcts P K w mg):Fk P w K mg base (cl K w fr) 2 (He.fAd K ("_law_mixed",none)) ["_law_bag_here", "_law_things"] zAh:=Fk.of x.d_law_mixed zJH (fun _ _ _ _ _ _ us hl=>match us,hl with|[_,_],_=>rfl) fun cd A outer s H E g hr=>(zAE (zAZ g (i:=2) rfl (zAV rfl) (zCM zAC) rfl (.inl rfl))
  (zAE (zCA JQ g (zBn g (v0 1)) (sgn g 3) (zAI (zBD (zDC g JU F.slot_list_insert F.type_list_insert mt_insert zHe (v0 2) (zAA (zAR (zAP x) g (rm hr) rfl x.g__law_pull (zAA (v0 0) (zAA (zAi g (zAJ zAK zAO rfl x.b_len ⋯ (zAA (v0 2) zAC rfl) ⋯ rfl rfl rfl) zAD) zAC rfl) rfl) rfl rfl rfl) (zAA (v0 3) zAC rfl) rfl) rfl rfl rfl rfl rfl) rfl)) (fun _=>rfl))
  (zAI (zAN (zHY (v0 2))))))
theorem zJd:FnScope ["_law_bag_here", "_law_way_z", "_law_most", "_law_size", "_law_signs", "_law_letters", "_law_order", "_law_arcs", "_law_k", "_law_source", "_law_target"] ["_law_bag_here", "_law_way_z", "_law_most"] (defScope zB9):=⟨rfl,rfl,rfl,⋯,rfl,⋯,⋯⟩
theorem zDz(x:Fcts P K w mg):Fk P w K mg base (cl K w fr) 3 (He.fAd K ("_law_model",none)) ["_law_bag_here", "_law_way_z", "_law_most"] zA9:=Fk.of x.d_law_model zJd (fun _ _ _ _ _ _ us hl=>match us,hl with|[_,_,_],_=>rfl) fun cd A outer s H E g hr=>(zAE (zAZ g (i:=3) rfl (zAV rfl) (zAi g zAD (zAR (zAP x) g (rm hr) rfl x.g__law_pull (zAA (v0 0) (zAA (v0 2) zAC rfl) rfl) rfl rfl rfl)) rfl (.inl rfl))
  (zAE (zAZ g (i:=4) rfl (zAV rfl) (zAR (zDZ x) g (rm hr) rfl x.g__law_of (zAA (v0 0) (zAA (zDH (zAA zAl (zAA zAl (zAA zAl (zAA zAl (zAA zAl zAC rfl) rfl) rfl) rfl) rfl)) zAC rfl) rfl) rfl rfl rfl) rfl (.inl rfl))
  (zAE (zDE g zKK rfl rfl (ji rfl rfl rfl rfl) (own:=[("_law_k",8)]) (by kernel_rfl) rfl (zA2 rfl x.b_range (v0 3) rfl) ⋯ (fun _=>(sgn (GX.blk g) 8)) (fun _=>zAc) (fun _=>(zAR (zDZ x) (GX.blk g) (rm hr) rfl x.g__law_of (zAA (v0 0) (zAA (v0 4) zAC rfl) rfl) rfl rfl rfl)) (fun _=>rfl))
  (zAE (zAw (zCp g (v0 1) zAl rfl) (zAI (zER g (v0 5) (zAR (zAP x) g (rm hr) rfl x.g__law_pull (zAA (v0 0) (zAA (v0 3) zAC rfl) rfl) rfl rfl rfl) zAl (fun _=>rfl) rfl rfl rfl)) zAa)
  (zAE (zAZ g (i:=6) rfl (zAV rfl) (zAR (zEL x) g (rm hr) rfl x.g__law_mixed (zAA (v0 0) (zAA (zEW g rfl x.b_list rfl x.b_range (v0 3)) zAC rfl) rfl) rfl rfl rfl) rfl (.inl rfl))
  (zAE (zDE g zAX rfl rfl (ji rfl rfl rfl rfl) (own:=[("_law_k",8)]) (by kernel_rfl) rfl (zA2 rfl x.b_range (v0 3) rfl) ⋯ (fun _=>(sgn (GX.blk g) 8)) (fun _=>zAc) (fun _=>(zAb (zAA (ixK (GX.blk g) (fun _ _=>rfl) (v0 6) (v0 8)) (zAA (ixK (GX.blk g) (fun _ _=>rfl) (v0 6) (zDM (zAi (GX.blk g) (v0 8) zAD) (v0 3))) zAC rfl) rfl))) (fun _=>rfl))
  (zAE (zAw (zDS (zFd (zCp g (v0 3) zAD rfl) (zEt (zCp g (zAR (zAP x) g (rm hr) rfl x.g__law_pull (zAA (v0 0) (zAA zAD zAC rfl) rfl) rfl rfl rfl) zAD rfl)))) (zAI (zAZ g (i:=7) rfl (zAV rfl) (zDH zAC) rfl (.inl rfl))) zAa)
  (zAE (zAZ g (i:=7) rfl (zAV rfl) (zAi g (v0 7) (zCF g zAX (own:=[("_law_k",8)]) (by kernel_rfl) rfl (zA2 rfl x.b_range (zAR (zAP x) g (rm hr) rfl x.g__law_pull (zAA (v0 0) (zAA zAD zAC rfl) rfl) rfl rfl rfl) rfl) ⋯ (fun _=>(sgn (GX.blk g) 8)) (fun _=>zAc) (fun _=>(zAb (zAA (zAR (zAP x) (GX.blk g) (rm hr) rfl x.g__law_pull (zAA (v0 0) (zAA (v0 3) zAC rfl) rfl) rfl rfl rfl) (zAA (zAR (zAP x) (GX.blk g) (rm hr) rfl x.g__law_pull (zAA (v0 0) (zAA (v0 3) zAC rfl) rfl) rfl rfl rfl) zAC rfl) rfl))) (fun _=>rfl))) rfl (.inl rfl))
  (zAE (zAw (zCp g (v0 1) zAl rfl) (zAI (zAZ g (i:=7) rfl (zAV rfl) (zAi g (v0 7) (zCF g zAX (own:=[("_law_source",9),("_law_target",10)]) (by kernel_rfl) rfl (zBn g (v0 7)) ⋯ (fun _=>(zCl (GX.blk g) (zAS (sgn (GX.blk g) 9) (zAS (sgn (GX.blk g) 10) zBT rfl) rfl) rfl rfl rfl)) (fun _=>zAc) (fun _=>(zAb (zAA (v0 10) (zAA (v0 9) zAC rfl) rfl))) (fun _=>rfl))) rfl (.inl rfl))) zAa)
  (zAI (zAN (zAb (zAA (zDC g Yv Y6 Y7 mt_join zF1 zAl (zAA (v0 5) zAC rfl) rfl rfl rfl rfl rfl) (zAA (zAR (zEL x) g (rm hr) rfl x.g__law_mixed (zAA (v0 0) (zAA (v0 7) zAC rfl) rfl) rfl rfl rfl) zAC rfl) rfl)))))))))))))
theorem zKG:FnScope ["_law_letters", "_law_both", "_law_arcs", "_law_node"] ["_law_letters", "_law_both"] (defScope zCR):=⟨rfl,rfl,rfl,⋯,rfl,⋯,⋯⟩
theorem zG0(x:Fcts P K w mg):Fk P w K mg base (cl K w fr) 1 (He.fAd K ("_law_ring",none)) ["_law_letters", "_law_both"] zBx:=Fk.of x.d_law_ring zKG (fun _ _ _ _ _ _ us hl=>match us,hl with|[_,_],_=>rfl) fun cd A outer s H E g hr=>(zAE (zAZ g (i:=2) rfl (zAV rfl) (zCM zAC) rfl (.inl rfl))
  (zAE (zCA JQ g (zA2 rfl x.b_range (zAJ zAK zAO rfl x.b_len ⋯ (zAA (v0 0) zAC rfl) ⋯ rfl rfl rfl) rfl) (sgn g 3) (zAE (zBD (zDC g JU J7 J8 Yj zA5 (v0 2) (zAA (zAb (zAA (v0 3) (zAA (zDM (zAi g (v0 3) zAD) (zAJ zAK zAO rfl x.b_len ⋯ (zAA (v0 0) zAC rfl) ⋯ rfl rfl rfl)) zAC rfl) rfl)) zAC rfl) rfl rfl rfl rfl rfl) rfl)
  (zAI (zAw (zBF g (v0 1) (fun _=>rfl)) (zAI (zBD (zDC g JU J7 J8 Yj zA5 (v0 2) (zAA (zAb (zAA (zDM (zAi g (v0 3) zAD) (zAJ zAK zAO rfl x.b_len ⋯ (zAA (v0 0) zAC rfl) ⋯ rfl rfl rfl)) (zAA (v0 3) zAC rfl) rfl)) zAC rfl) rfl rfl rfl rfl rfl) rfl)) zAa))) (fun _=>rfl))
  (zAI (zAN (zAb (zAA (v0 0) (zAA (zHY (v0 2)) zAC rfl) rfl))))))
theorem zIM:FnScope ["_law_model_here", "_law_shifts", "_law_sheets", "_law_arcs", "_law_k", "_law_source", "_law_target", "_law_sheet", "_law_letter"] ["_law_model_here", "_law_shifts", "_law_sheets"] (defScope zBi):=⟨rfl,rfl,rfl,⋯,rfl,⋯,⋯⟩
theorem zFF(x:Fcts P K w mg):Fk P w K mg base (cl K w fr) 1 (He.fAd K ("_law_lifted",none)) ["_law_model_here", "_law_shifts", "_law_sheets"] zA8:=Fk.of x.d_law_lifted zIM (fun _ _ _ _ _ _ us hl=>match us,hl with|[_,_,_],_=>rfl) fun cd A outer s H E g hr=>(zAE (zAZ g (i:=3) rfl (zAV rfl) (zCM zAC) rfl (.inl rfl))
  (zAE (zCA JQ g (zA2 rfl x.b_range (zAJ zAK zAO rfl x.b_len ⋯ (zAA (ixK g (fun _ _=>rfl) (v0 0) zAD) zAC rfl) ⋯ rfl rfl rfl) rfl) (sgn g 4) (zAE (zMq (zCl g (zAS (sgn g 5) (zAS (sgn g 6) zBT rfl) rfl) rfl rfl rfl) (ixK g (fun _ _=>rfl) (ixK g (fun _ _=>rfl) (v0 0) zAD) (v0 4)) rfl rfl rfl)
  (zAI (zCA JQ g (zA2 rfl x.b_range (v0 2) rfl) (sgn g 7) (zAI (zBD (zDC g JU J7 J8 Yj zA5 (v0 3) (zAA (zAb (zAA (zAi g (zD0 (v0 5) (v0 2)) (v0 7)) (zAA (zAi g (zD0 (v0 6) (v0 2)) (zDM (zA7 zCI zDs rfl x.b_int ⋯ (zAA (zAi g (v0 7) (ixK g (fun _ _=>rfl) (v0 1) (v0 4))) zAC rfl) ⋯ rfl rfl rfl) (v0 2))) zAC rfl) rfl)) zAC rfl) rfl rfl rfl rfl rfl) rfl)) (fun _=>rfl)))) (fun _=>rfl))
  (zAI (zAN (zAb (zAA (zDC g Yv Y6 Y7 mt_join zF1 zAl (zAA (zCF g zAX (own:=[("_law_letter",8)]) (by kernel_rfl) rfl (zBn g (ixK g (fun _ _=>rfl) (v0 0) zAD)) ⋯ (fun _=>(sgn (GX.blk g) 8)) (fun _=>zAc) (fun _=>(zOF (v0 8) (v0 2))) (fun _=>rfl)) zAC rfl) rfl rfl rfl rfl rfl) (zAA (zHY (v0 3)) zAC rfl) rfl))))))
theorem zJb:FnScope ["_law_size", "_law_arcs", "_law_found", "_law_at", "_law_more", "_law_source", "_law_target", "_law_node"] ["_law_size", "_law_arcs"] (defScope zB8):=⟨rfl,rfl,rfl,⋯,rfl,⋯,⋯⟩
theorem zFh(x:Fcts P K w mg):Fk P w K mg base (cl K w fr) 1 (He.fAd K ("_law_goals",none)) ["_law_size", "_law_arcs"] zCD:=Fk.of x.d_law_goals zJb (fun _ _ _ _ _ _ us hl=>match us,hl with|[_,_],_=>rfl) fun cd A outer s H E g hr=>(zAE (zMq (zCl g (zAS (sgn g 2) (zAS (sgn g 3) zBT rfl) rfl) rfl rfl rfl) (zAb (zAA (zDH (zAA zAD zAC rfl)) (zAA zAD zAC rfl) rfl)) rfl rfl rfl)
  (zAE (zE3 JQ (zM9 (v0 3) (zAJ zAK zAO rfl x.b_len ⋯ (zAA (v0 2) zAC rfl) ⋯ rfl rfl rfl) rfl) (zAE (zAZ g (i:=4) rfl (zAV rfl) (zCF g zAX (own:=[("_law_source",5),("_law_target",6)]) (by kernel_rfl) rfl (zBn g (v0 1)) ⋯ (fun _=>(zCl (GX.blk g) (zAS (sgn (GX.blk g) 5) (zAS (sgn (GX.blk g) 6) zBT rfl) rfl) rfl rfl rfl)) (fun _=>zDt (zCp (GX.blk g) (v0 5) (ixK (GX.blk g) (fun _ _=>rfl) (v0 2) (v0 3)) rfl)) (fun _=>(v0 6)) (fun _=>rfl)) rfl (.inl rfl))
  (zAE (zAZ g (i:=2) rfl (zAV rfl) (zAi g (v0 2) (zCF g zAX (own:=[("_law_node",7)]) (by kernel_rfl) rfl (zA2 rfl x.b_range (v0 0) rfl) ⋯ (fun _=>(sgn (GX.blk g) 7)) (fun _=>zDt (zDS (zFd (zOs (GX.blk g) (v0 7) (v0 4) rfl) (zEt (zIC (GX.blk g) (v0 7) (v0 2) rfl))))) (fun _=>(v0 7)) (fun _=>rfl))) rfl (.inl rfl))
  (zAI (zAZ g (i:=3) rfl (zAV rfl) (zAi g (v0 3) zAD) rfl (.inl rfl))))))
  (zAI (zAN (v0 2)))))
theorem zFt:FnScope ["_law_size", "_law_arcs", "_law_back", "_law_source", "_law_target"] ["_law_size", "_law_arcs"] (defScope zA0):=⟨rfl,rfl,rfl,⋯,rfl,⋯,⋯⟩
theorem zDv(x:Fcts P K w mg):Fk P w K mg base (cl K w fr) 2 (He.fAd K ("_law_connected",none)) ["_law_size", "_law_arcs"] zAp:=Fk.of x.d_law_connected zFt (fun _ _ _ _ _ _ us hl=>match us,hl with|[_,_],_=>rfl) fun cd A outer s H E g hr=>(zAE (zDE g zAX rfl rfl (ji rfl rfl rfl rfl) (own:=[("_law_source",3),("_law_target",4)]) (by kernel_rfl) rfl (zBn g (v0 1)) ⋯ (fun _=>(zCl (GX.blk g) (zAS (sgn (GX.blk g) 3) (zAS (sgn (GX.blk g) 4) zBT rfl) rfl) rfl rfl rfl)) (fun _=>zAc) (fun _=>(zAb (zAA (v0 4) (zAA (v0 3) zAC rfl) rfl))) (fun _=>rfl))
  (zAI (zAN (zCq (zE0 g (zAJ zAK zAO rfl x.b_len ⋯ (zAA (zAR (zFh x) g (rm hr) rfl x.g__law_goals (zAA (v0 0) (zAA (v0 1) zAC rfl) rfl) rfl rfl rfl) zAC rfl) ⋯ rfl rfl rfl) (v0 0) rfl) (zDP (zE0 g (zAJ zAK zAO rfl x.b_len ⋯ (zAA (zAR (zFh x) g (rm hr) rfl x.g__law_goals (zAA (v0 0) (zAA (v0 2) zAC rfl) rfl) rfl rfl rfl) zAC rfl) ⋯ rfl rfl rfl) (v0 0) rfl))))))
theorem zKi:FnScope ["_law_bag_here", "_law_way_z", "_law_both", "_law_row", "_law_model_here", "_law_sheets", "_law_made_here", "_law_k", "_law_arc", "_law_source", "_law_target"] ["_law_bag_here", "_law_way_z"] (defScope zCO):=⟨rfl,rfl,rfl,⋯,rfl,⋯,⋯⟩
theorem zGz(x:Fcts P K w mg):Fk P w K mg base (cl K w fr) 4 (He.fAd K ("_law_even",none)) ["_law_bag_here", "_law_way_z"] zCc:=Fk.of x.d_law_even zKi (fun _ _ _ _ _ _ us hl=>match us,hl with|[_,_],_=>rfl) fun cd A outer s H E g hr=>(zAE (zAZ g (i:=2) rfl (zAV rfl) (zE0 g (v0 1) zAl rfl) rfl (.inl rfl))
  (zAE (zAZ g (i:=3) rfl (zAV rfl) (zDC g Yv Y6 Y7 mt_join zF1 zAl (zAA (zCF g zAX (own:=[("_law_k",7)]) (by kernel_rfl) rfl (zA2 rfl x.b_range (zAi g zAD (zAR (zAP x) g (rm hr) rfl x.g__law_pull (zAA (v0 0) (zAA zAD zAC rfl) rfl) rfl rfl rfl)) rfl) ⋯ (fun _=>(sgn (GX.blk g) 7)) (fun _=>zAc) (fun _=>(zAR (zDZ x) (GX.blk g) (rm hr) rfl x.g__law_of (zAA (v0 0) (zAA zAl zAC rfl) rfl) rfl rfl rfl)) (fun _=>rfl)) zAC rfl) rfl rfl rfl rfl rfl) rfl (.inl rfl))
  (zAE (zAw (zCp g (zAR (zAP x) g (rm hr) rfl x.g__law_pull (zAA (v0 0) (zAA zAD zAC rfl) rfl) rfl rfl rfl) zAD rfl) (zAI (zAN (zAR (zG0 x) g (rm hr) rfl x.g__law_ring (zAA (zOF (v0 3) (zAi g zAD (zAR (zAP x) g (rm hr) rfl x.g__law_pull (zAA (v0 0) (zAA zAD zAC rfl) rfl) rfl rfl rfl))) (zAA (v0 2) zAC rfl) rfl) rfl rfl rfl))) zAa)
  (zAE (zJX g rfl rfl (!0) rfl rfl (zAA (zAR (zDz x) g (rm hr) rfl x.g__law_model (zAA (v0 0) (zAA zAl (zAA zAD zAC rfl) rfl) rfl) rfl rfl rfl) (zAA (zAi g zAD (zAR (zAP x) g (rm hr) rfl x.g__law_pull (zAA (v0 0) (zAA zAD zAC rfl) rfl) rfl rfl rfl)) zAC rfl) rfl) rfl rfl)
  (zAE (zAZ g (i:=6) rfl (zAV rfl) (zAR (zFF x) g (rm hr) rfl x.g__law_lifted (zAA (v0 4) (zAA (zCF g zAX (own:=[("_law_arc",8)]) (by kernel_rfl) rfl (zBn g (ixK g (fun _ _=>rfl) (v0 4) zAD)) ⋯ (fun _=>(sgn (GX.blk g) 8)) (fun _=>zAc) (fun _=>(zAR (zAP x) (GX.blk g) (rm hr) rfl x.g__law_pull (zAA (v0 0) (zAA zAD zAC rfl) rfl) rfl rfl rfl)) (fun _=>rfl)) (zAA (v0 5) zAC rfl) rfl) rfl) rfl rfl rfl) rfl (.inl rfl))
  (zAE (zAw (zBF g (v0 2) (fun _=>rfl)) (zAI (zAZ g (i:=6) rfl (zAV rfl) (zAb (zAA (ixK g (fun _ _=>rfl) (v0 6) zAD) (zAA (zAi g (ixK g (fun _ _=>rfl) (v0 6) zAD) (zCF g zAX (own:=[("_law_source",9),("_law_target",10)]) (by kernel_rfl) rfl (zBn g (ixK g (fun _ _=>rfl) (v0 6) zAD)) ⋯ (fun _=>(zCl (GX.blk g) (zAS (sgn (GX.blk g) 9) (zAS (sgn (GX.blk g) 10) zBT rfl) rfl) rfl rfl rfl)) (fun _=>zAc) (fun _=>(zAb (zAA (v0 10) (zAA (v0 9) zAC rfl) rfl))) (fun _=>rfl))) zAC rfl) rfl)) rfl (.inl rfl))) zAa)
  (zAI (zAN (zL1 (zBF g (zAR (zDv x) g (rm hr) rfl x.g__law_connected (zAA (zAJ zAK zAO rfl x.b_len ⋯ (zAA (ixK g (fun _ _=>rfl) (v0 6) zAD) zAC rfl) ⋯ rfl rfl rfl) (zAA (ixK g (fun _ _=>rfl) (v0 6) zAD) zAC rfl) rfl) rfl rfl rfl) (fun _=>rfl)) (v0 6) (zL1 (zCj (zBF g (v0 2) (fun _=>rfl))) (v0 4) (zAR (zG0 x) g (rm hr) rfl x.g__law_ring (zAA (v0 3) (zAA zCt zAC rfl) rfl) rfl rfl rfl)))))))))))
theorem zJc:FnScope ["_law_model_here", "_law_order", "_law_letters", "_law_node", "_law_source", "_law_target"] ["_law_model_here", "_law_order"] (defScope zBz):=⟨rfl,rfl,rfl,⋯,rfl,⋯,⋯⟩
theorem zJW(x:Fcts P K w mg):Fk P w K mg base (cl K w fr) 1 (He.fAd K ("_law_moved",none)) ["_law_model_here", "_law_order"] zCE:=Fk.of x.d_law_moved zJc (fun _ _ _ _ _ _ us hl=>match us,hl with|[_,_],_=>rfl) fun cd A outer s H E g hr=>(zAE (zAZ g (i:=2) rfl (zAV rfl) (zDC g Yv Y6 Y7 mt_join zF1 zAl (zAA (zCF g zAX (own:=[("_law_node",3)]) (by kernel_rfl) rfl (zBn g (v0 1)) ⋯ (fun _=>(sgn (GX.blk g) 3)) (fun _=>zAc) (fun _=>(ixK (GX.blk g) (fun _ _=>rfl) (ixK (GX.blk g) (fun _ _=>rfl) (v0 0) zAD) (v0 3))) (fun _=>rfl)) zAC rfl) rfl rfl rfl rfl rfl) rfl (.inl rfl))
  (zAI (zAN (zAb (zAA (v0 2) (zAA (zCF g zAX (own:=[("_law_source",4),("_law_target",5)]) (by kernel_rfl) rfl (zBn g (ixK g (fun _ _=>rfl) (v0 0) zAD)) ⋯ (fun _=>(zCl (GX.blk g) (zAS (sgn (GX.blk g) 4) (zAS (sgn (GX.blk g) 5) zBT rfl) rfl) rfl rfl rfl)) (fun _=>zAc) (fun _=>(zAb (zAA (zDC (GX.blk g) JU bA bB mt_index zIy (v0 1) (zAA (v0 4) zAC rfl) rfl rfl rfl rfl rfl) (zAA (zDC (GX.blk g) JU bA bB mt_index zIy (v0 1) (zAA (v0 5) zAC rfl) rfl rfl rfl rfl rfl) zAC rfl) rfl))) (fun _=>rfl)) zAC rfl) rfl)))))
theorem zJl:FnScope ["_law_bag_here", "_law_way_z"] ["_law_bag_here", "_law_way_z"] (defScope zB4):=⟨rfl,rfl,rfl,⋯,rfl,⋯,⋯⟩
theorem zJU(x:Fcts P K w mg):Fk P w K mg base (cl K w fr) 5 (He.fAd K ("_law_drawn",none)) ["_law_bag_here", "_law_way_z"] zBX:=Fk.of x.d_law_drawn zJl (fun _ _ _ _ _ _ us hl=>match us,hl with|[_,_],_=>rfl) fun cd A outer s H E g hr=>(zAE (zAw (zDS (zFd (zFw g (v0 1) zAl rfl) (zEt (zCp g (zAR (zAP x) g (rm hr) rfl x.g__law_pull (zAA (v0 0) (zAA zAD zAC rfl) rfl) rfl rfl rfl) zAD rfl)))) (zAI (zAN (zAR (zGz x) g (rm hr) rfl x.g__law_even (zAA (v0 0) (zAA (v0 1) zAC rfl) rfl) rfl rfl rfl))) zAa)
  (zAI (zAN (zAR (zDz x) g (rm hr) rfl x.g__law_model (zAA (v0 0) (zAA (v0 1) (zAA zAD zAC rfl) rfl) rfl) rfl rfl rfl))))
theorem zMW:FnScope ["_law_bag_here", "_law_model_here", "_law_way_z", "_law_more", "_law_made_here", "_law_arc"] ["_law_bag_here", "_law_model_here", "_law_way_z"] (defScope zC2):=⟨rfl,rfl,rfl,⋯,rfl,⋯,⋯⟩
theorem zL6(x:Fcts P K w mg):Fk P w K mg base (cl K w fr) 6 (He.fAd K ("_law_kin",none)) ["_law_bag_here", "_law_model_here", "_law_way_z"] zDU:=Fk.of x.d_law_kin zMW (fun _ _ _ _ _ _ us hl=>match us,hl with|[_,_,_],_=>rfl) fun cd A outer s H E g hr=>(zAE (zAw (zDS (zE1 (zP9 (zAJ zAK zAO rfl x.b_len ⋯ (zAA (ixK g (fun _ _=>rfl) (v0 1) zAD) zAC rfl) ⋯ rfl rfl rfl) zAD rfl) (zDN (zCp g (zAR (zAP x) g (rm hr) rfl x.g__law_pull (zAA (v0 0) (zAA zAD zAC rfl) rfl) rfl rfl rfl) zAD rfl)))) (zAI (zAN (zAR (zJW x) g (rm hr) rfl x.g__law_moved (zAA (v0 1) (zAA (zAR (zEL x) g (rm hr) rfl x.g__law_mixed (zAA (v0 0) (zAA (zEW g rfl x.b_list rfl x.b_range (zAJ zAK zAO rfl x.b_len ⋯ (zAA (ixK g (fun _ _=>rfl) (v0 1) zAD) zAC rfl) ⋯ rfl rfl rfl)) zAC rfl) rfl) rfl rfl rfl) zAC rfl) rfl) rfl rfl rfl))) zAa)
  (zAE (zAw (zDS (zFd (zCp g (zAR (zAP x) g (rm hr) rfl x.g__law_pull (zAA (v0 0) (zAA zAD zAC rfl) rfl) rfl rfl rfl) zAD rfl) (zEt (zOs g (v0 2) (zDH (zAA zAl (zAA zAl zAC rfl) rfl)) rfl)))) (zAE (zAZ g (i:=4) rfl (zAV rfl) (zAR (zFF x) g (rm hr) rfl x.g__law_lifted (zAA (v0 1) (zAA (zCF g zAX (own:=[("_law_arc",5)]) (by kernel_rfl) rfl (zBn g (ixK g (fun _ _=>rfl) (v0 1) zAD)) ⋯ (fun _=>(sgn (GX.blk g) 5)) (fun _=>zAc) (fun _=>(zAR (zAP x) (GX.blk g) (rm hr) rfl x.g__law_pull (zAA (v0 0) (zAA zAD zAC rfl) rfl) rfl rfl rfl)) (fun _=>rfl)) (zAA zAD zAC rfl) rfl) rfl) rfl rfl rfl) rfl (.inl rfl))
  (zAI (zAN (zL1 (zBF g (zAR (zDv x) g (rm hr) rfl x.g__law_connected (zAA (zAJ zAK zAO rfl x.b_len ⋯ (zAA (ixK g (fun _ _=>rfl) (v0 4) zAD) zAC rfl) ⋯ rfl rfl rfl) (zAA (ixK g (fun _ _=>rfl) (v0 4) zAD) zAC rfl) rfl) rfl rfl rfl) (fun _=>rfl)) (v0 4) (v0 1))))) zAa)
  (zAE (zAw (zCp g (zAR (zAP x) g (rm hr) rfl x.g__law_pull (zAA (v0 0) (zAA zAD zAC rfl) rfl) rfl rfl rfl) zAD rfl) (zAI (zAN (zAR (zJU x) g (rm hr) rfl x.g__law_drawn (zAA (v0 0) (zAA (v0 2) zAC rfl) rfl) rfl rfl rfl))) zAa)
  (zAE (zAZ g (i:=3) rfl (zAV rfl) (zAb (zAA (zAR (zAP x) g (rm hr) rfl x.g__law_pull (zAA (v0 0) (zAA (zAJ zAK zAO rfl x.b_len ⋯ (zAA (ixK g (fun _ _=>rfl) (v0 1) zAD) zAC rfl) ⋯ rfl rfl rfl) zAC rfl) rfl) rfl rfl rfl) (zAA (zAR (zAP x) g (rm hr) rfl x.g__law_pull (zAA (v0 0) (zAA (zAJ zAK zAO rfl x.b_len ⋯ (zAA (ixK g (fun _ _=>rfl) (v0 1) zAD) zAC rfl) ⋯ rfl rfl rfl) zAC rfl) rfl) rfl rfl rfl) zAC rfl) rfl)) rfl (.inl rfl))
  (zAI (zAN (zAb (zAA (ixK g (fun _ _=>rfl) (v0 1) zAD) (zAA (zAi g (ixK g (fun _ _=>rfl) (v0 1) zAD) (zDH (zAA (v0 3) (zAA (zAb (zAA (ixK g (fun _ _=>rfl) (v0 3) zAD) (zAA (ixK g (fun _ _=>rfl) (v0 3) zAD) zAC rfl) rfl)) zAC rfl) rfl))) zAC rfl) rfl))))))))
theorem zJT:FnScope ["_law_model_here", "_law_node", "_law_source", "_law_target"] ["_law_model_here", "_law_node"] (defScope zB0):=⟨rfl,rfl,rfl,⋯,rfl,⋯,⋯⟩
theorem zDJ(x:Fcts P K w mg):Fk P w K mg base (cl K w fr) 1 (He.fAd K ("_law_heard",none)) ["_law_model_here", "_law_node"] zAu:=Fk.of x.d_law_heard zJT (fun _ _ _ _ _ _ us hl=>match us,hl with|[_,_],_=>rfl) fun cd A outer s H E g hr=>(zAI (zAN (zAJ zCx zCv rfl x.b_sorted ⋯ (zAA (zCF g zAX (own:=[("_law_source",2),("_law_target",3)]) (by kernel_rfl) rfl (zBn g (ixK g (fun _ _=>rfl) (v0 0) zAD)) ⋯ (fun _=>(zCl (GX.blk g) (zAS (sgn (GX.blk g) 2) (zAS (sgn (GX.blk g) 3) zBT rfl) rfl) rfl rfl rfl)) (fun _=>zDt (zCp (GX.blk g) (v0 3) (v0 1) rfl)) (fun _=>(v0 2)) (fun _=>rfl)) zAC rfl) ⋯ rfl rfl rfl)))
theorem zFT:FnScope ["_law_model_here", "_law_node"] ["_law_model_here"] (defScope zAq):=⟨rfl,rfl,rfl,⋯,rfl,⋯,⋯⟩
theorem zDV(x:Fcts P K w mg):Fk P w K mg base (cl K w fr) 2 (He.fAd K ("_law_most_heard",none)) ["_law_model_here"] zAj:=Fk.of x.d_law_most_heard zFT (fun _ _ _ _ _ _ us hl=>match us,hl with|[_],_=>rfl) fun cd A outer s H E g hr=>(zAI (zAN (zAJ (zEv g.hc) zF5 rfl x.b_max ⋯ (zAA (zCF g zAX (own:=[("_law_node",1)]) (by kernel_rfl) rfl (zA2 rfl x.b_range (zAJ zAK zAO rfl x.b_len ⋯ (zAA (ixK g (fun _ _=>rfl) (v0 0) zAD) zAC rfl) ⋯ rfl rfl rfl) rfl) ⋯ (fun _=>(sgn (GX.blk g) 1)) (fun _=>zAc) (fun _=>(zAJ zAK zAO rfl x.b_len ⋯ (zAA (zAR (zDJ x) (GX.blk g) (rm hr) rfl x.g__law_heard (zAA (v0 0) (zAA (v0 1) zAC rfl) rfl) rfl rfl rfl) zAC rfl) ⋯ rfl rfl rfl)) (fun _=>rfl)) zAC rfl) ⋯ rfl rfl rfl)))
theorem zI3:FnScope ["_law_keys", "_law_order", "_law_key"] ["_law_keys"] (defScope zB6):=⟨rfl,rfl,rfl,⋯,rfl,⋯,⋯⟩
theorem zFo(x:Fcts P K w mg):Fk P w K mg base (cl K w fr) 1 (He.fAd K ("_law_ranks",none)) ["_law_keys"] zBg:=Fk.of x.d_law_ranks zI3 (fun _ _ _ _ _ _ us hl=>match us,hl with|[_],_=>rfl) fun cd A outer s H E g hr=>(zAE (zAZ g (i:=1) rfl (zAV rfl) (zOG g rfl x.b_sorted rfl x.b_set (v0 0) rfl) rfl (.inl rfl))
  (zAI (zAN (zCF g zAX (own:=[("_law_key",2)]) (by kernel_rfl) rfl (zBn g (v0 0)) ⋯ (fun _=>(sgn (GX.blk g) 2)) (fun _=>zAc) (fun _=>(zDC (GX.blk g) JU bA bB (mt_indexD ((GX.blk g)).hu) zMa (v0 1) (zAA (v0 2) zAC rfl) rfl rfl rfl rfl rfl)) (fun _=>rfl)))))
theorem zKc:FnScope ["_law_model_here", "_law_node", "_law_arc"] ["_law_model_here", "_law_node"] (defScope zCd):=⟨rfl,rfl,rfl,⋯,rfl,⋯,⋯⟩
theorem zKA(x:Fcts P K w mg):Fk P w K mg base (cl K w fr) 1 (He.fAd K ("_law_outs",none)) ["_law_model_here", "_law_node"] zC8:=Fk.of x.d_law_outs zKc (fun _ _ _ _ _ _ us hl=>match us,hl with|[_,_],_=>rfl) fun cd A outer s H E g hr=>(zAI (zAN (zAJ zAK zAO rfl x.b_len ⋯ (zAA (zCF g zAX (own:=[("_law_arc",2)]) (by kernel_rfl) rfl (zBn g (ixK g (fun _ _=>rfl) (v0 0) zAD)) ⋯ (fun _=>(sgn (GX.blk g) 2)) (fun _=>zDt (zCp (GX.blk g) (ixK (GX.blk g) (fun _ _=>rfl) (v0 2) zAD) (v0 1) rfl)) (fun _=>(v0 2)) (fun _=>rfl)) zAC rfl) ⋯ rfl rfl rfl)))
theorem zI0:FnScope ["_law_model_here", "_law_way_z", "_law_known", "_law_node"] ["_law_model_here", "_law_way_z"] (defScope zBv):=⟨rfl,rfl,rfl,⋯,rfl,⋯,⋯⟩
theorem zEH(x:Fcts P K w mg):Fk P w K mg base (cl K w fr) 2 (He.fAd K ("_law_marks",none)) ["_law_model_here", "_law_way_z"] zBA:=Fk.of x.d_law_marks zI0 (fun _ _ _ _ _ _ us hl=>match us,hl with|[_,_],_=>rfl) fun cd A outer s H E g hr=>(zAE (zAZ g (i:=2) rfl (zAV rfl) (zRb g (v0 1) (zDH (zAA zAl (zAA zAl zAC rfl) rfl)) rfl) rfl (.inl rfl))
  (zAI (zAN (zCF g zAX (own:=[("_law_node",3)]) (by kernel_rfl) rfl (zA2 rfl x.b_range (zAJ zAK zAO rfl x.b_len ⋯ (zAA (ixK g (fun _ _=>rfl) (v0 0) zAD) zAC rfl) ⋯ rfl rfl rfl) rfl) ⋯ (fun _=>(sgn (GX.blk g) 3)) (fun _=>zAc) (fun _=>(zAb (zAA (ixK (GX.blk g) (fun _ _=>rfl) (ixK (GX.blk g) (fun _ _=>rfl) (v0 0) zAD) (v0 3)) (zAA (zL1 (zBF (GX.blk g) (v0 2) (fun _=>rfl)) (zAR (zKA x) (GX.blk g) (rm hr) rfl x.g__law_outs (zAA (v0 0) (zAA (v0 3) zAC rfl) rfl) rfl rfl rfl) zAD) zAC rfl) rfl))) (fun _=>rfl)))))
theorem zJx:FnScope ["_law_model_here", "_law_numbers", "_law_keys", "_law_node", "_law_one_z"] ["_law_model_here", "_law_numbers"] (defScope zCN):=⟨rfl,rfl,rfl,⋯,rfl,⋯,⋯⟩
theorem zJ8(x:Fcts P K w mg):Fk P w K mg base (cl K w fr) 2 (He.fAd K ("_law_next",none)) ["_law_model_here", "_law_numbers"] zDq:=Fk.of x.d_law_next zJx (fun _ _ _ _ _ _ us hl=>match us,hl with|[_,_],_=>rfl) fun cd A outer s H E g hr=>(zAE (zAZ g (i:=2) rfl (zAV rfl) (zCM zAC) rfl (.inl rfl))
  (zAE (zCA JQ g (zA2 rfl x.b_range (zAJ zAK zAO rfl x.b_len ⋯ (zAA (ixK g (fun _ _=>rfl) (v0 0) zAD) zAC rfl) ⋯ rfl rfl rfl) rfl) (sgn g 3) (zAI (zBD (zDC g JU J7 J8 Yj zA5 (v0 2) (zAA (zAb (zAA (ixK g (fun _ _=>rfl) (v0 1) (v0 3)) (zAA (zA7 bN zE9 rfl x.b_tuple ⋯ (zAA (zAJ zCx zCv rfl x.b_sorted ⋯ (zAA (zCF g zAX (own:=[("_law_one_z",4)]) (by kernel_rfl) rfl (zBn g (zAR (zDJ x) g (rm hr) rfl x.g__law_heard (zAA (v0 0) (zAA (v0 3) zAC rfl) rfl) rfl rfl rfl)) ⋯ (fun _=>(sgn (GX.blk g) 4)) (fun _=>zAc) (fun _=>(ixK (GX.blk g) (fun _ _=>rfl) (v0 1) (v0 4))) (fun _=>rfl)) zAC rfl) ⋯ rfl rfl rfl) zAC rfl) ⋯ rfl rfl rfl) zAC rfl) rfl)) zAC rfl) rfl rfl rfl rfl rfl) rfl)) (fun _=>rfl))
  (zAI (zAN (zAR (zFo x) g (rm hr) rfl x.g__law_ranks (zAA (v0 2) zAC rfl) rfl rfl rfl)))))
theorem zIS:FnScope ["_law_model_here", "_law_way_z", "_law_found", "_law_later"] ["_law_model_here", "_law_way_z"] (defScope zBV):=⟨rfl,rfl,rfl,⋯,rfl,⋯,⋯⟩
theorem zH0(x:Fcts P K w mg):Fk P w K mg base (cl K w fr) 3 (He.fAd K ("_law_rounds",none)) ["_law_model_here", "_law_way_z"] zCK:=Fk.of x.d_law_rounds zIS (fun _ _ _ _ _ _ us hl=>match us,hl with|[_,_],_=>rfl) fun cd A outer s H E g hr=>(zAE (zAZ g (i:=2) rfl (zAV rfl) (zCM (zAA (zAR (zFo x) g (rm hr) rfl x.g__law_ranks (zAA (zAR (zEH x) g (rm hr) rfl x.g__law_marks (zAA (v0 0) (zAA (v0 1) zAC rfl) rfl) rfl rfl rfl) zAC rfl) rfl rfl rfl) zAC rfl)) rfl (.inl rfl))
  (zAE (zE3 JQ (st_le (zAJ zAK zAO rfl x.b_len ⋯ (zAA (v0 2) zAC rfl) ⋯ rfl rfl rfl) (zAJ zAK zAO rfl x.b_len ⋯ (zAA (ixK g (fun _ _=>rfl) (v0 0) zAD) zAC rfl) ⋯ rfl rfl rfl) rfl) (zAE (zAZ g (i:=3) rfl (zAV rfl) (zAR (zJ8 x) g (rm hr) rfl x.g__law_next (zAA (v0 0) (zAA (ixK g (fun _ _=>rfl) (v0 2) (zLm zAD)) zAC rfl) rfl) rfl rfl rfl) rfl (.inl rfl))
  (zAE (zAw (zCp g (zAJ (zEv g.hc) zF5 rfl x.b_max ⋯ (zAA (v0 3) zAC rfl) ⋯ rfl rfl rfl) (zAJ (zEv g.hc) zF5 rfl x.b_max ⋯ (zAA (ixK g (fun _ _=>rfl) (v0 2) (zLm zAD)) zAC rfl) ⋯ rfl rfl rfl) rfl) (zAI zPg) zAa)
  (zAI (zBD (zDC g JU J7 J8 Yj zA5 (v0 2) (zAA (v0 3) zAC rfl) rfl rfl rfl rfl rfl) rfl)))))
  (zAI (zAN (zHY (v0 2))))))
theorem zGU:FnScope ["_law_model_here", "_law_other_z", "_law_way_z", "_law_first", "_law_both", "_law_numbers", "_law_found", "_law_at", "_law_source", "_law_target", "_law_to"] ["_law_model_here", "_law_other_z", "_law_way_z"] (defScope zBC):=⟨rfl,rfl,rfl,⋯,rfl,⋯,⋯⟩
theorem zGI(x:Fcts P K w mg):Fk P w K mg base (cl K w fr) 4 (He.fAd K ("_law_pairs_of",none)) ["_law_model_here", "_law_other_z", "_law_way_z"] zBU:=Fk.of x.d_law_pairs_of zGU (fun _ _ _ _ _ _ us hl=>match us,hl with|[_,_,_],_=>rfl) fun cd A outer s H E g hr=>(zAE (zAZ g (i:=3) rfl (zAV rfl) (zAJ zAK zAO rfl x.b_len ⋯ (zAA (ixK g (fun _ _=>rfl) (v0 0) zAD) zAC rfl) ⋯ rfl rfl rfl) rfl (.inl rfl))
  (zAE (zAZ g (i:=4) rfl (zAV rfl) (zAb (zAA (zAi g (ixK g (fun _ _=>rfl) (v0 0) zAD) (ixK g (fun _ _=>rfl) (v0 1) zAD)) (zAA (zAi g (ixK g (fun _ _=>rfl) (v0 0) zAD) (zCF g zAX (own:=[("_law_source",8),("_law_target",9)]) (by kernel_rfl) rfl (zBn g (ixK g (fun _ _=>rfl) (v0 1) zAD)) ⋯ (fun _=>(zCl (GX.blk g) (zAS (sgn (GX.blk g) 8) (zAS (sgn (GX.blk g) 9) zBT rfl) rfl) rfl rfl rfl)) (fun _=>zAc) (fun _=>(zAb (zAA (zAi (GX.blk g) (v0 8) (v0 3)) (zAA (zAi (GX.blk g) (v0 9) (v0 3)) zAC rfl) rfl))) (fun _=>rfl))) zAC rfl) rfl)) rfl (.inl rfl))
  (zAE (zMq (zCl g (zAS (sgn g 5) (zAS (sgn g 6) zBT rfl) rfl) rfl rfl rfl) (zAb (zAA (ixK g (fun _ _=>rfl) (zAR (zH0 x) g (rm hr) rfl x.g__law_rounds (zAA (v0 4) (zAA (v0 2) zAC rfl) rfl) rfl rfl rfl) (zLm zAD)) (zAA (zDH zAC) zAC rfl) rfl)) rfl rfl rfl)
  (zAE (zCA JQ g (zA2 rfl x.b_range (v0 3) rfl) (sgn g 7) (zAI (zAZ g (i:=6) rfl (zAV rfl) (zAi g (v0 6) (zCF g zAX (own:=[("_law_to",10)]) (by kernel_rfl) rfl (zA2 rfl x.b_range (zAJ zAK zAO rfl x.b_len ⋯ (zAA (ixK g (fun _ _=>rfl) (v0 1) zAD) zAC rfl) ⋯ rfl rfl rfl) rfl) ⋯ (fun _=>(sgn (GX.blk g) 10)) (fun _=>zDt (zCp (GX.blk g) (ixK (GX.blk g) (fun _ _=>rfl) (v0 5) (v0 7)) (ixK (GX.blk g) (fun _ _=>rfl) (v0 5) (zAi (GX.blk g) (v0 3) (v0 10))) rfl)) (fun _=>(zAb (zAA (v0 7) (zAA (v0 10) zAC rfl) rfl))) (fun _=>rfl))) rfl (.inl rfl))) (fun _=>rfl))
  (zAI (zAN (v0 6)))))))
theorem zG8:FnScope ["_law_bag_here", "_law_things", "_law_found", "_law_thing"] ["_law_bag_here", "_law_things"] (defScope zBZ):=⟨rfl,rfl,rfl,⋯,rfl,⋯,⋯⟩
theorem zHF(x:Fcts P K w mg):Fk P w K mg base (cl K w fr) 2 (He.fAd K ("_law_mixed",none)) ["_law_bag_here", "_law_things"] zBR:=Fk.of x.d_law_mixed zG8 (fun _ _ _ _ _ _ us hl=>match us,hl with|[_,_],_=>rfl) fun cd A outer s H E g hr=>(zAE (zAZ g (i:=2) rfl (zAV rfl) (zCM zAC) rfl (.inl rfl))
  (zAE (zCA JQ g (zBn g (v0 1)) (sgn g 3) (zAI (zBD (zDC g JU F.slot_list_insert F.type_list_insert mt_insert zHe (v0 2) (zAA (zAR (zAP x) g (rm hr) rfl x.g__law_pull (zAA (v0 0) (zAA (zAi g (zAJ zAK zAO rfl x.b_len ⋯ (zAA (v0 2) zAC rfl) ⋯ rfl rfl rfl) zAD) zAC rfl) rfl) rfl rfl rfl) (zAA (v0 3) zAC rfl) rfl) rfl rfl rfl rfl rfl) rfl)) (fun _=>rfl))
  (zAI (zAN (v0 2)))))
-- raises ['InvalidWay']
theorem zJt:FnScope ["way"] ["way"] (defScope zCP):=⟨rfl,rfl,rfl,⋯,rfl,⋯,⋯⟩
theorem zKU(x:Fcts P K w mg):Xk P w K mg base (cl K w fr) 3 (He.fAd K ("need_way",none)) ["way"] zCh:=Xk.of x.d_need_way zJt (fun _ _ _ _ _ _ us hl=>match us,hl with|[_],_=>rfl) fun cd A outer s H E g tk hr=>(zAI (zAw (zDS (zE1 (zCj (zBF g (zBp g (!0) rfl x.b_isinstance rfl x.b_str ⋯ ⋯ rfl (v0 0) rfl rfl rfl) (fun _=>rfl))) (zDN (zIC g (v0 0) (zRu g rfl x.k_WAYS rfl) rfl)))) (zAI (zFJ (zII x) g tk (rm hr) rfl x.g_InvalidWay (v0 0) ⋯ rfl rfl)) zAa))
-- raises ['InvalidWay']
theorem zJg:FnScope ["self", "way", "back", "source", "target"] ["self", "way"] (defScope zBu):=⟨rfl,rfl,rfl,⋯,rfl,⋯,⋯⟩
theorem zJN(x:Fcts P K w mg):Xk P w K mg base (cl K w fr) 4 (He.fAd K ("Web",some "is_of")) ["self", "way"] zBH:=Xk.of x.d_Web_is_of zJg (fun _ _ _ _ _ _ us hl=>match us,hl with|[_,_],_=>rfl) fun cd A outer s H E g tk hr=>(zAE (zBD (zD7 (zKU x) g tk WI.e (rm hr) rfl x.g_need_way (zAA (v0 1) zAC rfl) rfl rfl rfl) rfl)
  (zAE (zAw (zCp g (v0 1) zAl rfl) (zAI (zAN (zE0 g (zDC g Yv F.slot_str_count F.type_str_count mt_count zNW (zFI g (fld1 x.f_Web_signs) (v0 0) rfl) (zAA zAl zAC rfl) rfl rfl rfl rfl rfl) zAD rfl))) zAa)
  (zAE (zAw (zOs g zAl (zFI g (fld1 x.f_Web_signs) (v0 0) rfl) rfl) (zAI (zAN zCt)) zAa)
  (zAE (zDE g zAX rfl rfl (ji rfl rfl rfl rfl) (own:=[("source",3),("target",4)]) (by kernel_rfl) rfl (zBn g (zFI g (fld1 x.f_Web_lines) (v0 0) rfl)) ⋯ (fun _=>(zCl (GX.blk g) (zAS (sgn (GX.blk g) 3) (zAS (sgn (GX.blk g) 4) zBT rfl) rfl) rfl rfl rfl)) (fun _=>zAc) (fun _=>(zAb (zAA (v0 4) (zAA (v0 3) zAC rfl) rfl))) (fun _=>rfl))
  (zAI (zAN (se_or (se_ne g (v0 1) zAl rfl) (zDP (zE0 g (zAJ zCx zCv rfl x.b_sorted ⋯ (zAA (v0 2) zAC rfl) ⋯ rfl rfl rfl) (zAJ zCx zCv rfl x.b_sorted ⋯ (zAA (zFI g (fld1 x.f_Web_lines) (v0 0) rfl) zAC rfl) ⋯ rfl rfl rfl) rfl)))))))))
-- raises ['InvalidWay','NotOfWay']
theorem zHJ:FnScope ["web", "way"] ["web", "way"] (defScope zBN):=⟨rfl,rfl,rfl,⋯,rfl,⋯,⋯⟩
theorem zDQ(x:Fcts P K w mg):Xk P w K mg base (cl K w fr) 5 (He.fAd K ("need_of_way",none)) ["web", "way"] zAg:=Xk.of x.d_need_of_way zHJ (fun _ _ _ _ _ _ us hl=>match us,hl with|[_,_],_=>rfl) fun cd A outer s H E g tk hr=>(zAI (zAw (zCj (zBF g (zGC (zJN x) g tk WI.e (rm hr) rfl rfl x.c_Web x.m_Web_is_of (v0 0) (zAA (v0 1) zAC rfl) rfl rfl rfl) (fun _=>rfl))) (zAI (zFJ (zJv x) g tk (rm hr) rfl x.g_NotOfWay (v0 1) ⋯ rfl rfl)) zAa))
theorem zJi:FnScope ["value"] ["value"] (defScope zB1):=⟨rfl,rfl,rfl,⋯,rfl,⋯,⋯⟩
theorem zI7(x:Fcts P K w mg):Fk P w K mg base (cl K w fr) 1 (He.fAd K ("is_number",none)) ["value"] zCB:=Fk.of x.d_is_number zJi (fun _ _ _ _ _ _ us hl=>match us,hl with|[_],_=>rfl) fun cd A outer s H E g hr=>(zAI (zAN (zCq (zBp g (!0) rfl x.b_isinstance rfl x.b_int ⋯ ⋯ rfl (v0 0) rfl rfl rfl) (zDP (zOb (zBp g (!0) rfl x.b_isinstance rfl x.b_bool ⋯ ⋯ rfl (v0 0) rfl rfl rfl))))))
theorem zJL:FnScope ["value", "least", "most"] ["value", "least", "most"] (defScope zBy):=⟨rfl,rfl,rfl,⋯,rfl,⋯,⋯⟩
theorem zDO(x:Fcts P K w mg):Fk P w K mg base (cl K w fr) 2 (He.fAd K ("is_within",none)) ["value", "least", "most"] zAf:=Fk.of x.d_is_within zJL (fun _ _ _ _ _ _ us hl=>match us,hl with|[_,_,_],_=>rfl) fun cd A outer s H E g hr=>(zAI (zAN (zCq (zAR (zI7 x) g (rm hr) rfl x.g_is_number (zAA (v0 0) zAC rfl) rfl rfl rfl) (zDP (zIV op_le op_le zG3 zG3 (v0 1) (v0 0) (v0 2) (by with_unfolding_all rfl))))))
theorem zMR:FnScope ["self"] ["self"] (defScope zC6):=⟨rfl,rfl,rfl,⋯,rfl,⋯,⋯⟩
theorem zDe(x:Fcts P K w mg):Fk P w K mg base (cl K w fr) 1 (He.fAd K ("Web",some "__len__")) ["self"] zA4:=Fk.of x.d_Web_len zMR (fun _ _ _ _ _ _ us hl=>match us,hl with|[_],_=>rfl) fun cd A outer s H E g hr=>(zAI (zAN (zAJ zAK zAO rfl x.b_len ⋯ (zAA (zFI g (fld1 x.f_Web_signs) (v0 0) rfl) zAC rfl) ⋯ rfl rfl rfl)))
-- raises ['InvalidNode']
theorem zFu:FnScope ["self", "node"] ["self", "node"] (defScope zAy):=⟨rfl,rfl,rfl,⋯,rfl,⋯,⋯⟩
theorem zCo(x:Fcts P K w mg):Xk P w K mg base (cl K w fr) 3 (He.fAd K ("Web",some "need_node")) ["self", "node"] zA3:=Xk.of x.d_Web_need_node zFu (fun _ _ _ _ _ _ us hl=>match us,hl with|[_,_],_=>rfl) fun cd A outer s H E g tk hr=>(zAI (zAw (zCj (zBF g (zAR (zDO x) g (rm hr) rfl x.g_is_within (zAA (v0 1) (zAA zAD (zAA (zGH (zAJ zAK zAO rfl x.b_len ⋯ (zAA (zFI g (fld1 x.f_Web_signs) (v0 0) rfl) zAC rfl) ⋯ rfl rfl rfl) zAD) zAC rfl) rfl) rfl) rfl rfl rfl) (fun _=>rfl))) (zAI (zFJ (zHN x) g tk (rm hr) rfl x.g_InvalidNode (v0 1) ⋯ rfl rfl)) zAa))
theorem zEa:FnScope ["way"] ["way"] (defScope zAe):=⟨rfl,rfl,rfl,⋯,rfl,⋯,⋯⟩
theorem zEZ(x:Fcts P K w mg):Fk P w K mg base (cl K w fr) 1 (He.fAd K ("knows_out_numbers",none)) ["way"] zBE:=Fk.of x.d_knows_out_numbers zEa (fun _ _ _ _ _ _ us hl=>match us,hl with|[_],_=>rfl) fun cd A outer s H E g hr=>(zAI (zAN (zRb g (v0 0) (zAb (zAA zAl (zAA zAl zAC rfl) rfl)) rfl)))
-- raises ['InvalidNode']
theorem zFR:FnScope ["self", "node", "arc"] ["self", "node"] (defScope zAo):=⟨rfl,rfl,rfl,⋯,rfl,⋯,⋯⟩
theorem zFS(x:Fcts P K w mg):Xk P w K mg base (cl K w fr) 4 (He.fAd K ("Web",some "out_number")) ["self", "node"] zBk:=Xk.of x.d_Web_out_number zFR (fun _ _ _ _ _ _ us hl=>match us,hl with|[_,_],_=>rfl) fun cd A outer s H E g tk hr=>(zAE (zBD (zGC (zCo x) g tk WI.e (rm hr) rfl rfl x.c_Web x.m_Web_need_node (v0 0) (zAA (v0 1) zAC rfl) rfl rfl rfl) rfl)
  (zAI (zAN (zAJ zAK zAO rfl x.b_len ⋯ (zAA (zCF g zAX (own:=[("arc",2)]) (by kernel_rfl) rfl (zBn g (zFI g (fld1 x.f_Web_lines) (v0 0) rfl)) ⋯ (fun _=>(sgn (GX.blk g) 2)) (fun _=>zDt (zCp (GX.blk g) (ixK (GX.blk g) (fun _ _=>rfl) (v0 2) zAD) (v0 1) rfl)) (fun _=>(v0 2)) (fun _=>rfl)) zAC rfl) ⋯ rfl rfl rfl))))
theorem zG9:FnScope ["self"] ["self"] (defScope zBI):=⟨rfl,rfl,rfl,⋯,rfl,⋯,⋯⟩
theorem zHK(x:Fcts P K w mg):Fk P w K mg base (cl K w fr) 1 ((zBd K (He.ga K "Web") "letters").2) ["self"] zBs:=Fk.of x.d_Web_letters zG9 (fun _ _ _ _ _ _ us hl=>match us,hl with|[_],_=>rfl) fun cd A outer s H E g hr=>(zAI (zAN (zFI g (fld1 x.f_Web_signs) (v0 0) rfl)))
theorem zHB(x:Fcts P K w mg):Pk P w K mg base (cl K w fr) 1 (He.ga K "Web") "letters" zBs:=Pk.of x.p_Web_letters (zHK x)
-- raises ['InvalidNode','InvalidWay','NotOfWay']
theorem zMM:FnScope ["web", "way", "node"] ["web", "way", "node"] (defScope zC1):=⟨rfl,rfl,rfl,⋯,rfl,⋯,⋯⟩
theorem zL0(x:Fcts P K w mg):Xk P w K mg base (cl K w fr) 6 (He.fAd K ("mark_of",none)) ["web", "way", "node"] zDb:=Xk.of x.d_mark_of zMM (fun _ _ _ _ _ _ us hl=>match us,hl with|[_,_,_],_=>rfl) fun cd A outer s H E g tk hr=>(zAE (zBD (zD7 (zDQ x) g tk WI.e (rm hr) rfl x.g_need_of_way (zAA (v0 0) (zAA (v0 1) zAC rfl) rfl) rfl rfl rfl) rfl)
  (zAE (zBD (zGC (zCo x) g tk WI.e (rm hr) rfl rfl x.c_Web x.m_Web_need_node (v0 0) (zAA (v0 2) zAC rfl) rfl rfl rfl) rfl)
  (zAI (zAN (zAb (zAA (ixK g (fun _ _=>rfl) (propK (zHB x) g (rm hr) rfl x.c_Web (v0 0) rfl) (v0 2)) (zAA (zL1 (zBF g (zAR (zEZ x) g (rm hr) rfl x.g_knows_out_numbers (zAA (v0 1) zAC rfl) rfl rfl rfl) (fun _=>rfl)) (zGC (zFS x) g tk WI.e (rm hr) rfl rfl x.c_Web x.m_Web_out_number (v0 0) (zAA (v0 2) zAC rfl) rfl rfl rfl) zAD) zAC rfl) rfl))))))
-- raises ['InvalidNode','InvalidWay','NotOfWay']
theorem zJ5:FnScope ["web", "way", "node"] ["web", "way"] (defScope zCZ):=⟨rfl,rfl,rfl,⋯,rfl,⋯,⋯⟩
theorem zGA(x:Fcts P K w mg):Xk P w K mg base (cl K w fr) 7 (He.fAd K ("marks_of",none)) ["web", "way"] zBJ:=Xk.of x.d_marks_of zJ5 (fun _ _ _ _ _ _ us hl=>match us,hl with|[_,_],_=>rfl) fun cd A outer s H E g tk hr=>(zAI (zAN (zCF g zAX (own:=[("node",2)]) (by kernel_rfl) rfl (zA2 rfl x.b_range (zGx (zDe x) g (rm hr) rfl x.m_Web_len rfl x.b_len (v0 0) rfl rfl) rfl) ⋯ (fun _=>(sgn (GX.blk g) 2)) (fun _=>zAc) (fun _=>(zD7 (zL0 x) (GX.blk g) tk0 wi0 (rm hr) rfl x.g_mark_of (zAA (v0 0) (zAA (v0 1) (zAA (v0 2) zAC rfl) rfl) rfl) rfl rfl rfl)) (fun _=>rfl))))
theorem zJp:FnScope ["begin", "last", "came", "partner", "one", "before", "place"] ["begin", "last", "came", "partner"] (defScope zB5):=⟨rfl,rfl,rfl,⋯,rfl,⋯,⋯⟩
theorem zIz(x:Fcts P K w mg):Fk P w K mg base (cl K w fr) 1 (He.fAd K ("exchanged",none)) ["begin", "last", "came", "partner"] zBG:=Fk.of x.d_exchanged zJp (fun _ _ _ _ _ _ us hl=>match us,hl with|[_,_,_,_],_=>rfl) fun cd A outer s H E g hr=>(zAE (zAZ g (i:=4) rfl (zAV rfl) (zIU g (fun _ _=>rfl) (v0 2) (v0 1)) rfl (.inl rfl))
  (zAE (zE3 JQ (zFw g (v0 4) (v0 0) rfl) (zAE (zAZ g (i:=5) rfl (zAV rfl) (zRo (ixK g (fun _ _=>rfl) (zCF g zAX (own:=[("place",6)]) (by kernel_rfl) rfl (zSu g (v0 3)) ⋯ (fun _=>(sgn (GX.blk g) 6)) (fun _=>zDt (zCp (GX.blk g) (zPf (GX.blk g) (fun _ _=>rfl) (v0 3) (v0 6)) (v0 4) rfl)) (fun _=>(v0 6)) (fun _=>rfl)) zAD)) rfl (.inl rfl))
  (zAE (zIJ g (v0 3) (v0 1) (v0 4) rfl)
  (zAE (zAZ g (i:=1) rfl (zAV rfl) (v0 5) rfl (.inl rfl))
  (zAI (zAZ g (i:=4) rfl (zAV rfl) (zIU g (fun _ _=>rfl) (v0 2) (v0 1)) rfl (.inl rfl)))))))
  (zAE (zIJ g (v0 3) (v0 1) (v0 4) rfl)
  (zAI (zAN zCt)))))
theorem zFp:FnScope ["left", "right", "known", "begin", "partner", "line", "came", "at", "to"] ["left", "right", "known", "begin", "partner"] (defScope zAz):=⟨rfl,rfl,rfl,⋯,rfl,⋯,⋯⟩
theorem zFq(x:Fcts P K w mg):Fk P w K mg base (cl K w fr) 2 (He.fAd K ("found_partner",none)) ["left", "right", "known", "begin", "partner"] zAd:=Fk.of x.d_found_partner zFp (fun _ _ _ _ _ _ us hl=>match us,hl with|[_,_,_,_,_],_=>rfl) fun cd A outer s H E g hr=>(zAE (zN8 g rfl rfl rfl (!0) (!0) (!0) rfl rfl rfl (zAA (zCM (zAA (v0 3) zAC rfl)) (zAA zLh (zAA zAD zAC rfl) rfl) rfl) rfl rfl)
  (zAE (zE3 JQ (zM9 (v0 7) (zAJ zAK zAO rfl x.b_len ⋯ (zAA (v0 5) zAC rfl) ⋯ rfl rfl rfl) rfl) (zAE (zCA JQ g (zA2 rfl x.b_range (zAJ zAK zAO rfl x.b_len ⋯ (zAA (v0 1) zAC rfl) ⋯ rfl rfl rfl) rfl) (sgn g 8) (zAI (zAw (zDS (zFd (zGt g (v0 8) (v0 6) rfl) (zEt (st_inN g rfl (zAb (zAA (ixK g (fun _ _=>rfl) (v0 0) (ixK g (fun _ _=>rfl) (v0 5) (v0 7))) (zAA (ixK g (fun _ _=>rfl) (v0 1) (v0 8)) zAC rfl) rfl)) (v0 2) rfl)))) (zAE (zIJ g (v0 6) (v0 8) (ixK g (fun _ _=>rfl) (v0 5) (v0 7)) rfl)
  (zAE (zAw (zGt g (v0 8) (v0 4) rfl) (zAI (zAN (zAR (zIz x) g (rm hr) rfl x.g_exchanged (zAA (v0 3) (zAA (v0 8) (zAA (v0 6) (zAA (v0 4) zAC rfl) rfl) rfl) rfl) rfl rfl rfl))) zAa)
  (zAI (zBD (zDC g JU J7 J8 Yj zA5 (v0 5) (zAA (zIU g (fun _ _=>rfl) (v0 4) (v0 8)) zAC rfl) rfl rfl rfl rfl rfl) rfl)))) zAa)) (fun _=>rfl))
  (zAI (zQo g (i:=7) rfl (zAV rfl) zKw zKm zAD (.inl rfl)))))
  (zAI (zAN zCt))))
theorem zId:FnScope ["left", "right", "known", "partner", "at"] ["left", "right", "known"] (defScope zBj):=⟨rfl,rfl,rfl,⋯,rfl,⋯,⋯⟩
theorem zHo(x:Fcts P K w mg):Fk P w K mg base (cl K w fr) 3 (He.fAd K ("are_paired",none)) ["left", "right", "known"] zBP:=Fk.of x.d_are_paired zId (fun _ _ _ _ _ _ us hl=>match us,hl with|[_,_,_],_=>rfl) fun cd A outer s H E g hr=>(zAE (zAw (zFw g (zAJ zAK zAO rfl x.b_len ⋯ (zAA (v0 0) zAC rfl) ⋯ rfl rfl rfl) (zAJ zAK zAO rfl x.b_len ⋯ (zAA (v0 1) zAC rfl) ⋯ rfl rfl rfl) rfl) (zAI (zAN zCt)) zAa)
  (zAE (zAZ g (i:=3) rfl (zAV rfl) zLh rfl (.inl rfl))
  (zAE (zCA JQ g (zA2 rfl x.b_range (zAJ zAK zAO rfl x.b_len ⋯ (zAA (v0 0) zAC rfl) ⋯ rfl rfl rfl) rfl) (sgn g 4) (zAI (zAw (zCj (zBF g (zAR (zFq x) g (rm hr) rfl x.g_found_partner (zAA (v0 0) (zAA (v0 1) (zAA (v0 2) (zAA (v0 4) (zAA (v0 3) zAC rfl) rfl) rfl) rfl) rfl) rfl rfl rfl) (fun _=>rfl))) (zAI (zAN zCt)) zAa)) (fun _=>rfl))
  (zAI (zAN zCt)))))
-- raises ['InvalidNode']
theorem zJk:FnScope ["self", "node"] ["self", "node"] (defScope zBt):=⟨rfl,rfl,rfl,⋯,rfl,⋯,⋯⟩
theorem zFi(x:Fcts P K w mg):Xk P w K mg base (cl K w fr) 4 (He.fAd K ("Web",some "heard")) ["self", "node"] zBh:=Xk.of x.d_Web_heard zJk (fun _ _ _ _ _ _ us hl=>match us,hl with|[_,_],_=>rfl) fun cd A outer s H E g tk hr=>(zAE (zBD (zGC (zCo x) g tk WI.e (rm hr) rfl rfl x.c_Web x.m_Web_need_node (v0 0) (zAA (v0 1) zAC rfl) rfl rfl rfl) rfl)
  (zAI (zAN (zA7 b7 zF7 rfl x.b_list ⋯ (zAA (ixK g (fun _ _=>rfl) (zFI g (fld1 x.f_Web_sources) (v0 0) rfl) (v0 1)) zAC rfl) ⋯ rfl rfl rfl))))
-- raises ['InvalidNode','InvalidWay','NotOfWay']
theorem zFP:FnScope ["one", "other", "way", "pairs", "pair", "known", "marks", "others", "at", "to"] ["one", "other", "way", "pairs"] (defScope zAr):=⟨rfl,rfl,rfl,⋯,rfl,⋯,⋯⟩
def zDX(K:PySem.W.Frag) (fd:FuncData):Prop:=KBn K fd ["one", "other", "way", "pairs"] 0 ["pairs", "way", "one", "other"] (gI [2,3,1,0]) (gI [2,3,1,0])∧True
theorem zDD(x:Fcts P K w mg):Xk2 (zDX K) P w K mg base (cl K w fr) 8 (He.fAd K ("relation_holds",none)) ["one", "other", "way", "pairs"] zAL:=Xk2.of x.d_relation_holds zFP (fun _ _ _ _ _ _ us hl=>match us,hl with|[_,_,_,_],_=>rfl) (fun fd F=>⟨FunD.kbindsI F 0 [2,3,1,0] (fun _ _ _ _ _ _ us ws h1 h2=>match us,ws,h1,h2 with|[],[_,_,_,_],_,_=>rfl),trivial⟩) fun cd A outer s H E g tk hr=>(zAE (zBD (zD7 (zDQ x) g tk WI.e (rm hr) rfl x.g_need_of_way (zAA (v0 0) (zAA (v0 2) zAC rfl) rfl) rfl rfl rfl) rfl)
  (zAE (zBD (zD7 (zDQ x) g tk WI.e (rm hr) rfl x.g_need_of_way (zAA (v0 1) (zAA (v0 2) zAC rfl) rfl) rfl rfl rfl) rfl)
  (zAE (zCA (passes_of rfl) g (zBn g (v0 3)) (sgn g 4) (zAE (zAw (zDS (zE1 (zCj (zBF g (zBp g (!0) rfl x.b_isinstance rfl x.b_tuple ⋯ ⋯ rfl (v0 4) rfl rfl rfl) (fun _=>rfl))) (zDN (zFw g (zAJ zAK zAO rfl x.b_len ⋯ (zAA (v0 4) zAC rfl) ⋯ rfl rfl rfl) zAD rfl)))) (zAI (zAN zCt)) zAa)
  (zAI (zAw (zDS (zE1 (zCj (zBF g (zAR (zDO x) g (rm hr) rfl x.g_is_within (zAA (ixK g (fun _ _=>rfl) (v0 4) zAD) (zAA zAD (zAA (zGH (zGx (zDe x) g (rm hr) rfl x.m_Web_len rfl x.b_len (v0 0) rfl rfl) zAD) zAC rfl) rfl) rfl) rfl rfl rfl) (fun _=>rfl))) (zDN (zCj (zBF g (zAR (zDO x) g (rm hr) rfl x.g_is_within (zAA (ixK g (fun _ _=>rfl) (v0 4) zAD) (zAA zAD (zAA (zGH (zGx (zDe x) g (rm hr) rfl x.m_Web_len rfl x.b_len (v0 1) rfl rfl) zAD) zAC rfl) rfl) rfl) rfl rfl rfl) (fun _=>rfl)))))) (zAI (zAN zCt)) zAa))) (fun _=>rfl))
  (zAE (zMj g rfl rfl rfl (zPK rfl rfl rfl rfl) (own:=[("pair",4)]) (by kernel_rfl) rfl (zBn g (v0 3)) ⋯ (fun _=>(sgn (GX.blk g) 4)) (fun _=>zAc) (fun _=>(v0 4)) (fun _=>zCt) (fun _=>rfl))
  (zAE (zJX g rfl rfl (!0) rfl rfl (zAA (zD7 (zGA x) g tk WI.e (rm hr) rfl x.g_marks_of (zAA (v0 0) (zAA (v0 2) zAC rfl) rfl) rfl rfl rfl) (zAA (zD7 (zGA x) g tk WI.e (rm hr) rfl x.g_marks_of (zAA (v0 1) (zAA (v0 2) zAC rfl) rfl) rfl rfl rfl) zAC rfl) rfl) rfl rfl)
  (zAE (zCA (passes_of rfl) g (zHn g (v0 5)) (zCl g (zAS (sgn g 8) (zAS (sgn g 9) zBT rfl) rfl) rfl rfl rfl) (zAI (zAw (zDS (zE1 (zFw g (ixK g (fun _ _=>rfl) (v0 6) (v0 8)) (ixK g (fun _ _=>rfl) (v0 7) (v0 9)) rfl) (zDN (zCj (zBF g (zAR (zHo x) g (rm hr) rfl x.g_are_paired (zAA (zGC (zFi x) g tk WI.e (rm hr) rfl rfl x.c_Web x.m_Web_heard (v0 0) (zAA (v0 8) zAC rfl) rfl rfl rfl) (zAA (zGC (zFi x) g tk WI.e (rm hr) rfl rfl x.c_Web x.m_Web_heard (v0 1) (zAA (v0 9) zAC rfl) rfl rfl rfl) (zAA (v0 5) zAC rfl) rfl) rfl) rfl rfl rfl) (fun _=>rfl)))))) (zAI (zAN zCt)) zAa)) (fun _=>rfl))
  (zAE (zAw (zM9 (zLn g rfl x.b_len (own:=[("pair",4)]) (by kernel_rfl) rfl (zHn g (v0 5)) ⋯ (fun _=>(sgn (GX.blk g) 4)) (fun _=>zAc) (fun _=>(ixK (GX.blk g) (fun _ _=>rfl) (v0 4) zAD)) (fun _=>rfl)) (zGx (zDe x) g (rm hr) rfl x.m_Web_len rfl x.b_len (v0 0) rfl rfl) rfl) (zAI (zAN zCt)) zAa)
  (zAI (zAN (zE0 g (zLn g rfl x.b_len (own:=[("pair",4)]) (by kernel_rfl) rfl (zHn g (v0 5)) ⋯ (fun _=>(sgn (GX.blk g) 4)) (fun _=>zAc) (fun _=>(ixK (GX.blk g) (fun _ _=>rfl) (v0 4) zAD)) (fun _=>rfl)) (zGx (zDe x) g (rm hr) rfl x.m_Web_len rfl x.b_len (v0 1) rfl rfl) rfl))))))))))
theorem zDY(x:Fcts P K w mg):Xk P w K mg base (cl K w fr) 8 (He.fAd K ("relation_holds",none)) ["one", "other", "way", "pairs"] zAL:=(zDD x).xk
theorem zFL(x:Fcts P K w mg):Fk2 (zDX K) P w K mg base (cl K w fr) 8 (He.fAd K ("relation_holds",none)) ["one", "other", "way", "pairs"] (noxF zAL):=(zDD x).fk2
theorem zHE:FnScope ["value", "sign"] ["value"] (defScope zBK):=⟨rfl,rfl,rfl,⋯,rfl,⋯,⋯⟩
theorem zEd(x:Fcts P K w mg):Fk P w K mg base (cl K w fr) 1 (He.fAd K ("are_letters",none)) ["value"] zBS:=Fk.of x.d_are_letters zHE (fun _ _ _ _ _ _ us hl=>match us,hl with|[_],_=>rfl) fun cd A outer s H E g hr=>(zAI (zAN (zCq (zBp g (!0) rfl x.b_isinstance rfl x.b_str ⋯ ⋯ rfl (v0 0) rfl rfl rfl) (zCq (zIV op_le op_le zG3 zG3 zAD (zAJ zAK zAO rfl x.b_len ⋯ (zAA (v0 0) zAC rfl) ⋯ rfl rfl rfl) (zN2 rfl x.i_MOST_NODES rfl) (by with_unfolding_all rfl)) (zDP (zAJ (zEI g.hc) zFA rfl x.b_all ⋯ (zAA (zCF g zAX (own:=[("sign",1)]) (by kernel_rfl) rfl (zBn g (v0 0)) ⋯ (fun _=>(sgn (GX.blk g) 1)) (fun _=>zAc) (fun _=>(zRb (GX.blk g) (v0 1) (zSh rfl x.s_SIGNS rfl) rfl)) (fun _=>rfl)) zAC rfl) ⋯ rfl rfl rfl))))))
theorem zNx:FnScope ["value", "size", "node"] ["value", "size"] (defScope zDh):=⟨rfl,rfl,rfl,⋯,rfl,⋯,⋯⟩
theorem zOg(x:Fcts P K w mg):Fk P w K mg base (cl K w fr) 3 (He.fAd K ("is_arc",none)) ["value", "size"] zEN:=Fk.of x.d_is_arc zNx (fun _ _ _ _ _ _ us hl=>match us,hl with|[_,_],_=>rfl) fun cd A outer s H E g hr=>(zAI (zAN (zCq (zBp g (!0) rfl x.b_isinstance rfl x.b_tuple ⋯ ⋯ rfl (v0 0) rfl rfl rfl) (zCq (zE0 g (zAJ zAK zAO rfl x.b_len ⋯ (zAA (v0 0) zAC rfl) ⋯ rfl rfl rfl) zAD rfl) (zDP (zAJ (zEI g.hc) zFA rfl x.b_all ⋯ (zAA (zCF g zAX (own:=[("node",2)]) (by kernel_rfl) rfl (zBn g (v0 0)) ⋯ (fun _=>(sgn (GX.blk g) 2)) (fun _=>zAc) (fun _=>(zAR (zDO x) (GX.blk g) (rm hr) rfl x.g_is_within (zAA (v0 2) (zAA zAD (zAA (zGH (v0 1) zAD) zAC rfl) rfl) rfl) rfl rfl rfl)) (fun _=>rfl)) zAC rfl) ⋯ rfl rfl rfl))))))
theorem zJM:FnScope ["size", "arcs", "begin", "goals", "source", "target", "found", "known", "at", "node"] ["size", "arcs", "begin"] (defScope zB3):=⟨rfl,rfl,rfl,⋯,rfl,⋯,⋯⟩
theorem zFm(x:Fcts P K w mg):Fk P w K mg base (cl K w fr) 1 (He.fAd K ("reachable",none)) ["size", "arcs", "begin"] zBW:=Fk.of x.d_reachable zJM (fun _ _ _ _ _ _ us hl=>match us,hl with|[_,_,_],_=>rfl) fun cd A outer s H E g hr=>(zAE (zDE g zKK rfl rfl (ji rfl rfl rfl rfl) (own:=[("node",9)]) (by kernel_rfl) rfl (zA2 rfl x.b_range (v0 0) rfl) ⋯ (fun _=>(sgn (GX.blk g) 9)) (fun _=>zAc) (fun _=>(zCM zAC)) (fun _=>rfl))
  (zAE (zCA JQ g (zBn g (v0 1)) (zCl g (zAS (sgn g 4) (zAS (sgn g 5) zBT rfl) rfl) rfl rfl rfl) (zAI (zBD (zDC g JU J7 J8 Yj zA5 (ixK g (fun _ _=>rfl) (v0 3) (v0 4)) (zAA (v0 5) zAC rfl) rfl rfl rfl rfl rfl) rfl)) (fun _=>rfl))
  (zAE (zN8 g rfl rfl rfl (!0) (!0) (!0) rfl rfl rfl (zAA (zCM (zAA (v0 2) zAC rfl)) (zAA (zQQ (v0 2) zCt) (zAA zAD zAC rfl) rfl) rfl) rfl rfl)
  (zAE (zE3 JQ (zM9 (v0 8) (zAJ zAK zAO rfl x.b_len ⋯ (zAA (v0 6) zAC rfl) ⋯ rfl rfl rfl) rfl) (zAE (zCA JQ g (zBn g (ixK g (fun _ _=>rfl) (v0 3) (ixK g (fun _ _=>rfl) (v0 6) (v0 8)))) (sgn g 9) (zAI (zAw (zGt g (v0 9) (v0 7) rfl) (zAE (zIJ g (v0 7) (v0 9) zCt rfl)
  (zAI (zBD (zDC g JU J7 J8 Yj zA5 (v0 6) (zAA (v0 9) zAC rfl) rfl rfl rfl rfl rfl) rfl))) zAa)) (fun _=>rfl))
  (zAI (zQo g (i:=8) rfl (zAV rfl) zKw zKm zAD (.inl rfl)))))
  (zAI (zAN (zHY (v0 6))))))))
theorem zGm:FnScope ["size", "arcs", "back", "source", "target"] ["size", "arcs"] (defScope zBB):=⟨rfl,rfl,rfl,⋯,rfl,⋯,⋯⟩
theorem zGX(x:Fcts P K w mg):Fk P w K mg base (cl K w fr) 2 (He.fAd K ("is_connected",none)) ["size", "arcs"] zBe:=Fk.of x.d_is_connected zGm (fun _ _ _ _ _ _ us hl=>match us,hl with|[_,_],_=>rfl) fun cd A outer s H E g hr=>(zAE (zDE g zAX rfl rfl (ji rfl rfl rfl rfl) (own:=[("source",3),("target",4)]) (by kernel_rfl) rfl (zBn g (v0 1)) ⋯ (fun _=>(zCl (GX.blk g) (zAS (sgn (GX.blk g) 3) (zAS (sgn (GX.blk g) 4) zBT rfl) rfl) rfl rfl rfl)) (fun _=>zAc) (fun _=>(zAb (zAA (v0 4) (zAA (v0 3) zAC rfl) rfl))) (fun _=>rfl))
  (zAI (zAN (zCq (zE0 g (zAJ zAK zAO rfl x.b_len ⋯ (zAA (zAR (zFm x) g (rm hr) rfl x.g_reachable (zAA (v0 0) (zAA (v0 1) (zAA zAD zAC rfl) rfl) rfl) rfl rfl rfl) zAC rfl) ⋯ rfl rfl rfl) (v0 0) rfl) (zDP (zE0 g (zAJ zAK zAO rfl x.b_len ⋯ (zAA (zAR (zFm x) g (rm hr) rfl x.g_reachable (zAA (v0 0) (zAA (v0 2) (zAA zAD zAC rfl) rfl) rfl) rfl rfl rfl) zAC rfl) ⋯ rfl rfl rfl) (v0 0) rfl))))))
-- raises ['InvalidArc','InvalidLetters','NotConnected']
theorem zKH:FnScope ["self", "letters", "arcs", "lines", "index", "arc", "node"] ["self", "letters", "arcs"] (defScope zCb):=⟨rfl,rfl,rfl,⋯,rfl,⋯,⋯⟩
theorem zGq(x:Fcts P K w mg):Xk P w K mg base (cl K w fr) 4 (He.fAd K ("Web",some "__init__")) ["self", "letters", "arcs"] zB7:=Xk.of x.d_Web_init zKH (fun _ _ _ _ _ _ us hl=>match us,hl with|[_,_,_],_=>rfl) fun cd A outer s H E g tk hr=>(zAE (zAw (zCj (zBF g (zAR (zEd x) g (rm hr) rfl x.g_are_letters (zAA (v0 1) zAC rfl) rfl rfl rfl) (fun _=>rfl))) (zAI (zGJ (zDa x) g tk (rm hr) rfl x.g_InvalidLetters ⋯)) zAa)
  (zAE (zAZ g (i:=3) rfl (zAV rfl) (zCM zAC) rfl (.inl rfl))
  (zAE (zCA (passes_of rfl) g (si_enm g rfl x.b_enumerate (v0 2) rfl rfl) (zCl g (zAS (sgn g 4) (zAS (sgn g 5) zBT rfl) rfl) rfl rfl rfl) (zAE (zAw (zDS (zE1 (st_ge (v0 4) (zN2 rfl x.i_MOST_ARCS rfl) rfl) (zDN (zCj (zBF g (zAR (zOg x) g (rm hr) rfl x.g_is_arc (zAA (v0 5) (zAA (zAJ zAK zAO rfl x.b_len ⋯ (zAA (v0 1) zAC rfl) ⋯ rfl rfl rfl) zAC rfl) rfl) rfl rfl rfl) (fun _=>rfl)))))) (zAI (zFJ (zIK x) g tk (rm hr) rfl x.g_InvalidArc (v0 4) ⋯ rfl rfl)) zAa)
  (zAI (zBD (zDC g JU J7 J8 Yj zA5 (v0 3) (zAA (v0 5) zAC rfl) rfl rfl rfl rfl rfl) rfl))) (fun _=>rfl))
  (zAE (zAw (zCj (zBF g (zAR (zGX x) g (rm hr) rfl x.g_is_connected (zAA (zAJ zAK zAO rfl x.b_len ⋯ (zAA (v0 1) zAC rfl) ⋯ rfl rfl rfl) (zAA (v0 3) zAC rfl) rfl) rfl rfl rfl) (fun _=>rfl))) (zAI (zGJ (zGR x) g tk (rm hr) rfl x.g_NotConnected ⋯)) zAa)
  (zAE (zIn g (fld1 x.f_Web_signs) clsm (v0 0) (v0 1) rfl)
  (zAE (zIn g (fld1 x.f_Web_lines) clsm (v0 0) (zA7 bN zE9 rfl x.b_tuple ⋯ (zAA (v0 3) zAC rfl) ⋯ rfl rfl rfl) rfl)
  (zAE (zIn g (fld1 x.f_Web_sources) clsm (v0 0) (zCF g zAX (own:=[("node",6)]) (by kernel_rfl) rfl (zA2 rfl x.b_range (zAJ zAK zAO rfl x.b_len ⋯ (zAA (v0 1) zAC rfl) ⋯ rfl rfl rfl) rfl) ⋯ (fun _=>(sgn (GX.blk g) 6)) (fun _=>zAc) (fun _=>(zAJ zCx zCv rfl x.b_sorted ⋯ (zAA (zCF (GX.blk g) zAX (own:=[("arc",5)]) (by kernel_rfl) rfl (zBn (GX.blk g) (v0 3)) ⋯ (fun _=>(zOK (GX.blk (GX.blk g)) (i:=5) rfl (zAV rfl) (by first|exact .inl rfl|exact .inr rfl))) (fun _=>zDt (zCp (GX.blk (GX.blk g)) (ixK (GX.blk (GX.blk g)) (fun _ _=>rfl) (v0 5) zAD) (v0 6) rfl)) (fun _=>(ixK (GX.blk (GX.blk g)) (fun _ _=>rfl) (v0 5) zAD)) (fun _=>rfl)) zAC rfl) ⋯ rfl rfl rfl)) (fun _=>rfl)) rfl)
  (zAI (zIn g (fld1 x.f_Web_same) clsm (v0 0) (zAb (zAA (v0 1) (zAA (zA7 bN zE9 rfl x.b_tuple ⋯ (zAA (zAJ zCx zCv rfl x.b_sorted ⋯ (zAA (v0 3) zAC rfl) ⋯ rfl rfl rfl) zAC rfl) ⋯ rfl rfl rfl) zAC rfl) rfl)) rfl)))))))))
-- raises ['InvalidArc','InvalidLetters','NotConnected']
theorem zKD:FnScope ["_law_model_here"] ["_law_model_here"] (defScope zCX):=⟨rfl,rfl,rfl,⋯,rfl,⋯,⋯⟩
theorem zG2(x:Fcts P K w mg):Xk P w K mg base (cl K w fr) 6 (He.fAd K ("_law_made",none)) ["_law_model_here"] zB2:=Xk.of x.d_law_made zKD (fun _ _ _ _ _ _ us hl=>match us,hl with|[_],_=>rfl) fun cd A outer s H E g tk hr=>(zAI (zAN (makeXK (zGq x) g tk WI.e (rm hr) rfl rfl x.mk_Web rfl x.g_Web (zAA (ixK g (fun _ _=>rfl) (v0 0) zAD) (zAA (zA7 b7 zF7 rfl x.b_list ⋯ (zAA (ixK g (fun _ _=>rfl) (v0 0) zAD) zAC rfl) ⋯ rfl rfl rfl) zAC rfl) rfl) rfl rfl rfl)))
theorem zKC:FnScope ["_law_found", "_law_due", "_law_one_z", "_law_other_z"] ["_law_found", "_law_due"] (defScope zCU):=⟨rfl,rfl,rfl,⋯,rfl,⋯,⋯⟩
theorem zGa(x:Fcts P K w mg):∀n:Nat,Fk P w K mg base (cl K w fr) (0+n) (He.fAd K ("_law_same",none)) ["_law_found", "_law_due"] (zAY n)
 |0=>(Fk.zero (N:=[]) (fun _ _=>rfl) x.d_law_same (fun _ _ _ _ _ _ us hl=>match us,hl with|[_,_],_=>rfl)).mono (J3 _)
 |n+1=>(fun(ih:Fk P w K mg base (cl K w fr) (0+n) (He.fAd K ("_law_same",none)) ["_law_found", "_law_due"] (zAY n))=>Fk.of x.d_law_same zKC (fun _ _ _ _ _ _ us hl=>match us,hl with|[_,_],_=>rfl) fun cd A outer s H E g hr=>(zAE (zAw (zDS (zE1 (zBF g (zBp g (!0) rfl x.b_isinstance rfl x.b_list ⋯ ⋯ rfl (v0 1) rfl rfl rfl) (fun _=>rfl)) (zDN (zBF g (zBp g (!0) rfl x.b_isinstance rfl x.b_tuple ⋯ ⋯ rfl (v0 1) rfl rfl rfl) (fun _=>rfl))))) (zAE (zAw (zDS (zE1 (zFw g (zBp g (!0) rfl x.b_isinstance rfl x.b_list ⋯ ⋯ rfl (v0 0) rfl rfl rfl) (zBp g (!0) rfl x.b_isinstance rfl x.b_list ⋯ ⋯ rfl (v0 1) rfl rfl rfl) rfl) (zDN (zFw g (zBp g (!0) rfl x.b_isinstance rfl x.b_tuple ⋯ ⋯ rfl (v0 0) rfl rfl rfl) (zBp g (!0) rfl x.b_isinstance rfl x.b_tuple ⋯ ⋯ rfl (v0 1) rfl rfl rfl) rfl)))) (zAI (zAN zCt)) zAa)
  (zAI (zAN (zCq (zE0 g (zAJ zAK zAO rfl x.b_len ⋯ (zAA (v0 0) zAC rfl) ⋯ rfl rfl rfl) (zAJ zAK zAO rfl x.b_len ⋯ (zAA (v0 1) zAC rfl) ⋯ rfl rfl rfl) rfl) (zDP (zAJ (zEI g.hc) zFA rfl x.b_all ⋯ (zAA (zCF g zAX (own:=[("_law_one_z",2),("_law_other_z",3)]) (by kernel_rfl) rfl (zR0 g rfl x.b_zip (v0 0) (v0 1) rfl rfl rfl) ⋯ (fun _=>(zCl (GX.blk g) (zAS (sgn (GX.blk g) 2) (zAS (sgn (GX.blk g) 3) zBT rfl) rfl) rfl rfl rfl)) (fun _=>zAc) (fun _=>(zAR ih (GX.blk g) hr rfl x.g__law_same (zAA (v0 2) (zAA (v0 3) zAC rfl) rfl) rfl rfl rfl)) (fun _=>rfl)) zAC rfl) ⋯ rfl rfl rfl)))))) zAa)
  (zAE (zAw (zDS (zE1 (st_is (v0 1) zI9 rfl) (zDN (st_is (v0 0) zI9 rfl)))) (zAI (zAN (zCq (se_is (v0 1) zI9 rfl) (zDP (se_is (v0 0) zI9 rfl))))) zAa)
  (zAE (zAw (zDS (zE1 (zFw g (zBp g (!0) rfl x.b_isinstance rfl x.b_bool ⋯ ⋯ rfl (v0 0) rfl rfl rfl) (zBp g (!0) rfl x.b_isinstance rfl x.b_bool ⋯ ⋯ rfl (v0 1) rfl rfl rfl) rfl) (zDN (zFw g (zBp g (!0) rfl x.b_isinstance rfl x.b_int ⋯ ⋯ rfl (v0 0) rfl rfl rfl) (zBp g (!0) rfl x.b_isinstance rfl x.b_int ⋯ ⋯ rfl (v0 1) rfl rfl rfl) rfl)))) (zAI (zAN zCt)) zAa)
  (zAI (zAN (zCq (zE0 g (zBp g (!0) rfl x.b_isinstance rfl x.b_str ⋯ ⋯ rfl (v0 0) rfl rfl rfl) (zBp g (!0) rfl x.b_isinstance rfl x.b_str ⋯ ⋯ rfl (v0 1) rfl rfl rfl) rfl) (zDP (zE0 g (v0 0) (v0 1) rfl))))))))) (zGa x n)
theorem zFy:FnScope ["_law_value", "_law_least", "_law_most"] ["_law_value", "_law_least", "_law_most"] (defScope zA1):=⟨rfl,rfl,rfl,⋯,rfl,⋯,⋯⟩
theorem zDy(x:Fcts P K w mg):Fk P w K mg base (cl K w fr) 1 (He.fAd K ("_law_is_number",none)) ["_law_value", "_law_least", "_law_most"] zAU:=Fk.of x.d_law_is_number zFy (fun _ _ _ _ _ _ us hl=>match us,hl with|[_,_,_],_=>rfl) fun cd A outer s H E g hr=>(zAI (zAN (zCq (zBp g (!0) rfl x.b_isinstance rfl x.b_int ⋯ ⋯ rfl (v0 0) rfl rfl rfl) (zCq (zOb (zBp g (!0) rfl x.b_isinstance rfl x.b_bool ⋯ ⋯ rfl (v0 0) rfl rfl rfl)) (zDP (zIV op_le op_le zG3 zG3 (v0 1) (v0 0) (v0 2) (by with_unfolding_all rfl)))))))
theorem zH8:FnScope ["_law_left", "_law_right", "_law_pairs_z", "_law_k"] ["_law_left", "_law_right", "_law_pairs_z"] (defScope zBb):=⟨rfl,rfl,rfl,⋯,rfl,⋯,⋯⟩
theorem zFH(x:Fcts P K w mg):∀n:Nat,Fk P w K mg base (cl K w fr) (0+n) (He.fAd K ("_law_paired",none)) ["_law_left", "_law_right", "_law_pairs_z"] (zAt n)
 |0=>(Fk.zero (N:=[]) (fun _ _=>rfl) x.d_law_paired (fun _ _ _ _ _ _ us hl=>match us,hl with|[_,_,_],_=>rfl)).mono (J3 _)
 |n+1=>(fun(ih:Fk P w K mg base (cl K w fr) (0+n) (He.fAd K ("_law_paired",none)) ["_law_left", "_law_right", "_law_pairs_z"] (zAt n))=>Fk.of x.d_law_paired zH8 (fun _ _ _ _ _ _ us hl=>match us,hl with|[_,_,_],_=>rfl) fun cd A outer s H E g hr=>(zAE (zAw (zDS (zE1 (zCp g (v0 0) (zDH zAC) rfl) (zDN (zCp g (v0 1) (zDH zAC) rfl)))) (zAI (zAN (zE0 g (v0 0) (v0 1) rfl))) zAa)
  (zAE (zCA JQ g (zA2 rfl x.b_range (zAJ zAK zAO rfl x.b_len ⋯ (zAA (v0 1) zAC rfl) ⋯ rfl rfl rfl) rfl) (sgn g 3) (zAI (zAw (zDS (zFd (zIC g (ixK g (fun _ _=>rfl) (v0 1) (v0 3)) (zKj g (v0 1) zEi (zEr (v0 3))) rfl) (zFd (zOs g (zAb (zAA (ixK g (fun _ _=>rfl) (v0 0) zAD) (zAA (ixK g (fun _ _=>rfl) (v0 1) (v0 3)) zAC rfl) rfl)) (v0 2) rfl) (zEt (zBF g (zAR ih g hr rfl x.g__law_paired (zAA (zKj g (v0 0) (zEr zAD) zEi) (zAA (zAi g (zKj g (v0 1) zEi (zEr (v0 3))) (zKj g (v0 1) (zEr (zAi g (v0 3) zAD)) zEi)) (zAA (v0 2) zAC rfl) rfl) rfl) rfl rfl rfl) (fun _=>rfl)))))) (zAI (zAN zCt)) zAa)) (fun _=>rfl))
  (zAI (zAN zCt))))) (zFH x n)
theorem zHL:FnScope ["_law_model_here", "_law_other_z", "_law_way_z", "_law_pairs_z", "_law_good", "_law_marks_here", "_law_others", "_law_at", "_law_to", "_law_pair"] ["_law_model_here", "_law_other_z", "_law_way_z", "_law_pairs_z"] (defScope zBM):=⟨rfl,rfl,rfl,⋯,rfl,⋯,⋯⟩
theorem zHC(x:Fcts P K w mg):Fk P w K mg base (cl K w fr) 13 (He.fAd K ("_law_related",none)) ["_law_model_here", "_law_other_z", "_law_way_z", "_law_pairs_z"] zBQ:=Fk.of x.d_law_related zHL (fun _ _ _ _ _ _ us hl=>match us,hl with|[_,_,_,_],_=>rfl) fun cd A outer s H E g hr=>(zAE (zDE g zAX rfl rfl (ji rfl rfl rfl rfl) (own:=[("_law_pair",9)]) (by kernel_rfl) rfl (zBn g (v0 3)) ⋯ (fun _=>(sgn (GX.blk g) 9)) (fun _=>zAc) (fun _=>(zCq (zBp (GX.blk g) (!0) rfl x.b_isinstance rfl x.b_tuple ⋯ ⋯ rfl (v0 9) rfl rfl rfl) (zDP (zE0 (GX.blk g) (zAJ zAK zAO rfl x.b_len ⋯ (zAA (v0 9) zAC rfl) ⋯ rfl rfl rfl) zAD rfl)))) (fun _=>rfl))
  (zAE (zAw (zDS (zE1 (zCj (zBF g (zAJ (zEI g.hc) zFA rfl x.b_all ⋯ (zAA (v0 4) zAC rfl) ⋯ rfl rfl rfl) (fun _=>rfl))) (zDN (zCj (zBF g (zAJ (zEI g.hc) zFA rfl x.b_all ⋯ (zAA (zCF g zAX (own:=[("_law_pair",9)]) (by kernel_rfl) rfl (zBn g (v0 3)) ⋯ (fun _=>(sgn (GX.blk g) 9)) (fun _=>zAc) (fun _=>(zCq (zAR (zDy x) (GX.blk g) (rm hr) rfl x.g__law_is_number (zAA (ixK (GX.blk g) (fun _ _=>rfl) (v0 9) zAD) (zAA zAD (zAA (zGH (zAJ zAK zAO rfl x.b_len ⋯ (zAA (ixK (GX.blk g) (fun _ _=>rfl) (v0 0) zAD) zAC rfl) ⋯ rfl rfl rfl) zAD) zAC rfl) rfl) rfl) rfl rfl rfl) (zDP (zAR (zDy x) (GX.blk g) (rm hr) rfl x.g__law_is_number (zAA (ixK (GX.blk g) (fun _ _=>rfl) (v0 9) zAD) (zAA zAD (zAA (zGH (zAJ zAK zAO rfl x.b_len ⋯ (zAA (ixK (GX.blk g) (fun _ _=>rfl) (v0 1) zAD) zAC rfl) ⋯ rfl rfl rfl) zAD) zAC rfl) rfl) rfl) rfl rfl rfl)))) (fun _=>rfl)) zAC rfl) ⋯ rfl rfl rfl) (fun _=>rfl)))))) (zAI (zAN zCt)) zAa)
  (zAE (zAw (zDS (zE1 (zFw g (zHg g rfl x.b_sorted rfl x.b_set (zCF g zAX (own:=[("_law_pair",9)]) (by kernel_rfl) rfl (zBn g (v0 3)) ⋯ (fun _=>(sgn (GX.blk g) 9)) (fun _=>zAc) (fun _=>(ixK (GX.blk g) (fun _ _=>rfl) (v0 9) zAD)) (fun _=>rfl)) rfl) (zEW g rfl x.b_list rfl x.b_range (zAJ zAK zAO rfl x.b_len ⋯ (zAA (ixK g (fun _ _=>rfl) (v0 0) zAD) zAC rfl) ⋯ rfl rfl rfl)) rfl) (zDN (zFw g (zHg g rfl x.b_sorted rfl x.b_set (zCF g zAX (own:=[("_law_pair",9)]) (by kernel_rfl) rfl (zBn g (v0 3)) ⋯ (fun _=>(sgn (GX.blk g) 9)) (fun _=>zAc) (fun _=>(ixK (GX.blk g) (fun _ _=>rfl) (v0 9) zAD)) (fun _=>rfl)) rfl) (zEW g rfl x.b_list rfl x.b_range (zAJ zAK zAO rfl x.b_len ⋯ (zAA (ixK g (fun _ _=>rfl) (v0 1) zAD) zAC rfl) ⋯ rfl rfl rfl)) rfl)))) (zAI (zAN zCt)) zAa)
  (zAE (zJX g rfl rfl (!0) rfl rfl (zAA (zAR (zEH x) g (rm hr) rfl x.g__law_marks (zAA (v0 0) (zAA (v0 2) zAC rfl) rfl) rfl rfl rfl) (zAA (zAR (zEH x) g (rm hr) rfl x.g__law_marks (zAA (v0 1) (zAA (v0 2) zAC rfl) rfl) rfl rfl rfl) zAC rfl) rfl) rfl rfl)
  (zAE (zCA JQ g (zBn g (v0 3)) (zCl g (zAS (sgn g 7) (zAS (sgn g 8) zBT rfl) rfl) rfl rfl rfl) (zAI (zAw (zDS (zE1 (zFw g (ixK g (fun _ _=>rfl) (v0 5) (v0 7)) (ixK g (fun _ _=>rfl) (v0 6) (v0 8)) rfl) (zDN (zCj (zBF g (zAR (zFH x 12) g (rm hr) rfl x.g__law_paired (zAA (zAR (zDJ x) g (rm hr) rfl x.g__law_heard (zAA (v0 0) (zAA (v0 7) zAC rfl) rfl) rfl rfl rfl) (zAA (zAR (zDJ x) g (rm hr) rfl x.g__law_heard (zAA (v0 1) (zAA (v0 8) zAC rfl) rfl) rfl rfl rfl) (zAA (v0 3) zAC rfl) rfl) rfl) rfl rfl rfl) (fun _=>rfl)))))) (zAI (zAN zCt)) zAa)) (fun _=>rfl))
  (zAI (zAN zCt)))))))
-- raises ['InvalidArc','InvalidLetters','NotConnected']
theorem zKX:FnScope ["cls", "letters", "both", "size", "arcs", "node"] ["cls", "letters", "both"] (defScope zCa):=⟨rfl,rfl,rfl,⋯,rfl,⋯,⋯⟩
def zJy(K:PySem.W.Frag) (fd:FuncData):Prop:=(∃ds,Vals [V.bl false] ds∧L2.Binds K fd ["cls", "letters", "both"] ds)∧True
theorem zJE(x:Fcts P K w mg):XkW (zJy K) P w K mg base (cl K w fr) 6 ((He5.wf K (He.ga K "Web") "classmethod" "ring")) ["cls", "letters", "both"] zBf:=XkW.of x.d_Web_ring zKX (fun fd F=>⟨FunD.binds0 (kws:=[("both",V.bl false)]) (FunD.kwd F x.kw_Web_ring) 2 (by simp) rfl (fun D doc pm an cdv ct us ks h1 h2=>match us,ks,h1,h2 with|[_,_],[_],_,_=>⟨_,_,_,_,_,_,rfl,rfl,rfl⟩),trivial⟩) fun cd A outer s H E g tk hr=>(zAE (zAw (zCj (zBF g (zAR (zEd x) g (rm hr) rfl x.g_are_letters (zAA (v0 1) zAC rfl) rfl rfl rfl) (fun _=>rfl))) (zAI (zGJ (zDa x) g tk (rm hr) rfl x.g_InvalidLetters ⋯)) zAa)
  (zAE (zJX g rfl rfl (!0) rfl rfl (zAA (zAJ zAK zAO rfl x.b_len ⋯ (zAA (v0 1) zAC rfl) ⋯ rfl rfl rfl) (zAA (zCM zAC) zAC rfl) rfl) rfl rfl)
  (zAE (zCA (passes_of rfl) g (zA2 rfl x.b_range (v0 3) rfl) (sgn g 5) (zAE (zBD (zDC g JU J7 J8 Yj zA5 (v0 4) (zAA (zAb (zAA (v0 5) (zAA (zDM (zAi g (v0 5) zAD) (v0 3)) zAC rfl) rfl)) zAC rfl) rfl rfl rfl rfl rfl) rfl)
  (zAI (zAw (zBF g (v0 2) (fun _=>rfl)) (zAI (zBD (zDC g JU J7 J8 Yj zA5 (v0 4) (zAA (zAb (zAA (zDM (zAi g (v0 5) zAD) (v0 3)) (zAA (v0 5) zAC rfl) rfl)) zAC rfl) rfl rfl rfl rfl rfl) rfl)) zAa))) (fun _=>rfl))
  (zAI (zAN (makeLK (zGq x) g tk WI.e (rm hr) rfl rfl x.mk_Web (zAA (v0 1) (zAA (zHY (v0 4)) zAC rfl) rfl) rfl (zQg rfl) ⋯ ⋯ rfl rfl))))))
theorem zFD(x:Fcts P K w mg):Dk P w K mg base (cl K w fr) 6 ((He5.wf K (He.ga K "Web") "classmethod" "ring")) ["cls", "letters", "both"] zBf [V.bl false]:=(zJE x).dk (fun _ h=>h.1)
theorem zRA:FnScope ["_law_script", "_law_bag_here", "_law_turn", "_law_one_z", "_law_two", "_law_way_z", "_law_model_here", "_law_other_z", "_law_pairs_z", "_law_bend", "_law_late", "_law_found", "_law_pair"] ["_law_script"] (defScope zJz):=⟨rfl,rfl,rfl,⋯,rfl,⋯,⋯⟩
theorem ok_law(x:Fcts P K w mg){f:Addr}{fd:FuncData} (Fd:FunD K "law" "law" (defArgs zJz) (defBody zJz) (defScope zJz) [] [] f fd):FnOk P w K mg base CX0 14 f fd ["_law_script"] (spF K (cl K w fr) sm_law) :=
 fn_ok Fd zRA fun cd A outer s H E hr=>(have g:=zPH zRA hr;(zAE (zAZ g (i:=1) rfl (zAV rfl) (zAR (zMH x) g (rm hr) rfl x.g__law_bag (zAA (v0 0) zAC rfl) rfl rfl rfl) rfl (.inl rfl))
  (zAE (zCA JQ g (zA2 rfl x.b_range zAD rfl) (sgn g 2) (zAE (zAZ g (i:=5) rfl (zAV rfl) (zAR (zDZ x) g (rm hr) rfl x.g__law_of (zAA (v0 1) (zAA (callK0 (zJ7 x) g (rm hr) rfl x.g__law_ways rfl) zAC rfl) rfl) rfl rfl rfl) rfl (.inl rfl))
  (zAE (zAZ g (i:=6) rfl (zAV rfl) (zL1 (zCp g (v0 5) zAl rfl) (zAR (zDz x) g (rm hr) rfl x.g__law_model (zAA (v0 1) (zAA (v0 5) (zAA zAD zAC rfl) rfl) rfl) rfl rfl rfl) (zAR (zGz x) g (rm hr) rfl x.g__law_even (zAA (v0 1) (zAA (v0 5) zAC rfl) rfl) rfl rfl rfl)) rfl (.inl rfl))
  (zAE (zAZ g (i:=7) rfl (zAV rfl) (zAR (zL6 x) g (rm hr) rfl x.g__law_kin (zAA (v0 1) (zAA (v0 6) (zAA (v0 5) zAC rfl) rfl) rfl) rfl rfl rfl) rfl (.inl rfl))
  (zAE (zAw (zP9 (zAJ (zEv g.hc) zF5 rfl x.b_max ⋯ (zAA (zAR (zDV x) g (rm hr) rfl x.g__law_most_heard (zAA (v0 6) zAC rfl) rfl rfl rfl) (zAA (zAR (zDV x) g (rm hr) rfl x.g__law_most_heard (zAA (v0 7) zAC rfl) rfl rfl rfl) zAC rfl) rfl) ⋯ rfl rfl rfl) zAD rfl) (zAI zSG) zAa)
  (zAE (zAZ g (i:=8) rfl (zAV rfl) (zAR (zGI x) g (rm hr) rfl x.g__law_pairs_of (zAA (v0 6) (zAA (v0 7) (zAA (v0 5) zAC rfl) rfl) rfl) rfl rfl rfl) rfl (.inl rfl))
  (zAI (zCA JQ g (zA2 rfl x.b_range zAD rfl) (sgn g 9) (zAE (zAZ g (i:=10) rfl (zAV rfl) (zA7 b7 zMX rfl x.b_list ⋯ (zAA (v0 8) zAC rfl) ⋯ rfl rfl rfl) rfl (.inl rfl))
  (zAE (zAw (zCp g (zAR (zAP x) g (rm hr) rfl x.g__law_pull (zAA (v0 1) (zAA zAD zAC rfl) rfl) rfl rfl rfl) zAD rfl) (zAI (zDE g zKK rfl rfl (ji rfl rfl rfl rfl) (own:=[("_law_pair",12)]) (by kernel_rfl) rfl (zBn g (v0 10)) ⋯ (fun _=>(sgn (GX.blk g) 12)) (fun _=>zDt (zP9 (zAR (zAP x) (GX.blk g) (rm hr) rfl x.g__law_pull (zAA (v0 1) (zAA zAD zAC rfl) rfl) rfl rfl rfl) zAD rfl)) (fun _=>(v0 12)) (fun _=>rfl))) zAa)
  (zAE (zAw (zCp g (zAR (zAP x) g (rm hr) rfl x.g__law_pull (zAA (v0 1) (zAA zAD zAC rfl) rfl) rfl rfl rfl) zAD rfl) (zAI (zAZ g (i:=10) rfl (zAV rfl) (zAR (zHF x) g (rm hr) rfl x.g__law_mixed (zAA (v0 1) (zAA (zAi g (v0 10) (zKj g (v0 10) zEi (zEr zAD))) zAC rfl) rfl) rfl rfl rfl) rfl (.inl rfl))) zAa)
  (zAE (zAw (zCp g (zAR (zAP x) g (rm hr) rfl x.g__law_pull (zAA (v0 1) (zAA zAD zAC rfl) rfl) rfl rfl rfl) zAD rfl) (zAI (zBD (zDC g JU J7 J8 Yj zA5 (v0 10) (zAA (zAR (zDZ x) g (rm hr) rfl x.g__law_of (zAA (v0 1) (zAA (zDH (zAA (zAb (zAA zAD (zAA zAD zAC rfl) rfl)) (zAA (zAb (zAA zAD (zAA (zAJ zAK zAO rfl x.b_len ⋯ (zAA (ixK g (fun _ _=>rfl) (v0 7) zAD) zAC rfl) ⋯ rfl rfl rfl) zAC rfl) rfl)) (zAA (zAb (zAA (zLm zAD) (zAA zAD zAC rfl) rfl)) (zAA (zDH (zAA zAD (zAA zAD zAC rfl) rfl)) (zAA zI9 (zAA (zAb (zAA zAD zAC rfl)) (zAA (zAb (zAA zCt (zAA zAD zAC rfl) rfl)) (zAA (zAb (zAA zAD (zAA (zGH (zAJ zAK zAO rfl x.b_len ⋯ (zAA (ixK g (fun _ _=>rfl) (v0 7) zAD) zAC rfl) ⋯ rfl rfl rfl) zAD) zAC rfl) rfl)) zAC rfl) rfl) rfl) rfl) rfl) rfl) rfl) rfl)) zAC rfl) rfl) rfl rfl rfl) zAC rfl) rfl rfl rfl rfl rfl) rfl)) zAa)
  (zAE (zAZ g (i:=11) rfl (zAV rfl) (zD7 (zDY x) g tk0 wi0 (rm hr) rfl x.g_relation_holds (zAA (zD7 (zG2 x) g tk0 wi0 (rm hr) rfl x.g__law_made (zAA (v0 6) zAC rfl) rfl rfl rfl) (zAA (zD7 (zG2 x) g tk0 wi0 (rm hr) rfl x.g__law_made (zAA (v0 7) zAC rfl) rfl rfl rfl) (zAA (v0 5) (zAA (callWK (zDZ x) g (rm hr) rfl x.g__law_of (zAA (v0 1) (zAA (zCM (zAA (v0 10) (zAA (zA7 bN zE9 rfl x.b_tuple ⋯ (zAA (v0 10) zAC rfl) ⋯ rfl rfl rfl) zAC rfl) rfl)) zAC rfl) rfl) rfl rfl rfl) zAC rfl) rfl) rfl) rfl) rfl rfl rfl) rfl (.inl rfl))
  (zAI (zAw (zCj (zBF g (zAR (zGa x 12) g (rm hr) rfl x.g__law_same (zAA (v0 11) (zAA (zAR (zHC x) g (rm hr) rfl x.g__law_related (zAA (v0 6) (zAA (v0 7) (zAA (v0 5) (zAA (v0 10) zAC rfl) rfl) rfl) rfl) rfl rfl rfl) zAC rfl) rfl) rfl rfl rfl) (fun _=>rfl))) (zAI (zAN zCt)) zAa))))))) (fun _=>rfl)))))))) (fun _=>rfl))
  (zAE (zJX g rfl rfl (!0) rfl rfl (zAA (zM7 (zFD x) (fun _=>(.cons (.bl false) .nil)) g tk0 wi0 (rm hr) rfl x.p_Web_ring.rd x.p_Web_ring.cm rfl x.g_Web rfl (zAA zAl zAC rfl) rfl rfl) (zAA (zM7 (zFD x) (fun _=>(.cons (.bl false) .nil)) g tk0 wi0 (rm hr) rfl x.p_Web_ring.rd x.p_Web_ring.cm rfl x.g_Web rfl (zAA zAl zAC rfl) rfl rfl) zAC rfl) rfl) rfl rfl)
  (zAI (zAN (zCq (by exact zRM (zFL x) (fun _ h=>h.1) g (rm hr) rfl x.g_relation_holds (zIj (zDH (zAA (zAb (zAA zAD (zAA zAD zAC rfl) rfl)) (zAA (zAb (zAA zAD (zAA zAD zAC rfl) rfl)) (zAA (zAb (zAA zAD (zAA zAD zAC rfl) rfl)) (zAA (zAb (zAA zAD (zAA zAD zAC rfl) rfl)) zAC rfl) rfl) rfl) rfl)) (zIj zAl (zIj (v0 3) (zIj (v0 4) sk_nil)))) rfl rfl (by rfl) (by rfl) (by rfl)) (zDP (zOb (zD7 (zDY x) g tk0 wi0 (rm hr) rfl x.g_relation_holds (zAA (v0 3) (zAA (v0 4) (zAA zAl (zAA (zDH (zAA (zAb (zAA zAD (zAA zAD zAC rfl) rfl)) (zAA (zAb (zAA zAD (zAA zAD zAC rfl) rfl)) zAC rfl) rfl)) zAC rfl) rfl) rfl) rfl) rfl rfl rfl))))))))))
end
theorem tabW{w:World}{h:Heap}{K:PySem.W.Frag} (c:He.SaysX fa fn ts tf ex w h K) (i:Nat){t:He.Tab} (e:ts[i]?=some t):He.dicW K (t.1 K)=some (He.keysIn w.params t.2):=by
 have z:(ts.map fun t=>He.dicW K (t.1 K))=ts.map fun t=>some (He.keysIn w.params t.2):=congrArg (fun z:He.AlT=>z.2) c.t
 have z2:=congrArg (fun l=>l[i]?) z
 simp only[Jd,e]at z2
 first|exact Jk z2|exact z2|simpa using z2
theorem exV{w:World}{h:Heap}{K:PySem.W.Frag} (c:He.SaysX fa fn ts tf ex w h K) (i:Nat){b:Bool} (e:(exl K)[i]?=some b):b=true:=Jp.mp c.more b (Ji e)
theorem fx{P:Program}{w:World}{h:Heap}{K:PySem.W.Frag}{mg:Str→Option Value} (pf:FileOf P "/claim/cut.py") (X:K.In h) (G:h.Ns mainGlobals mg) (c:SaysE fa fn ts tf ex es w h K):Fcts P K w mg where
 g__law_bag:=JG X G (c.x.t.d.fact 0 rfl)
 g__law_pull:=JG X G (c.x.t.d.fact 1 rfl)
 g__law_of:=JG X G (c.x.t.d.fact 2 rfl)
 g__law_ways:=JG X G (c.x.t.d.fact 3 rfl)
 g__law_mixed:=JG X G (c.x.t.d.fact 4 rfl)
 g__law_model:=JG X G (c.x.t.d.fact 5 rfl)
 g__law_ring:=JG X G (c.x.t.d.fact 6 rfl)
 g__law_lifted:=JG X G (c.x.t.d.fact 7 rfl)
 g__law_goals:=JG X G (c.x.t.d.fact 8 rfl)
 g__law_connected:=JG X G (c.x.t.d.fact 9 rfl)
 g__law_even:=JG X G (c.x.t.d.fact 10 rfl)
 g__law_moved:=JG X G (c.x.t.d.fact 11 rfl)
 g__law_drawn:=JG X G (c.x.t.d.fact 12 rfl)
 g__law_kin:=JG X G (c.x.t.d.fact 13 rfl)
 g__law_heard:=JG X G (c.x.t.d.fact 14 rfl)
 g__law_most_heard:=JG X G (c.x.t.d.fact 15 rfl)
 g__law_ranks:=JG X G (c.x.t.d.fact 16 rfl)
 g__law_outs:=JG X G (c.x.t.d.fact 17 rfl)
 g__law_marks:=JG X G (c.x.t.d.fact 18 rfl)
 g__law_next:=JG X G (c.x.t.d.fact 19 rfl)
 g__law_rounds:=JG X G (c.x.t.d.fact 20 rfl)
 g__law_pairs_of:=JG X G (c.x.t.d.fact 21 rfl)
 g_need_way:=JG X G (c.x.t.d.fact 22 rfl)
 g_need_of_way:=JG X G (c.x.t.d.fact 23 rfl)
 g_is_number:=JG X G (c.x.t.d.fact 24 rfl)
 g_is_within:=JG X G (c.x.t.d.fact 25 rfl)
 g_knows_out_numbers:=JG X G (c.x.t.d.fact 26 rfl)
 g_mark_of:=JG X G (c.x.t.d.fact 27 rfl)
 g_marks_of:=JG X G (c.x.t.d.fact 28 rfl)
 g_exchanged:=JG X G (c.x.t.d.fact 29 rfl)
 g_found_partner:=JG X G (c.x.t.d.fact 30 rfl)
 g_are_paired:=JG X G (c.x.t.d.fact 31 rfl)
 g_relation_holds:=JG X G (c.x.t.d.fact 32 rfl)
 g_are_letters:=JG X G (c.x.t.d.fact 33 rfl)
 g_is_arc:=JG X G (c.x.t.d.fact 34 rfl)
 g_reachable:=JG X G (c.x.t.d.fact 35 rfl)
 g_is_connected:=JG X G (c.x.t.d.fact 36 rfl)
 g__law_made:=JG X G (c.x.t.d.fact 37 rfl)
 g__law_same:=JG X G (c.x.t.d.fact 38 rfl)
 g__law_is_number:=JG X G (c.x.t.d.fact 39 rfl)
 g__law_paired:=JG X G (c.x.t.d.fact 40 rfl)
 g__law_related:=JG X G (c.x.t.d.fact 41 rfl)
 g_law:=JG X G (c.x.t.d.fact 42 rfl)
 g_Web:=JG X G (c.x.t.d.fact 43 rfl)
 g_InvalidWay:=JG X G (c.x.t.d.fact 44 rfl)
 g_NotOfWay:=JG X G (c.x.t.d.fact 45 rfl)
 g_InvalidNode:=JG X G (c.x.t.d.fact 46 rfl)
 g_InvalidLetters:=JG X G (c.x.t.d.fact 47 rfl)
 g_InvalidArc:=JG X G (c.x.t.d.fact 48 rfl)
 g_NotConnected:=JG X G (c.x.t.d.fact 49 rfl)
 b_all:=VL X G (c.x.t.d.fact 50 rfl)
 b_bool:=VL X G (c.x.t.d.fact 51 rfl)
 b_enumerate:=VL X G (c.x.t.d.fact 52 rfl)
 b_int:=VL X G (c.x.t.d.fact 53 rfl)
 b_isinstance:=VL X G (c.x.t.d.fact 54 rfl)
 b_len:=VL X G (c.x.t.d.fact 55 rfl)
 b_list:=VL X G (c.x.t.d.fact 56 rfl)
 b_max:=VL X G (c.x.t.d.fact 57 rfl)
 b_range:=VL X G (c.x.t.d.fact 58 rfl)
 b_set:=VL X G (c.x.t.d.fact 59 rfl)
 b_sorted:=VL X G (c.x.t.d.fact 60 rfl)
 b_str:=VL X G (c.x.t.d.fact 61 rfl)
 b_super:=VL X G (c.x.t.d.fact 62 rfl)
 b_tuple:=VL X G (c.x.t.d.fact 63 rfl)
 b_zip:=VL X G (c.x.t.d.fact 64 rfl)
 i_MOST_ARCS:=He.int_ok X G (c.x.t.d.fact 65 rfl)
 i_MOST_NODES:=He.int_ok X G (c.x.t.d.fact 66 rfl)
 s_SIGNS:=He.str_ok X G (c.x.t.d.fact 67 rfl)
 c_Web:=jo (c.x.t.d.fact 68 rfl)
 mk_Web:=He.mkr_ok (c.x.t.d.fact 69 rfl)
 m_Web_len:=jd (c.x.t.d.fact 70 rfl)
 m_Web_heard:=jd (c.x.t.d.fact 71 rfl)
 m_Web_is_of:=jd (c.x.t.d.fact 72 rfl)
 m_Web_need_node:=jd (c.x.t.d.fact 73 rfl)
 m_Web_out_number:=jd (c.x.t.d.fact 74 rfl)
 f_Web_lines:=fun{fr}=>⟨⟨_,_,rfl,⋯,rfl,jo (c.x.t.d.fact 68 rfl),jq (c.x.t.d.fact 75 rfl)⟩⟩
 f_Web_same:=fun{fr}=>⟨⟨_,_,rfl,⋯,rfl,jo (c.x.t.d.fact 68 rfl),jq (c.x.t.d.fact 76 rfl)⟩⟩
 f_Web_signs:=fun{fr}=>⟨⟨_,_,rfl,⋯,rfl,jo (c.x.t.d.fact 68 rfl),jq (c.x.t.d.fact 77 rfl)⟩⟩
 f_Web_sources:=fun{fr}=>⟨⟨_,_,rfl,⋯,rfl,jo (c.x.t.d.fact 68 rfl),jq (c.x.t.d.fact 78 rfl)⟩⟩
 k_WAYS:=gtB_ok X G (exV c.x 0 rfl)
 e_InvalidWay:=exV c.x 1 rfl
 de_InvalidWay:=(c.def_ 0 rfl).1
 dd_InvalidWay:=(c.def_ 0 rfl).2
 e_NotOfWay:=exV c.x 2 rfl
 de_NotOfWay:=(c.def_ 1 rfl).1
 dd_NotOfWay:=(c.def_ 1 rfl).2
 e_InvalidNode:=exV c.x 3 rfl
 de_InvalidNode:=(c.def_ 2 rfl).1
 dd_InvalidNode:=(c.def_ 2 rfl).2
 e_InvalidLetters:=exV c.x 4 rfl
 de_InvalidLetters:=(c.def_ 3 rfl).1
 dd_InvalidLetters:=(c.def_ 3 rfl).2
 e_InvalidArc:=exV c.x 5 rfl
 de_InvalidArc:=(c.def_ 4 rfl).1
 dd_InvalidArc:=(c.def_ 4 rfl).2
 e_NotConnected:=exV c.x 6 rfl
 de_NotConnected:=(c.def_ 5 rfl).1
 dd_NotConnected:=(c.def_ 5 rfl).2
 p_Web_letters:=zPc (exV c.x 7 rfl)
 d_Web_letters:=DefE.funD (c.def_ 6 rfl).1 (c.def_ 6 rfl).2 rfl
 p_Web_ring:=cmB_ok (exV c.x 8 rfl)
 d_Web_ring:=DefE.funD (c.def_ 7 rfl).1 (c.def_ 7 rfl).2 rfl
 kw_Web_ring:=exV c.x 9 rfl
 pf:=pf
 d_law_bag:=c.x.t.d.def_ 0 rfl
 d_law_pull:=c.x.t.d.def_ 1 rfl
 d_law_of:=c.x.t.d.def_ 2 rfl
 d_law_ways:=c.x.t.d.def_ 3 rfl
 d_law_mixed:=c.x.t.d.def_ 4 rfl
 d_law_model:=c.x.t.d.def_ 5 rfl
 d_law_ring:=c.x.t.d.def_ 6 rfl
 d_law_lifted:=c.x.t.d.def_ 7 rfl
 d_law_goals:=c.x.t.d.def_ 8 rfl
 d_law_connected:=c.x.t.d.def_ 9 rfl
 d_law_even:=c.x.t.d.def_ 10 rfl
 d_law_moved:=c.x.t.d.def_ 11 rfl
 d_law_drawn:=c.x.t.d.def_ 12 rfl
 d_law_kin:=c.x.t.d.def_ 13 rfl
 d_law_heard:=c.x.t.d.def_ 14 rfl
 d_law_most_heard:=c.x.t.d.def_ 15 rfl
 d_law_ranks:=c.x.t.d.def_ 16 rfl
 d_law_outs:=c.x.t.d.def_ 17 rfl
 d_law_marks:=c.x.t.d.def_ 18 rfl
 d_law_next:=c.x.t.d.def_ 19 rfl
 d_law_rounds:=c.x.t.d.def_ 20 rfl
 d_law_pairs_of:=c.x.t.d.def_ 21 rfl
 d_need_way:=c.x.t.d.def_ 22 rfl
 d_Web_is_of:=c.x.t.d.def_ 23 rfl
 d_need_of_way:=c.x.t.d.def_ 24 rfl
 d_is_number:=c.x.t.d.def_ 25 rfl
 d_is_within:=c.x.t.d.def_ 26 rfl
 d_Web_len:=c.x.t.d.def_ 27 rfl
 d_Web_need_node:=c.x.t.d.def_ 28 rfl
 d_knows_out_numbers:=c.x.t.d.def_ 29 rfl
 d_Web_out_number:=c.x.t.d.def_ 30 rfl
 d_mark_of:=c.x.t.d.def_ 31 rfl
 d_marks_of:=c.x.t.d.def_ 32 rfl
 d_exchanged:=c.x.t.d.def_ 33 rfl
 d_found_partner:=c.x.t.d.def_ 34 rfl
 d_are_paired:=c.x.t.d.def_ 35 rfl
 d_Web_heard:=c.x.t.d.def_ 36 rfl
 d_relation_holds:=c.x.t.d.def_ 37 rfl
 d_are_letters:=c.x.t.d.def_ 38 rfl
 d_is_arc:=c.x.t.d.def_ 39 rfl
 d_reachable:=c.x.t.d.def_ 40 rfl
 d_is_connected:=c.x.t.d.def_ 41 rfl
 d_Web_init:=c.x.t.d.def_ 42 rfl
 d_law_made:=c.x.t.d.def_ 43 rfl
 d_law_same:=c.x.t.d.def_ 44 rfl
 d_law_is_number:=c.x.t.d.def_ 45 rfl
 d_law_paired:=c.x.t.d.def_ 46 rfl
 d_law_related:=c.x.t.d.def_ 47 rfl
theorem facts{P:Program}{w:World}{K:PySem.W.Frag}{h:Heap}{mg:Str→Option Value}{f:Addr} (pf:FileOf P "/claim/cut.py") (X:K.In h) (G:h.Ns mainGlobals mg) (hfa:mg ("law" : Str)=some (.ref f)) (c:SaysE fa fn ts tf ex es w h K) :
  ∃fd:FuncData,(∀(s:Shared) (v:Value),BindsTo s fd ⟨[v],[]⟩ [("_law_script",v)])∧∀base:Heap,K.In base→base.Ns mainGlobals mg→FnOk P w K mg base CX0 14 f fd ["_law_script"] (spF K (cl K w []) sm_law):=by
 obtain⟨fd,F⟩:=c.x.t.d.def_ 48 rfl;have e:=hfa.symm.trans (JG X G (c.x.t.d.fact 42 rfl));cases e;have b:=FunD.bindsA (ps:=["_law_script"]) F fun _ _ _ _ _ _ us hl=>match us,hl with|[_],_=>rfl
 exact⟨fd,fun s v=>b s [v] rfl,fun base _ _=>ok_law (fx pf X G c) F⟩
theorem spF_law{K:PySem.W.Frag}{w:World}{H:Hp}{Q:VK}{E:XK}{a:Addr}{ns:List Int} (hS:SqL K H a (ns.map V.int)) (hp:∃st,sm_law [.p (.scr ns)] []=.ok (.p (.bl true)) st) (hQ:∀H',Q (.bl true) H'):spF K (cl K w []) sm_law [.ref a] H Q E:=by
 obtain⟨st,hp⟩:=hp;refine⟨[],strip H,[],[.p (.scr ns)],⟨rfl,.nil,fun i c a h=>by simp at h,fun i c a h=>by simp at h,fun a o e=>(zCf e).1,fun a u e _=>(zCf e).1,fun i a _ h=>by simp at h,JH _,fun a o e=>.inl e,fun a u e=>(zCf e).2,fun a u e=>(zCf e).2,fun q hq=>absurd (show q∈([]:List (Addr×Str))from hq) (by simp)⟩,.cons (.scr (zO3 hS)) .nil,?_⟩
 rw[hp];intro ρ' G' H' b p s R u;cases u;exact hQ H'
end
end K18
open PySem.W PySem.Calls
theorem PySem.Challenge.cw_sharesay_k18_relations_judged_holds : PySem.Challenge.rw_sharesay_k18_relations_judged.Holds := by
 refine K18.early ?hc
 case hc =>
  refine L2.walk_ofE (l:=PySem.Challenge.rw_sharesay_k18_relations_judged) (n:=63) (k:=14) (x := "_law_script") (CX:=L2.CX0) rfl (!0) (by kernel_rfl) ⟨rfl,!0,!0⟩ ?F (fun _ _ _ _ z=>z)
  intro w mg fa h Y G hmg0;obtain⟨K,KX,c⟩:=Y
  have hmg:mg ("law" : PySem.Str)=some (.ref fa):=by
   have e:(HandSHeadRun.topDef (OpenLaw.row PySem.Challenge.rw_sharesay_k18_relations_judged).prog 60).name=("law" : PySem.Str):=by kernel_rfl
   rw[←e];exact hmg0
  obtain⟨fd,hb,hF⟩:=K18.facts (P:=(PySem.Challenge.rw_sharesay_k18_relations_judged).prog) (w:=w) K18.fileOf KX G hmg c;exact⟨K,fd,Y.spF K (K18.cl K w []) K18.sm_law,KX,hb,fun H a ns hl _ hS=>K18.spF_law hS (K18.plain ns ∅) fun _=>rfl,hF⟩
