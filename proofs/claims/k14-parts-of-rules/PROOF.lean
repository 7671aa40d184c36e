import PyProof.Rows.All
import Wide.All
import OpenK.AllK
import Wide.FinOn
import KE.KStateDown
import Lean
import PySem.Syntax
import HandS.ForMost
import HandS.Deep
import HandS.Wide
import HandS.TupAny
import HandS.TupLe
import HandS.IsInst
import HandS.RaiseMore
import HandS.Zip
import HandS.Rev
import HandS.Conv
import HandS.TupMul
import HandS.Replace
import HandS.ReplaceList
import HandS.Style
import HandS.Iter
import HandS.NoneIn
import HandS.Lambda
import KE.DataEq
import KE.DataCmp
import KE.DataAny
import KE.DataIsa
import KE.SortData
import KE.SortLaws
import PyProof.ReprRoads
import PyProof.SeqIndex
import PyProof.ToksMono
import KE.KDictKeyed
import PyProof.Rows.IntBool
import HandS.Dict
import PyProof.WalkLemmas
import PyProof.TupleOfSeq
import HandS.StrMore
import KE.DataFind
import HandS.Sort
import KE.GoesEnum
import KE.GoesMore
import KE.KDictZip
import PyProof.ListNew
import HandS.ListItems
import HandS.SetTxt0
import HandS.Set
import HandS.SetFor
import HandS.Strs
import KE.GoesSet
import KE.KDictDisplayH
import HandS.More
import KE.KDictItemsList
import KE.KDictCopyH
import HandS.TupSets
import KE.GoesOver
import PyProof.DictCompW
import PyProof.DictMoreH
import HandS.Defaults
import KE.DataMinMax
import PyProof.Rows.CallKwBuiltin
import HandS.Call
import HandS.ExcInit
import HandS.ExcIs
import HandS.ExcField
import HandS.TryMany
import KE.KExcIs
import HandS.Spec
import HandS.Nested
import KE.DataMinKey
import KE.SortKeyHeap
import KE.KSortKey
import HandS.GenList
import HandS.Ends
import HandS.Head0
import HandS.Head1
import HandS.Head2
import HandS.HeadEnd
import HandS.HeadHook1
import HandS.HeadHook2
import HandS.HeadHook3
import KE.KStrBytes
import PySem.Challenge.RW_sortfollow_k14_parts_of_rules
set_option Elab.async false
set_option linter.all false
set_option maxRecDepth 100000
set_option maxHeartbeats 1000000
open List renaming getElem?_eq_getElem→Ab,mem_map→Ac,mem_cons→Ad,mem_of_getElem? → Ae,getElem?_map→Af,getElem?_eq_some_iff→Ag,all_eq_true→Ai,size_toArray→Ao,mem_singleton→Aq,length_nil→Az,getElem?_set→Be,cons_append→Bh,mem_append→Bl,getElem?_eq_none→Bq,length_take→Br,getElem?_reverse→Bt,append_nil→Bu,replicate→Bw,map→Bx,getElem?_mapIdx→Ce
open List renaming eq_nil_of_length_eq_zero→Ci,append_assoc→Cm,mem_append_right→Cu,length_mergeSort→Cv,map_nil→Cy,mem_cons_self→Dd,length→Dh,map_map→Dk,getElem?_append_left→Dr,drop_eq_getElem_cons→Ds,range→Dz,length_zipWith→Ea,all_cons→Eb,length_set→Ec,zip_cons_cons→Ed,mem_of_mem_take→Ef,mem_cons_of_mem→Eh,any_eq_true→Ei,filterMap_eq_map'→Em,nil_append→Ep
open List renaming length_range→Fg,mergeSort_perm→Fo,length_reverse→Fp,length_drop→Fv,getElem?_toArray→Fy,map_append→Gg,find?_cons→Gh,flatMap_cons→Gi,drop_length→Gn,zipWith→Gr,length_mapIdx→Gu,getElem?_append_right→Hh,toList_toArray→Ho,filterMap_cons→Hq,nodup_cons→Hw,length_zipIdx→Ik,reverse_cons→Iw,nodup_nil→Iz,getElem?_zipWith→Ji,cons_lt_cons_iff→Jj
open List renaming reverse_nil→Jp,mem_flatten→Jq,mem_flatMap→Jr,any_cons→Jv,mem_append_left→J5,mem_mapIdx→Kh,dropWhile_cons→Kl,all_nil→Ko,ext_getElem? → Lr,map_take→Mw,pairwise_mergeSort→Nh,isEmpty_iff→Nk,getElem_mem→Np,take_of_length_le→Ou,of_mem_zip→Pa,mem_filter→Pb,length_map→Pg,length_singleton→Ph,mem_range→Qp,getElem?_set_ne→Qq
open List renaming filterMap→Qs,drop_succ_cons→Ri,zip_nil_right→Tj,pairwise_cons→Tn,mem_mergeSort→Tp,map_mergeSort→Tq,find?_eq_none→Tr,filterMap_map→Tt,pairwise_map→Uo,take_length→Wi,lookup_cons→Wj,isEmpty_nil→Wk,getElem_map→Wl,map_id→Wn,getD_eq_getElem?_getD→Zw,drop_zero→Zx,getElem?_zip_eq_some→Zy,eq_of_mem_replicate→Ab2,getElem?_replicate→Ab4,eraseIdx_cons_succ→Ab5
open List renaming eq_replicate_iff→Afg
open Nat renaming le_refl→Aa,mul_add→Ak,zero_le→Am,lt_of_lt_of_le→Ax,succ_mul→Ay,mul_le_mul_right→Ba,le_of_ble_eq_true→Bc,add_sub_cancel_left→Bm,le_trans→Bo,mul_le_mul_left→Cd,ne_of_lt→Cp,zero_mul→Dc,sub_succ_lt_self→Ek,le_add_right→El,lt_succ_of_lt→En,pow_le_pow_right→Fe,zero_add→Fq,pow_succ→Ft,mul_assoc→G6,ne_of_gt→Jb
open Nat renaming mul_comm→Jc,ble→Jz,le_of_eq→Ky,mul_le_mul→Ld,le_succ→Mv,add_sub_cancel'→Rk,lt_irrefl→Th,lt_of_le_of_lt→Ui,le_of_not_lt→Wm
open Option renaming some→Aj,map_eq_some_iff→Fl,isNone_iff_eq_none→La
open Bool renaming not_eq_true'→Bf,false_ne_true→Bv,not_true→Cq,or_eq_true→Es,false_and→Fd,not_false→Fx,and_true→Gx,true_and→Hu,false_or→Hv,beq_eq_decide_eq→Jk,and_false→Qt,and_eq_true_iff→Qu,or_eq_true_iff→Rj
open Int renaming emod_nonneg→Ew,emod_lt_of_pos→Ey,eq_ofNat_of_zero_le→Gp,toNat_natCast→Mx,natAbs_mul→Zz
theorem Yza{α:Type _}{a:α}{l:List α}:(a::l)[0]? = some a:=List.getElem?_cons_zero
theorem Yzb{α:Type _}{a:α}{l:List α}{i:Nat}:(a::l)[i+1]? = l[i]? := List.getElem?_cons_succ
theorem Yzc{α:Type _}{x:α}{xs:List α}{d:α}:(x::xs).getD 0 d=x:=List.getD_cons_zero
theorem Yzd{α:Type _}{x:α}{xs:List α}{n:Nat}{d:α}:(x::xs).getD (n+1) d=xs.getD n d:=List.getD_cons_succ
theorem Yze{α:Type _}{x a:α}{xs:List α}:(x::xs).set 0 a=a::xs:=List.set_cons_zero
theorem Yzf{α:Type _}{x a:α}{xs:List α}{n:Nat}:(x::xs).set (n+1) a=x::xs.set n a:=List.set_cons_succ
theorem Yzg:(false=true)=False:=Bool.false_eq_true
theorem Yzh(a b:Bool):((a && b)=true)=(a=true∧b=true):=Bool.and_eq_true a b
theorem Yzi{α β:Type _}{as:List α}(f:α→β):(as.map f).length=as.length:=Pg f
theorem Yzj{α:Type _}{as bs:List α}:(as++bs).length=as.length+bs.length:=List.length_append
theorem Yzk{α:Type _}{a:α}{as:List α}:(a::as).length=as.length+1:=List.length_cons
theorem Yzm{α:Type _}{a:α}:¬a∈([]:List α):=List.not_mem_nil
theorem Yzs{α β:Type _}{f:α→β}{a:α}{l:List α}:(a::l).map f=f a::l.map f:=List.map_cons
namespace SF
open PySem
inductive Dat where
 | non|bl (b:Bool)|int (i:Int)|str (s:List Nat)
 | tup (l:List Dat)|lst (l:List Dat)|dic (l:List (Dat×Dat))
 | obj (c:Nat) (fs:List Dat)|pot|scr (l:List Int)|kd (l:List (Dat×Dat))
 deriving Inhabited
inductive O2|add|sub|mul|fdiv|mod|pow deriving DecidableEq
inductive C2|eq|ne|lt|le|gt|ge|inn|nin|neE|neT|eqT|neL deriving DecidableEq
inductive Ty|int|bool|str|tuple|list|dict deriving DecidableEq
inductive B1|len|abs|all|any|max|min|sorted|repr|tuple|list|int|str|bool|dict|reprS|sortE deriving DecidableEq
inductive M1|index|get|join|replace|upper|lstrip|count|split|partition|startswith deriving DecidableEq
inductive P where|v (i:Nat)|t (l:List P)
def Yq(c:Nat):Option Nat→Bool
 | none=>true
 | some c'=>c' == c || c' == 0
inductive PKd where|here|ix (n:Nat)
inductive Src where|p (i:Nat)|k (i:Nat)|dn|di (i:Int)|db (b:Bool) deriving DecidableEq
inductive E where
 | var (i:Nat)
 | obs (i:Nat)
 | glob (i:Nat)
 | non
 | bl (b:Bool)
 | int (i:Int)
 | str (s:List Nat)
 | op2 (o:O2) (a b:E)
 | neg (a:E)
 | cmp (o:C2) (a b:E)
 | chain (o o':C2) (a b c:E)
 | isN (a:E)
 | notN (a:E)
 | and (a b:E)
 | or (a b:E)
 | not (a:E)
 | ite (c a b:E)
 | tup (l:List E)
 | lst (l:List E)
 | idx (a i:E)
 | slc (a lo hi:E)
 | bi (b:B1) (l:List E)
 | isi (a:E) (t:Ty)
 | me (m:M1) (o:E) (l:List E)
 | call (f:Nat) (l kl:List E) (sh:List Src)
 | comp (own:List Nat) (p:P) (it c e:E)
 | zip (a b:E)
 | enum (a:E)
 | range (a:E)
 | sset (a:E)
 | scomp (own:List Nat) (p:P) (it c e:E)
 | ssetN (a:E)
 | scompN (own:List Nat) (p:P) (it c e:E)
 | comp2 (own:List Nat) (p:P) (it c:E) (p1:P) (it1 c1 e:E)
 | isB (ng:Bool) (a:E) (b:Bool)
 | new (c:Nat) (l:List E)
 | fld (c i:Nat) (a:E)
 | meth (c f:Nat) (a:E) (l:List E)
inductive XT where|set (i:Nat)|unp (p:P)|ret|exp
inductive HA where|setv (i:Nat)|ret (e:E)|retf (fn:List Nat)
structure HK where
 cs:List Nat
 bd:Option Nat
 act:HA
inductive S where
 | dead
 | ins (i:Nat) (ix e:E)
 | set (i:Nat) (e:E)
 | own (i:Nat) (e:E)
 | unp (p:P) (e:E)
 | par (os:List Bool) (is:List Nat) (es:List E)
 | frz (i:Nat)
 | app (i:Nat) (e:E)
 | ext (i:Nat) (e:E)
 | pop (i:Nat) (e:E)
 | sto (i:Nat) (ix e:E)
 | exp (e:E)
 | ret (e:E)
 | retN
 | pass
 | ite (c:E) (a b:List S)
 | for (p:P) (it:E) (b:List S)
 | whl (c:E) (b:List S)
structure FDef where
 np:Nat
 nn:Nat
 body:List S
end SF
namespace SF
open PySem PySem.Spec PyProof.Rows L2
class TN where
 tabs:List (Addr×Str)
end SF
namespace SF
open PySem PySem.Spec PyProof.Rows L2
variable[TN]
def nmD(x:Str):Dat:=.str x.cps.toList
end SF
namespace SF
open PySem PySem.Spec PyProof.Rows L2
variable[TN]
def nsX:Option Str→List Dat
 | some fn=>[.str fn.cps.toList]
 | none=>[]
end SF
namespace SF
open PySem PySem.Spec PyProof.Rows L2
variable[TN]
structure DI where
 name:Str
 body:List Stmt
 scope:Scope
 N:List Str
 ps:List Str
 d:FDef
end SF
namespace SF
open PySem PySem.Spec PyProof.Rows L2
def Nu(ds:List Dat)(Q:Dat→Prop):Prop:=
 match ds with
 | [.pot,.int b]=>(0 < b∧b.natAbs < 2 ^ 8000)∧∀r:Int,0≤r→r < b→Q (.int r)
 | _=>False
def Aas(ds:List Dat)(Q:Dat→Prop):Prop:=
 match ds with
 | [.scr l,.int k]=>(0≤k∧k≤1000)∧Q .pot
 | _=>False
end SF
namespace SF
open PySem PySem.Spec PyProof.Rows L2
def Vf(s f x:Str):Stmt→Bool
 | .Assign [.Attribute (.Name s1 _) f1 _] (.Name x1 _) _=>s1 == s && (f1 == f && x1 == x)
 | _=>false
structure XI where
 fld:Str
 qual:Str
 params:Arguments
 body:List Stmt
 scope:Scope
 ps:List Str
structure XJ where
 name:Str
 ini:Option XI:=none
def XI.defD(x:Str)(c:XI):He.DefD:=⟨(x,some "__init__"), "__init__", c.qual,c.params,c.body,c.scope,[],[]⟩
def Aqu(K:PySem.W.Frag)(C:Addr):Bool:=match K.lookup C with
 | some ⟨.type t,_,.cls cd,sl⟩=>decide (t = "type") && (match cd.mro,sl.toList with
  | .ref C'::bm,[_,_,_,_,some (.builtin n),_]=>C' == C && (n == "ValueError.__new__" && (!cd.hasDel && (cd.hasDict && PySem.HandSPX.refsVE bm)))
  | _,_=>false)
 | _=>false
def ecB(K:PySem.W.Frag)(C:Addr):Bool:=decide (PySem.W.findIn K (.ref C) "__class__" = some (some (.builtin "object.__class__"))) && (decide (PySem.W.specialIn K (.builtin "object.__class__") "__get__" = some (some (.builtin "getset_descriptor.__get__"))) && (decide (PySem.W.takesIn K (.builtin "object.__class__")=some true) && decide (PySem.W.mroIn K C (.type "object")=some true)))
def Wz(K:PySem.W.Frag)(x:XJ):Bool:=(match x.ini with
 | some c=>Aqu K (He.ga K x.name) && (decide (PySem.W.findIn K (.ref (He.ga K x.name)) "__setattr__" = some (some (.builtin "object.__setattr__"))) && (decide (PySem.W.typeIn K (.ref (He.ga K x.name))=some (.type "type")) && (PySem.W.keepIn K (.ref (He.ga K x.name)) && (xfB K (He.ga K x.name) && (ecB K (He.ga K x.name) &&
   ((PySem.W.clsIn K (He.ga K x.name)).isSome && (decide (PySem.W.findIn K (.ref (He.ga K x.name)) c.fld=some none) && (decide (PySem.W.findIn K (.ref (He.ga K x.name)) "__init__" = some (some (.ref (He.ma K (He.ga K x.name) "__init__")))) && decide (PySem.W.typeIn K (.ref (He.ma K (He.ga K x.name) "__init__"))=some (.type "function"))))))))))
 | none=>true) && decide (PySem.W.kitOne K (.ref (He.ga K x.name)) (.type "ValueError")=some true)
def Z4(K:PySem.W.Frag)(xs:List XJ):Bool:=(xs.mapIdx λc x=>(xs.mapIdx λc' y=>decide (PySem.W.exmOne K (.ref (He.ga K x.name)) (.ref (He.ga K y.name))=some (Yq c (some c'))) && decide (PySem.W.kitOne K (.ref (He.ga K x.name)) (.ref (He.ga K y.name))=some (Yq c (some c')))).all id).all id
end SF
namespace SF
open PySem PySem.Spec PyProof.Rows L2
def Afw:Dat→Option V
 | .int i=>some (.int i)
 | .str s=>if s.length≤sizeLine then some (.str ⟨s.toArray⟩)else none
 | _=>none
def Xb:List Dat→Option (List V)
 | []=>some []
 | d::r=>match Afw d,Xb r with
  | some v,some vs=>some (v::vs)
  | _,_=>none
def Sv(K:PySem.W.Frag)(c:Str×Dat):Bool:=
 match c.2 with
 | .tup l=>(match PySem.W.nsIn K mainGlobals c.1 with
  | some (some (.ref a))=>(match K.lookup a with
   | some ⟨.type t,none,.seq its _,_⟩=>decide (t = "tuple") && (decide (its.size≤sizeLine) && (match Xb l with|some vs=>He.relAll vs its.toList|none=>false))
   | _=>false)
  | _=>false)
 | d=>(match Afw d with
  | some v=>(match PySem.W.nsIn K mainGlobals c.1 with
   | some (some u)=>He.relB v u
   | _=>false)
  | none=>false)
def Ahy(K:PySem.W.Frag):Bool:=
 match K.lookup sysModules with
 | some o=>(match o.cls with | .type t=>decide (t = "dict")|_=>false)
 | none=>false
open He in
def Aqw(cs:List (Str×Dat))(fa:List Fa)(fn:List DefD)(K:PySem.W.Frag):AlD:=((fa.all λf=>f.ok K) && (cs.all (Sv K) && (Ahy K && fn.all λd=>d.ok K)),fn.map λd=>fnW K d.at_)
abbrev Qn:Type:=Str×List (Str×Int)
def Hz(K:PySem.W.Frag)(x:Str):Addr×Addr:=(PySem.W.tabIn K x).getD (0,0)
def Aem(K:PySem.W.Frag)(ls:List Str):Bool:=(ls.all λx=>(PySem.W.tabIn K x).isSome) && decide (ls.map λx=>(Hz K x).2).Nodup
def Aok(p:Addr×Obj):Bool:=match p.2.data with | .fields vs=>!vs.isEmpty|_=>true
def frT(g:Addr→Option Obj)(as:List Addr):PySem.W.Frag:=(He.frG g as).filter Aok
theorem Vu{α:Type}:∀{l:List (Addr×α)} {a:Addr} {o:α},l.lookup a=some o→(a,o)∈l
 | [],_,_,h=>nomatch h
 | (b,p)::l,a,o,h=>by
  rw[Wj]at h
  cases e:a == b with
  | true=>
   rw[e]at h;have ho:p=o:=Aj.inj h;rw[eq_of_beq e,ho];exact Dd
  | false=>
   rw[e]at h;exact Eh _ (Vu h)
theorem Aq8{h:Heap}{as:List Addr}:(frT h.get? as).In h:=λa o e=>by
 have m:=(Pb.mp (Vu e)).1;unfold He.frG at m;obtain⟨b,hb,z⟩:=List.mem_filterMap.mp m;obtain⟨o',e1,e2⟩:=Fl.mp z
 cases e2
 exact e1
def Akp(K:PySem.W.Frag):Prop:=∀(a:Addr) (o:Obj),K.lookup a=some o→o.data ≠ .fields #[]
theorem Aq7{g:Addr→Option Obj}{as:List Addr}:Akp (frT g as):=λa o e z=>by
 have m:=(Pb.mp (Vu e)).2;unfold Aok at m;rw[show(a,o).2.data = .fields #[]from z]at m;simp at m
open He in
abbrev AlW:Type:=(AlD×Bool)×List (Option (List (Option (Str×Int))))
open He in
def Aqv(cs:List (Str×Dat))(ts:List Qn)(xs:List XJ)(ls:List Str)(fa:List Fa)(fn:List DefD)(K:PySem.W.Frag):AlW:=((Aqw cs fa fn K,(ts.all λt=>valsB K (ga K t.1) (t.2.map λp=>(p.1,.int p.2))) && (xs.all (Wz K) && (Z4 K xs && Aem K ls))),ts.map λt=>dicW K (ga K t.1))
open He in
def Ahn(ts:List Qn)(fn:List DefD)(w:World):AlW:=((valD fn,true),ts.map λt=>some (keysIn w.params (t.2.map (·.1))))
open He in
def SaysW(cs:List (Str×Dat))(ts:List Qn)(xs:List XJ)(ls:List Str)(fa:List Fa)(fn:List DefD)(w:World)(K:PySem.W.Frag):Prop:=Aqv cs ts xs ls fa fn K=Ahn ts fn w
def Ash(g:Addr→Option Obj)(a:Addr):List Addr:=match g a with
 | some o=>He.refsD o
 | none=>[]
def Arv{β:Type}(k:Nat→List Addr→β):List Addr→Nat→List Addr→β
 | [],m,acc=>k m acc
 | a::r,m,acc=>HandSHeadRun.frNat a λa=>match Nat.beq (Nat.land (Nat.shiftRight m a) 1) 1 with
  | true=>Arv k r m acc
  | false=>HandSHeadRun.frNat (Nat.lor m (Nat.shiftLeft 1 a)) λm=>Arv k r m (a::acc)
def asM(g:Addr→Option Obj):Nat→List Addr→Nat→List Addr→List Addr
 | 0,fr,_,all=>fr++all
 | n+1,fr,m,all=>Arv (λm new=>asM g n new m (fr++all)) (fr.flatMap (Ash g)) m []
def asF(g:Addr→Option Obj)(n:Nat):List Addr:=asM g n [mainGlobals] (Nat.shiftLeft 1 mainGlobals) []
open He in
def T9(n:Nat)(cs:List (Str×Dat))(ts:List Qn)(xs:List XJ)(ls:List Str)(fa:List Fa)(fn:List DefD)(g:Addr→Option Obj):AlW:=Aqv cs ts xs ls fa fn (frT g (sysModules::asF g n))
open He in
def Aes(n:Nat)(cs:List (Str×Dat))(ts:List Qn)(xs:List XJ)(ls:List Str)(fa:List Fa)(fn:List DefD):PySem.W.Hook where
 α:=AlW
 obs:=λs=>T9 n cs ts xs ls fa fn s.heap.get?
 val:=λw=>Ahn ts fn w
 says:=λw h=>∃K:PySem.W.Frag,K.In h∧Akp K∧SaysW cs ts xs ls fa fn w K
 of:=λ_ _ e=>⟨_,Aq8,Aq7,e⟩
 keeps:=λ_ _ _ ⟨K,hK,c⟩ k=>⟨K,PySem.W.Frag.In.keeps hK k,c⟩
open He in
theorem Ajd{n:Nat}{cs:List (Str×Dat)}{ts:List Qn}{xs:List XJ}{ls:List Str}{fa:List Fa}{fn:List DefD}{g:Addr→Option Obj}{s:Shared}(h:∀a,g a=s.heap.get? a):T9 n cs ts xs ls fa fn g=(Aes n cs ts xs ls fa fn).obs s:=by
 have e:g=s.heap.get? := funext h;rw[e]<;>rfl
def Ary{β:Type}(r:PySem.W.OpenRow)(M:Nat)(w:World)(f:PySem.W.SharedT→β)(v:β):Prop:=∀os:OsState,(HandSHeadRun.endF (HandSHeadRun.stepQ (HandSHeadRun.denQ HandSHeadRun.tabQ) r.prog w) M r.prog w os).map f=some v
def As0(r:PySem.W.OpenRow)(q:Program)(M:Nat)(loose:List PySem.Str)(w:World):Prop:=Ary r M w (λs=>(HandSHeadRun.looksF r.prog (PySem.W.boot_heap w.params) s.abs,HandSHeadRun.seenQ q loose (PySem.importedModules r.prog.main.body) (λs=>PySem.W.xlAt q [] s && PySem.W.recOk r.toRowW.records s) s.abs)) (true,PySem.W.openGood q loose)
def As2(n:Nat)(fa:List He.Fa)(r:PySem.W.OpenRow)(M:Nat)(w:World):Prop:=Ary r M w (λs=>fa.all λf=>f.ok (frT (HandSHeadRun.getT s) (sysModules::asF (HandSHeadRun.getT s) n))) true
def As1(n:Nat)(cs:List (Str×Dat))(ts:List Qn)(xs:List XJ)(ls:List Str)(fn:List He.DefD)(r:PySem.W.OpenRow)(M:Nat)(w:World):Prop:=Ary r M w (λs=>T9 n cs ts xs ls [] fn (HandSHeadRun.getT s)) (Ahn ts fn w)
theorem Af2{n:Nat}{cs:List (Str×Dat)}{ts:List Qn}{xs:List XJ}{ls:List Str}{fa:List He.Fa}{fn:List He.DefD}{r:PySem.W.OpenRow}{q:Program}{M:Nat}{loose:List PySem.Str}{w:World}(h1:As0 r q M loose w)(h2:As2 n fa r M w)(h3:As1 n cs ts xs ls fn r M w):HandSHeadRun.RunEq r q (Aes n cs ts xs ls fa fn) (λs=>T9 n cs ts xs ls fa fn (HandSHeadRun.getT s)) M loose w:=by
 intro os;obtain⟨s,e,e1⟩:=Fl.mp (h1 os);have e2:=h2 os;have e3:=h3 os;rw[e]at e2 e3 ⊢;have f2:(fa.all λf=>f.ok (frT (HandSHeadRun.getT s) (sysModules::asF (HandSHeadRun.getT s) n)))=true:=Aj.inj e2;have f3:T9 n cs ts xs ls [] fn (HandSHeadRun.getT s)=Ahn ts fn w:=Aj.inj e3;have f1:T9 n cs ts xs ls fa fn (HandSHeadRun.getT s)=Ahn ts fn w:=by
  rw[← f3];unfold T9 Aqv Aqw;rw[f2];rfl
 have g1:=congrArg Prod.fst e1;have g2:=congrArg Prod.snd e1;exact congrArg some (Prod.ext g1 (Prod.ext g2 f1))
structure DJ where
 di:DI
 params:Arguments
 dfl:List He.Dv:=[]
 kwd:List (Str×He.Dv):=[]
 shp:List (Nat×List Str×List Src):=[]
 mth:Option (Nat×Str×Str):=none
 own:Option Nat:=none
 xm:Bool:=false
 xb:Bool:=false
 tol:Bool:=false
 lam:Bool:=false
 ini:Bool:=false
 rs:Bool:=false
def DJ.nm(j:DJ):Str:=match j.mth with|none=>j.di.name|some q=>q.2.2
def DJ.at_(j:DJ):Str×Option Str:=match j.mth with|none=>(j.di.name,none)|some q=>(q.2.1,some q.2.2)
def DJ.defD(j:DJ):He.DefD:=⟨j.at_,j.nm,j.di.name,j.params,j.di.body,j.di.scope,j.dfl,j.kwd⟩
structure CJ where
 name:Str
 qual:Str
 fields:List Str
 params:Arguments
 body:List Stmt
 scope:Scope
 ps:List Str
 iv:Bool:=false
def CJ.defD(c:CJ):He.DefD:=⟨(c.name,some "__init__"), "__init__", c.qual,c.params,c.body,c.scope,[],[]⟩
def Jd(ip it:Nat):Nat→Option (List Dat→(Dat→Prop)→Prop):=λf=>if f=ip then some Aas else if f=it then some Nu else none
structure MJ where
 js:List DJ
 lj:DJ
 cj:List CJ:=[]
 ts:List Qn:=[]
 xs:List XJ:=[]
 cs:List (Str×Dat)
 fre:List Str
 fv:List Nat:=[]
def gOf(m:MJ)(adr:Nat→Nat):Nat→Option Dat:=λi=>if 1000000≤i then(if m.fv.contains (i - 1000000)=true then some (.obj (adr (i - 1000000)) [])else none)else if 600000≤i then(m.xs[i - 600000]?).map (λx=>.obj (adr i) (nsX (x.ini.map (·.fld))))else if 500000≤i then(m.cj[i - 500000]?).map (λc=>.obj (adr i) (c.fields.map nmD))else(m.cs[i]?).map (·.2)
def DJ.fa(j:DJ):He.Fa:=match j.mth with|none=>.glo j.di.name|some q=>.meth q.2.1 q.2.2
def CJ.fa(c:CJ):List He.Fa:=.glo c.name :: .cls c.name :: .mkr c.name::c.fields.map λx=>.noat c.name x
def Ss(m:MJ):List He.Fa:=.glo m.lj.di.name::m.js.map DJ.fa++m.fre.map .free++(m.cj.flatMap CJ.fa++m.ts.map (λt=>.glo t.1)++m.xs.map λx=>.glo x.name)
def XJ.defs(x:XJ):List He.DefD:=match x.ini with|some c=>[c.defD x.name]|none=>[]
def fnOf(m:MJ):List He.DefD:=m.lj.defD::m.js.map DJ.defD++m.cj.map CJ.defD++m.xs.flatMap XJ.defs
def Nb(m:MJ):List Str:=(m.lj::m.js).flatMap λj=>if j.lam=true then [j.di.name]else []
end SF
namespace SF
theorem Abx{a b:Bool}(h:a=true)(k:b=true):(a && b)=true:=Qu.mpr ⟨h,k⟩
def Mq(g_FALLING:Nat):FDef:=⟨1,1,[
  .ret (.cmp .eq (.slc (.var 0) .non (.int 1)) (.glob g_FALLING))]⟩
def Ot(f_is_falling:Nat):FDef:=⟨1,1,[
  .ret (.ite (.call f_is_falling [.var 0] [] [.p 0]) (.slc (.var 0) (.int 1) .non) (.var 0))]⟩
def Gk(f_column_of:Nat):FDef:=⟨2,3,[
  .ite (.not (.isi (.var 1) .tuple)) [.ret (.bl false)] [],
  .ret (.bi .all [.comp [2] (.v 2) (.var 1) (.bl true) (.and (.isi (.var 2) .str) (.cmp .inn (.call f_column_of [.var 2] [] [.p 0]) (.var 0)))])]⟩
def Tf(f_is_list_of_any_length g_MOST_ITEMS:Nat):FDef:=⟨2,2,[
  .ret (.and (.call f_is_list_of_any_length [.var 0,.var 1] [] [.p 0,.p 1]) (.cmp .le (.bi .len [.var 1]) (.glob g_MOST_ITEMS)))]⟩
def Ms(f_column_of:Nat):FDef:=⟨1,2,[
  .ret (.bi .tuple [.scomp [1] (.v 1) (.var 0) (.bl true) (.call f_column_of [.var 1] [] [.p 0])])]⟩
def Qo(f_column_of f_columns_in g_FIXED g_TOGETHER:Nat):FDef:=⟨1,10,[
  .unp (.t [.v 1,.v 2]) (.var 0),
  .own 4 (.comp [3] (.v 3) (.var 2) (.bl true) (.tup [.glob g_FIXED,.call f_columns_in [.var 1] [] [.p 0],.call f_column_of [.var 3] [] [.p 0]])),
  .for (.t [.v 5,.v 6]) (.enum (.var 1)) [.for (.t [.v 7,.v 8]) (.enum (.var 2)) [.app 4 (.tup [.glob g_TOGETHER,.call f_columns_in [.op2 .add (.slc (.var 1) .non (.var 5)) (.slc (.var 2) .non (.var 7))] [] [.p 0],.var 6,.var 8])]],
  .ret (.bi .tuple [.scompN [9] (.v 9) (.obs 4) (.bl true) (.var 9)])]⟩
def Mr:FDef:=⟨2,4,[
  .ite (.or (.not (.isi (.var 1) .tuple)) (.not (.bi .all [.comp [2] (.v 2) (.var 1) (.bl true) (.and (.isi (.var 2) .str) (.cmp .inn (.var 2) (.var 0)))]))) [.ret (.bl false)] [],
  .ret (.bi .all [.comp [2,3] (.t [.v 2,.v 3]) (.zip (.var 1) (.slc (.var 1) (.int 1) .non)) (.bl true) (.cmp .lt (.var 2) (.var 3))])]⟩
def Td(f_is_context f_is_list g_FIXED g_FIXED_SIZE g_TOGETHER g_TOGETHER_SIZE:Nat):FDef:=⟨2,2,[
  .ite (.or (.not (.isi (.var 1) .tuple)) (.or (.cmp .lt (.bi .len [.var 1]) (.glob g_FIXED_SIZE)) (.not (.isi (.idx (.var 1) (.int 0)) .str)))) [.ret (.bl false)] [],
  .ite (.not (.call f_is_context [.var 0,.idx (.var 1) (.int 1)] [] [.p 0,.p 1])) [.ret (.bl false)] [],
  .ite (.cmp .eq (.idx (.var 1) (.int 0)) (.glob g_FIXED)) [.ret (.and (.cmp .eq (.bi .len [.var 1]) (.glob g_FIXED_SIZE)) (.and (.isi (.idx (.var 1) (.int 2)) .str) (.cmp .inn (.idx (.var 1) (.int 2)) (.var 0))))] [],
  .ret (.and (.cmp .eq (.idx (.var 1) (.int 0)) (.glob g_TOGETHER)) (.and (.cmp .eq (.bi .len [.var 1]) (.glob g_TOGETHER_SIZE)) (.call f_is_list [.var 0,.slc (.var 1) (.int 2) .non] [] [.p 0,.p 1])))]⟩
def Tg(f__law_take:Nat):FDef:=⟨2,2,[
  .ret (.idx (.var 1) (.call f__law_take [.var 0,.bi .len [.var 1]] [] [.p 0,.p 1]))]⟩
def Mu(f__law_of f__law_take:Nat):FDef:=⟨2,10,[
  .set 2 (.str [97,98,99,100,101,102,103,104,105,106,107,108,109,110,111,112,113,114,115,116,117,118,119,120,121,122]),
  .par [false,false] [3,4] [.call f__law_take [.var 0,.int 26] [] [.p 0,.p 1],.call f__law_of [.var 0,.lst [.int 1,.int 3,.int 5,.int 7,.int 9,.int 11]] [] [.p 0,.p 1]],
  .set 6 (.me .join (.str []) [.comp [5] (.v 5) (.range (.call f__law_of [.var 0,.lst [.int 0,.int 0,.int 1,.int 3,.int 7]] [] [.p 0,.p 1])) (.bl true) (.call f__law_of [.var 0,.var 2] [] [.p 0,.p 1])]),
  .set 7 (.call f__law_take [.var 0,.op2 .add (.bi .len [.var 6]) (.int 1)] [] [.p 0,.p 1]),
  .own 8 (.lst []),
  .for (.v 5) (.range (.var 1)) [.set 9 (.idx (.var 2) (.op2 .mod (.op2 .add (.var 3) (.op2 .mul (.var 4) (.var 5))) (.int 26))),.app 8 (.op2 .add (.op2 .add (.slc (.var 6) .non (.var 7)) (.var 9)) (.slc (.var 6) (.var 7) .non))],
  .ret (.bi .tuple [.bi .sorted [.obs 8]])]⟩
def K9(f__law_of f__law_take:Nat):FDef:=⟨3,5,[
  .own 3 (.lst []),
  .for (.v 4) (.range (.call f__law_take [.var 0,.op2 .add (.var 2) (.int 1)] [] [.p 0,.p 1])) [.app 3 (.op2 .add (.call f__law_of [.var 0,.lst [.str [],.str [],.str [45]]] [] [.p 0,.p 1]) (.call f__law_of [.var 0,.var 1] [] [.p 0,.p 1]))],
  .ret (.bi .tuple [.obs 3])]⟩
def S9:FDef:=⟨1,2,[
  .ret (.bi .tuple [.sset (.comp [1] (.v 1) (.var 0) (.bl true) (.me .replace (.var 1) [.str [45],.str []]))])]⟩
def Zv(f__law_plain:Nat):FDef:=⟨1,9,[
  .unp (.t [.v 1,.v 2]) (.var 0),
  .own 4 (.comp [3] (.v 3) (.var 2) (.bl true) (.tup [.str [102,105,120,101,100],.call f__law_plain [.var 1] [] [.p 0],.me .replace (.var 3) [.str [45],.str []]])),
  .for (.t [.v 5,.v 6]) (.enum (.var 1)) [.for (.t [.v 7,.v 8]) (.enum (.var 2)) [.app 4 (.tup [.str [116,111,103,101,116,104,101,114],.call f__law_plain [.op2 .add (.slc (.var 1) .non (.var 5)) (.slc (.var 2) .non (.var 7))] [] [.p 0],.var 6,.var 8])]],
  .ret (.bi .tuple [.ssetN (.obs 4)])]⟩
def S8(f__law_due f__law_listed f__law_names f__law_of f__law_take f_is_part f_parts_of:Nat):FDef:=⟨1,7,[
  .set 1 (.call f__law_names [.var 0,.op2 .add (.int 1) (.call f__law_take [.var 0,.int 8] [] [.p 0,.p 1])] [] [.p 0,.p 1]),
  .for (.v 2) (.range (.int 8)) [.set 3 (.tup [.call f__law_listed [.var 0,.var 1,.int 8] [] [.p 0,.p 1,.p 2],.call f__law_listed [.var 0,.var 1,.int 8] [] [.p 0,.p 1,.p 2]]),.set 3 (.call f__law_of [.var 0,.lst [.var 3,.var 3,.tup [.tup [],.idx (.var 3) (.int 1)],.tup [.idx (.var 3) (.int 0),.tup []],.tup [.idx (.var 3) (.int 0),.idx (.var 3) (.int 0)],.tup [.slc (.idx (.var 3) (.int 0)) .non (.int 2),.slc (.idx (.var 3) (.int 1)) .non (.int 2)]]] [] [.p 0,.p 1]),.par [false,false] [4,5] [.call f__law_due [.var 3] [] [.p 0],.bi .repr [.var 3]],.ite (.or (.cmp .ne (.bi .repr [.lst [.call f_parts_of [.var 3] [] [.p 0],.call f_parts_of [] [.var 3] [.k 0]]]) (.bi .repr [.lst [.var 4,.var 4]])) (.cmp .ne (.bi .repr [.var 3]) (.var 5))) [.ret (.bl false)] [],.ite (.not (.bi .all [.comp [6] (.v 6) (.var 4) (.bl true) (.isB false (.call f_is_part [.var 1,.var 6] [] [.p 0,.p 1]) true)])) [.ret (.bl false)] []],
  .ret (.bl true)]⟩
end SF

set_option maxHeartbeats 0
namespace SF.K14
open PySem PySem.Spec PyProof.Rows L2 SF
def top(i:Nat):Stmt:=PySem.Challenge.pw_sortfollow_k14_parts_of_rules.main.body.getD i (.Pass ⟨0,0,0,0⟩)
def Xd0:FDef:=Mq 1
abbrev mkJ(i:Nat)(nm:Str)(N ps:List Str)(d:FDef)(shp:List (Nat×List Str×List Src)):DJ:={ di:={ name:=nm,body:=defBody (top i),scope:=defScope (top i),N:=N,ps:=ps,d:=d },params:=defArgs (top i),dfl:=[],kwd:=[],shp:=shp }
def Xj1:DJ:=mkJ 3 "is_falling" ["item"] ["item"] Xd0 [(1,[],[.p 0])]
def Xd2:FDef:=Ot 0
def Xj3:DJ:=mkJ 4 "column_of" ["item"] ["item"] Xd2 [(1,[],[.p 0])]
def Xd4:FDef:=Gk 1
def Xj5:DJ:=mkJ 5 "is_list_of_any_length" ["columns", "value", "item"] ["columns", "value"] Xd4 [(2,[],[.p 0,.p 1])]
def Xd6:FDef:=Tf 2 0
def Xj7:DJ:=mkJ 6 "is_list" ["columns", "value"] ["columns", "value"] Xd6 [(2,[],[.p 0,.p 1])]
def Xd8:FDef:=Ms 1
def Xj9:DJ:=mkJ 7 "columns_in" ["items", "item"] ["items"] Xd8 [(1,[],[.p 0])]
def Atz:FDef:=Qo 1 4 2 3
def Xj11:DJ:=mkJ 13 "parts_of" ["rule", "first", "second", "item", "found", "i", "one", "j", "other", "part"] ["rule"] Atz [(1,[],[.p 0]),(0,["rule"],[.k 0])]
def Aty:FDef:=Mr
def Xj13:DJ:=mkJ 14 "is_context" ["columns", "value", "one", "later"] ["columns", "value"] Aty [(2,[],[.p 0,.p 1])]
def Atx:FDef:=Td 6 3 2 4 3 5
def Xj15:DJ:=mkJ 15 "is_part" ["columns", "value"] ["columns", "value"] Atx [(2,[],[.p 0,.p 1])]
def Atw:FDef:=⟨2,4,[
  .set 2 (.ite (.cmp .lt (.var 1) (.bi .len [.var 0])) (.idx (.var 0) (.var 1)) (.op2 .add (.op2 .mul (.int 11) (.var 1)) (.int 4))),
  .set 3 (.op2 .mul (.op2 .mod (.bi .abs [.var 2]) (.op2 .pow (.op2 .pow (.int 10) (.int 60)) (.int 5))) (.bi .int [.cmp .ge (.bi .abs [.var 2]) (.op2 .pow (.int 10) (.int 18))])),
  .ret (.lst [.var 3,.op2 .mod (.op2 .mul (.op2 .add (.op2 .add (.op2 .mod (.var 2) (.int 2305843009213693951)) (.op2 .mul (.op2 .mul (.int 7919) (.var 1)) (.var 1))) (.int 53)) (.int 48271)) (.int 2305843009213693921),.int 0])]⟩
def Xj17:DJ:=mkJ 17 "_law_pot" ["_law_script", "_law_k", "_law_cell", "_law_own"] ["_law_script", "_law_k"] Atw [(2,[],[.p 0,.p 1])]
def Atv:FDef:=⟨2,5,[
  .ite (.cmp .gt (.idx (.obs 0) (.int 0)) (.int 0)) [.set 2 (.op2 .mod (.idx (.obs 0) (.int 0)) (.var 1)),.sto 0 (.int 0) (.op2 .fdiv (.idx (.obs 0) (.int 0)) (.var 1)),.ret (.var 2)] [],
  .sto 0 (.int 2) (.op2 .add (.idx (.obs 0) (.int 2)) (.int 1)),
  .set 3 (.idx (.lst [.int 2147483629,.int 2147483587,.int 2147483579,.int 2147483563,.int 2147483549,.int 2147483543,.int 2147483497]) (.op2 .mod (.idx (.obs 0) (.int 2)) (.int 7))),
  .set 4 (.op2 .mod (.op2 .pow (.op2 .add (.op2 .add (.idx (.obs 0) (.int 1)) (.op2 .mul (.op2 .mul (.int 65537) (.idx (.obs 0) (.int 2))) (.idx (.obs 0) (.int 2)))) (.int 19)) (.int 3)) (.var 3)),
  .set 4 (.op2 .mod (.op2 .mul (.var 4) (.op2 .add (.op2 .mod (.var 4) (.int 10007)) (.op2 .mul (.int 97) (.idx (.obs 0) (.int 2))))) (.int 2305843009213693907)),
  .ret (.op2 .mod (.op2 .fdiv (.var 4) (.int 97)) (.var 1))]⟩
def Xj19:DJ:=mkJ 18 "_law_take" ["_law_pot_here", "_law_bound", "_law_digit", "_law_prime", "_law_drawn"] ["_law_pot_here", "_law_bound"] Atv [(2,[],[.p 0,.p 1])]
def Atu:FDef:=Tg 9
def Xj21:DJ:=mkJ 19 "_law_of" ["_law_pot_here", "_law_some"] ["_law_pot_here", "_law_some"] Atu [(2,[],[.p 0,.p 1])]
def Ats:FDef:=Mu 10 9
def Xj23:DJ:=mkJ 20 "_law_names" ["_law_pot_here", "_law_many", "_law_letters", "_law_from_at", "_law_leap", "_law_turn", "_law_stem", "_law_cut", "_law_found", "_law_letter"] ["_law_pot_here", "_law_many"] Ats [(2,[],[.p 0,.p 1])]
def Atr:FDef:=K9 10 9
def Xj25:DJ:=mkJ 21 "_law_listed" ["_law_pot_here", "_law_names_here", "_law_most", "_law_found", "_law_turn"] ["_law_pot_here", "_law_names_here", "_law_most"] Atr [(3,[],[.p 0,.p 1,.p 2])]
def Atq:FDef:=S9
def Xj27:DJ:=mkJ 22 "_law_plain" ["_law_some", "_law_item"] ["_law_some"] Atq [(1,[],[.p 0])]
def Atp:FDef:=Zv 13
def Xj29:DJ:=mkJ 23 "_law_due" ["_law_pair", "_law_first", "_law_second", "_law_item", "_law_found", "_law_i", "_law_mine", "_law_j", "_law_its"] ["_law_pair"] Atp [(1,[],[.p 0])]
def Ato:FDef:=S8 14 12 11 10 9 7 5
def Xj31:DJ:=mkJ 24 "_law_right" ["_law_pot_here", "_law_names_here", "_law_turn", "_law_pair", "_law_due_here", "_law_seen", "_law_part"] ["_law_pot_here"] Ato [(1,[],[.p 0])]
def Atn:FDef:=⟨1,2,[
  .ret (.bi .all [.comp [1] (.v 1) (.range (.bi .max [.int 1,.bi .min [.int 3,.bi .len [.var 0]]])) (.bl true) (.call 15 [.call 8 [.var 0,.var 1] [] [.p 0,.p 1]] [] [.p 0])])]⟩
def Xj33:DJ:=mkJ 25 "law" ["_law_script", "_law_k"] ["_law_script"] Atn []
def js:List DJ:=[Xj1,Xj3,Xj5,Xj7,Xj9,Xj11,Xj13,Xj15,Xj17,Xj19,Xj21,Xj23,Xj25,Xj27,Xj29,Xj31]
def cj:List CJ:=[]
def cs:List (Str×Dat):=[("MOST_ITEMS", .int 8),("FALLING", .str [45]),("FIXED", .str [102,105,120,101,100]),("TOGETHER", .str [116,111,103,101,116,104,101,114]),("FIXED_SIZE", .int 3),("TOGETHER_SIZE", .int 4)]
def ts:List Qn:=[]
def fv:List Nat:=[]
def fre:List Str:=["isinstance", "tuple", "all", "str", "len", "sorted", "enumerate", "zip", "abs", "int", "range", "set", "repr", "max", "min"]
def xs:List XJ:=[]
def mj:MJ:={ js:=js,lj:=Xj33,cj:=cj,ts:=ts,xs:=xs,cs:=cs,fre:=fre,fv:=fv }
abbrev R:PySem.W.OpenRow:=PySem.W.OpenLaw.row PySem.Challenge.rw_sortfollow_k14_parts_of_rules
abbrev hk:PySem.W.Hook:=Aes 4 mj.cs mj.ts mj.xs (Nb mj) (Ss mj) (fnOf mj)
def ob(s:PySem.W.SharedT):AlW:=T9 4 mj.cs mj.ts mj.xs (Nb mj) (Ss mj) (fnOf mj) (HandSHeadRun.getT s)
theorem ob_eq(s:PySem.W.SharedT):ob s=hk.obs s.abs:=Ajd (HandSHeadRun.getT_eq s)
def loose:List PySem.Str:=(["MOST_ITEMS", "FALLING", "FIXED", "TOGETHER", "FIXED_SIZE", "TOGETHER_SIZE", "is_falling", "column_of", "is_list_of_any_length", "is_list", "columns_in", "parts_of", "is_context", "is_part", "_law_pot", "_law_take", "_law_of", "_law_names", "_law_listed", "_law_plain", "_law_due", "_law_right"]:List PySem.Str)
theorem Atc(w:World):As0 R (PySem.W.view R.prog [25]) 6000 loose w:=by
 intro os
 kernel_rfl
theorem Atb(w:World):As2 4 (Ss mj) R 6000 w:=by
 intro os
 kernel_rfl
theorem Ata(w:World):As1 4 mj.cs mj.ts mj.xs (Nb mj) (fnOf mj) R 6000 w:=by
 intro os
 kernel_rfl
theorem run(w:World):HandSHeadRun.RunEq R (PySem.W.view R.prog [25]) hk ob 6000 loose w:=Af2 (Atc w) (Atb w) (Ata w)
theorem Aq5:PySem.W.looksOpen R.prog=true:=by
 unfold PySem.W.looksOpen;exact Abx (Abx (Abx (Abx (Abx (by decide +kernel) (by decide +kernel)) (by decide +kernel)) (by decide +kernel)) (by decide +kernel)) (by decide +kernel)
theorem k_said:R.wellSaid=true:=by
 unfold PySem.W.OpenRow.wellSaid PySem.W.OpenRow.partSaid;rw[Aq5]
 decide +kernel
theorem k_law(h:(PySem.W.OpenLaw.row PySem.Challenge.rw_sortfollow_k14_parts_of_rules).Holds):PySem.Challenge.rw_sortfollow_k14_parts_of_rules.Holds:=by
 w_on;o_law
 exact h
theorem k_ok:(PySem.W.chainsOk (PySem.W.view R.prog [25]) && PySem.W.opensWell R.prog && (PySem.W.frees R.toRowW && R.within.isEmpty))=true:=by decide +kernel
theorem k_bare:R.prog.bare:=⟨rfl,rfl,rfl,rfl,rfl,by decide +kernel⟩
abbrev T:List FDef:=js.map (·.di.d)
abbrev G(adr:Nat→Nat):Nat→Option Dat:=gOf mj adr
abbrev prim:Nat→Option (List Dat→(Dat→Prop)→Prop):=Jd 8 9
end SF.K14
set_option maxHeartbeats 1000000
namespace SF
open PySem
abbrev W(α:Type):=(α→Prop)→Prop
mutual
def eqD:Dat→Dat→Bool
 | .non,.non=>true
 | .bl a,.bl b=>a == b
 | .bl a,.int j=>(if a then 1 else 0) == j
 | .int i,.bl b=>i == (if b then 1 else 0)
 | .int i,.int j=>i == j
 | .str x,.str y=>x == y
 | .lst xs,.lst ys=>eqDs xs ys
 | .tup xs,.tup ys=>eqDs xs ys
 | _,_=>false
def eqDs:List Dat→List Dat→Bool
 | [],[]=>true
 | x::xs,y::ys=>eqD x y && eqDs xs ys
 | _,_=>false
end
def ltS:List Nat→List Nat→Bool
 | [],[]=>false
 | [],_::_=>true
 | _::_,[]=>false
 | a::as,b::bs=>if a < b then true else if a=b then ltS as bs else false
mutual
def ltD:Dat→Dat→Bool
 | .bl a,.bl b=>!a && b
 | .int i,.int j=>decide (i < j)
 | .str x,.str y=>ltS x y
 | .lst xs,.lst ys=>ltDs xs ys
 | .tup xs,.tup ys=>ltDs xs ys
 | _,_=>false
def ltDs:List Dat→List Dat→Bool
 | [],[]=>false
 | [],_::_=>true
 | _::_,[]=>false
 | x::xs,y::ys=>if eqD x y then ltDs xs ys else ltD x y
end
mutual
def Av:Dat→Dat→Bool
 | .bl _,.bl _=>true
 | .int _,.int _=>true
 | .str _,.str _=>true
 | .lst xs,.lst ys=>alikeDs xs ys
 | .tup xs,.tup ys=>alikeDs xs ys
 | _,_=>false
def alikeDs:List Dat→List Dat→Bool
 | x::xs,y::ys=>Av x y && alikeDs xs ys
 | _,_=>true
end
def okd:Nat→Dat→Prop
 | _,.non=>True
 | _,.bl _=>True
 | _,.int _=>True
 | _,.str _=>True
 | n+1,.tup l=>∀x∈l,okd n x
 | n+1,.lst l=>∀x∈l,okd n x
 | _,_=>False
def rpd:Nat→Nat→Dat→Prop
 | _,w,.non=>4≤w
 | _,w,.bl _=>5≤w
 | _,w,.int i=>i.natAbs < 10 ^ (w - 1)∧2≤w∧i.natAbs < 2 ^ 1900
 | _,w,.str s=>(∀c∈s,c < 128)∧10*s.length+2≤w
 | n+1,w,.tup l=>∃v,(∀x∈l,rpd n v x)∧l.length*(v+2)+3≤w
 | n+1,w,.lst l=>∃v,(∀x∈l,rpd n v x)∧l.length*(v+2)+3≤w
 | _,_,_=>False
mutual
def okr:Nat→Dat→Prop
 | _,.non=>True
 | _,.bl _=>True
 | _,.int i=>i.natAbs < 2 ^ 1900
 | _,.str s=>∀c∈s,c < 128
 | n+1,.tup l=>okrs n l
 | n+1,.lst l=>okrs n l
 | n+1,.dic l=>okrKv n l
 | _,_=>False
def okrs:Nat→List Dat→Prop
 | _,[]=>True
 | n,x::r=>okr n x∧okrs n r
def okrKv:Nat→List (Dat×Dat)→Prop
 | _,[]=>True
 | n,(k,v)::r=>okr n k∧okr n v∧okrKv n r
end
mutual
def szD:Dat→Nat
 | .int i=>(toString i).length
 | .str s=>10*s.length+2
 | .tup l=>szDs l+3
 | .lst l=>szDs l+2
 | .dic l=>szKv l+2
 | _=>5
def szDs:List Dat→Nat
 | []=>0
 | x::r=>szD x+2+szDs r
def szKv:List (Dat×Dat)→Nat
 | []=>0
 | (k,v)::r=>szD k+2+szD v+2+szKv r
end
mutual
def okk:Nat→Dat→Bool
 | _,.non=>true
 | _,.bl _=>true
 | _,.int _=>true
 | _,.str _=>true
 | n+1,.tup l=>okks n l
 | _,_=>false
def okks:Nat→List Dat→Bool
 | _,[]=>true
 | n,x::r=>okk n x && okks n r
end
def okK:Dat→Bool
 | .tup l=>okks 7 l
 | _=>false
mutual
def txk:Dat→Bool
 | .str _=>true
 | .tup l=>txks l
 | _=>false
def txks:List Dat→Bool
 | []=>true
 | x::r=>txk x && txks r
end
def Zi(l:List (Dat×Dat))(k:Dat):Bool:=l.any λp=>eqD p.1 k
def getT(l:List (Dat×Dat))(k:Dat):Option Dat:=(l.find? λp=>eqD p.1 k).map (·.2)
def Aso(l:List (Dat×Dat))(k d:Dat):List (Dat×Dat):=if Zi l k=true then l.map λp=>if eqD p.1 k=true then(p.1,d)else p else l++[(k,d)]
def gX(G:Nat→Option Dat)(c:Nat):Option Dat:=if c < 300000 then G (600000+c)else none
def Oj:List Dat→List Dat→List Dat
 | n::ns,v::vs=>n::v::Oj ns vs
 | _,_=>[]
def Lp:E→Bool
 | .obs _=>true
 | _=>false
def atD(l:List Dat)(i:Int):Option Dat:=L2.atI l i
def cut{α:Type}(l:List α)(lo hi:Option Int):List α:=(l.drop (HT.sIx l.length 0 lo)).take (HT.sIx l.length l.length hi - HT.sIx l.length 0 lo)
def big:Nat:=16777216
def Jm(o:O2)(x y:Dat)(Q:Dat→Prop):Prop:=
 match o,x,y with
 | .add,.int i,.int j=>Q (.int (i+j))
 | .add,.str s,.str t=>s.length+t.length≤big∧Q (.str (s++t))
 | .add,.tup s,.tup t=>s.length+t.length≤big∧Q (.tup (s++t))
 | .add,.lst s,.lst t=>s.length+t.length≤big∧Q (.lst (s++t))
 | .sub,.int i,.int j=>Q (.int (i - j))
 | .mul,.int i,.int j=>((i.natAbs < 2 ^ 64∨j.natAbs < 2 ^ 64)∨(i.natAbs < 2 ^ 100000∧j.natAbs < 2 ^ 100000))∧Q (.int (i*j))
 | .mul,.lst s,.int j=>(0≤j∧j < 2 ^ 60∧s.length*j.toNat≤big)∧Q (.lst (Bw j.toNat s).flatten)
 | .mul,.tup s,.int j=>(s≠[]∧0≤j∧j≤1000∧s.length≤1000)∧Q (.tup (Bw j.toNat s).flatten)
 | .fdiv,.int i,.int j=>(0 < j∧j.natAbs < 2 ^ 8000)∧Q (.int (i / j))
 | .mod,.int i,.int j=>0 < j∧Q (.int (i % j))
 | .pow,.int i,.int j=>(0≤j∧j≤1000∧i.natAbs < 2 ^ 100000)∧Q (.int (i ^ j.toNat))
 | .add,.bl b,.int j=>Q (.int ((if b=true then(1:Int)else 0)+j))
 | .sub,.bl b,.int j=>Q (.int ((if b=true then(1:Int)else 0) - j))
 | .sub,.int i,.bl b=>Q (.int (i - if b=true then(1:Int)else 0))
 | _,_,_=>False
def Pq(s:List Nat):Dat→Bool
 | .str t=>decide (t=s)
 | _=>false
def Mi(l:List (Dat×Dat))(s:List Nat):Option Dat:=(l.find? λp=>Pq s p.1).map (·.2)
def Asp(l:List (Dat×Dat))(s:List Nat)(d:Dat):List (Dat×Dat):=
 if(l.any λp=>Pq s p.1)=true then l.map λp=>if Pq s p.1=true then(p.1,d)else p else l++[(.str s,d)]
def inW(x y:Dat)(Q:Bool→Prop):Prop:=
 match y with
 | .tup l=>okd 60 x∧(∀z∈l,okd 60 z)∧Q (l.any λz=>eqD z x)
 | .lst l=>okd 60 x∧(∀z∈l,okd 60 z)∧Q (l.any λz=>eqD z x)
 | .str s=>match x with
  | .str [c]=>Q (decide (c∈s))
  | _=>False
 | .kd l=>okK x=true∧Q (Zi l x)
 | .dic l=>match x with
  | .str t=>Q (Mi l t).isSome
  | _=>False
 | _=>False
def Uc:Dat→Bool
 | .int _=>true
 | .str _=>true
 | .tup _=>true
 | .lst _=>true
 | _=>false
def M9(x y:Dat)(r:Bool)(Q:Bool→Prop):Prop:=(Uc x=true∧Av x y=true∧okd 60 x∧okd 60 y)∧Q r
def Gv:Dat→Bool
 | .obj _ _=>false
 | .pot=>false
 | .scr _=>false
 | .kd _=>false
 | _=>true
def Asy:Dat→Bool
 | .tup l=>l.all Gv
 | d=>Gv d
def Ij(o:C2)(x y:Dat)(Q:Bool→Prop):Prop:=
 match o with
 | .eq=>okd 60 x∧okd 60 y∧Q (eqD x y)
 | .ne=>okd 60 x∧okd 60 y∧Q (!eqD x y)
 | .lt=>M9 x y (ltD x y) Q
 | .gt=>M9 x y (ltD y x) Q
 | .le=>M9 x y (!ltD y x) Q
 | .ge=>M9 x y (!ltD x y) Q
 | .inn=>inW x y Q
 | .nin=>inW x y λb=>Q (!b)
 | .neE=>y = .tup []∧∃l,x = .tup l∧Q (!l.isEmpty)
 | .neL=>y = .lst []∧∃l,x = .lst l∧Q (!l.isEmpty)
 | .eqT=>(∃ts:List (List Nat),y = .tup (ts.map .str))∧(∃l,x = .tup l∧l.all Gv=true)∧Q (eqD x y)
 | .neT=>(∃ts:List (List Nat),y = .tup (ts.map .str))∧Asy x=true∧Q (!eqD x y)
def Q7:Dat→Ty→Bool
 | .bl _,.int=>true
 | .bl _,.bool=>true
 | .int _,.int=>true
 | .str _,.str=>true
 | .tup _,.tuple=>true
 | .lst _,.list=>true
 | .dic _,.dict=>true
 | _,_=>false
def Df(l:List Dat):List Dat:=l.mergeSort λx y=>!ltD y x
def alikeAll(l:List Dat):Prop:=∀x∈l,∀y∈l,Av x y=true
def Gj:Dat→Bool
 | .tup []=>false
 | .lst []=>false
 | _=>true
def Agy(l:List Dat):Prop:=∀d∈l,okK d=true∧txk d=true∧Gj d=true
def Wx(l:List Dat):Prop:=Agy l∧alikeAll l
def Hk:List Dat→List Dat
 | []=>[]
 | x::xs=>x::(Hk xs).filter λy=>!eqD x y
def Zh(i:Int):Dat→Bool
 | .int j=>decide (j=i)
 | _=>false
def Il(l:List (Dat×Dat))(i:Int):Option Dat:=(l.find? λp=>Zh i p.1).map (·.2)
def Ib(l:List (List Nat)):List (List Nat):=l.foldl (λl k=>if k∈l then l else k::l) []
def M3(l:List (List Nat)):List (List Nat):=(Ib l).mergeSort λa b=>!ltS b a
def M7(sep:List Nat):List (List Nat)→List Nat
 | []=>[]
 | [x]=>x
 | x::y::r=>x++sep++M7 sep (y::r)
mutual
def Ar:Dat→PyData
 | .non=>.none
 | .bl b=>.bool b
 | .int i=>.int i
 | .str s=>.str ⟨s.toArray⟩
 | .tup l=>.tuple (toPys l)
 | .lst l=>.list (toPys l)
 | .dic l=>.dict (toPyKv l)
 | .obj _ _=>.none
 | .pot=>.none
 | .scr _=>.none
 | .kd _=>.none
def toPys:List Dat→List PyData
 | []=>[]
 | x::r=>Ar x::toPys r
def toPyKv:List (Dat×Dat)→List (PyData×PyData)
 | []=>[]
 | (k,v)::r=>(Ar k,Ar v)::toPyKv r
end
def Nz(d:Dat):List Nat:=(Ar d).shown.cps.toList
def Rz(l:List Dat)(Q:Dat→Prop):Prop:=
 match l with
 | [.tup l]=>Q (.int l.length)
 | [.lst l]=>Q (.int l.length)
 | [.str l]=>Q (.int l.length)
 | [.scr l]=>Q (.int l.length)
 | _=>False
def Adp(l:List Dat)(Q:Dat→Prop):Prop:=
 match l with
 | [.int i]=>Q (.int i.natAbs)
 | _=>False
def Zu(l:List Dat)(Q:Dat→Prop):Prop:=
 match l with
 | [.lst l]=>∃(bs:List Bool),l=bs.map Dat.bl∧Q (.bl (bs.all id))
 | _=>False
def Aru(l:List Dat)(Q:Dat→Prop):Prop:=
 match l with
 | [.lst l]=>∃(bs:List Bool),l=bs.map Dat.bl∧Q (.bl (bs.any id))
 | _=>False
def Ada(l:List Dat)(Q:Dat→Prop):Prop:=
 match l with
 | [.int i,.int j]=>Q (.int (max i j))
 | [.lst l]=>∃ns:List Int,l=ns.map .int∧0 < ns.length∧∀m,m∈ns→(∀y,y∈ns→y≤m)→Q (.int m)
 | _=>False
def Ac8(l:List Dat)(Q:Dat→Prop):Prop:=
 match l with
 | [.int i,.int j]=>Q (.int (min i j))
 | [.lst l]=>∃ns:List Int,l=ns.map .int∧0 < ns.length∧∀m,m∈ns→(∀y,y∈ns→m≤y)→Q (.int m)
 | _=>False
def Qy(l:List Dat)(Q:Dat→Prop):Prop:=
 match l with
 | [.lst l]=>alikeAll l∧(∀z∈l,okd 60 z∧Gj z=true)∧Q (.lst (Df l))
 | [.tup l]=>((∃ts:List (List Nat),l=ts.map .str)∨∃is:List Int,l=is.map .int)∧Q (.lst (Df l))
 | _=>False
def Aan(l:List Dat)(Q:Dat→Prop):Prop:=
 match l with
 | [x]=>rpd 60 big x∧Q (.str (Nz x))
 | _=>False
def Acn(l:List Dat)(Q:Dat→Prop):Prop:=
 match l with
 | [.lst l]=>((alikeAll l∧∀z∈l,okd 60 z∧Gj z=true)∨∀z∈l,z = .tup [])∧Q (.lst (Df l))
 | [.tup l]=>(∃rs:List (List Int),(∀r∈rs,r≠[])∧l=rs.map λr=>.tup (r.map .int))∧Q (.lst (Df l))
 | _=>False
def Ru(l:List Dat)(Q:Dat→Prop):Prop:=
 match l with
 | [x]=>(okr 60 x∧szD x≤big)∧Q (.str (Nz x))
 | _=>False
def Afm(l:List Dat)(Q:Dat→Prop):Prop:=
 match l with
 | [.int i]=>i.natAbs < 2 ^ 1900∧Q (.str (Nz (.int i)))
 | [.bl b]=>True∧Q (.str (Nz (.bl b)))
 | _=>False
def Jl(l:List Dat)(Q:Dat→Prop):Prop:=
 match l with
 | [.lst l]=>Q (.tup l)
 | [.tup l]=>Q (.tup l)
 | _=>False
def Xr(l:List Dat)(Q:Dat→Prop):Prop:=
 match l with
 | [.lst l]=>Q (.lst l)
 | [.tup l]=>Q (.lst l)
 | [.kd l]=>Q (.lst (l.map (·.1)))
 | _=>False
def Adf(l:List Dat)(Q:Dat→Prop):Prop:=
 match l with
 | [.int i]=>Q (.int i)
 | [.bl b]=>Q (.int (if b then 1 else 0))
 | _=>False
def biW(b:B1)(l:List Dat)(Q:Dat→Prop):Prop:=
 match b with
 | .len=>Rz l Q
 | .abs=>Adp l Q
 | .all=>Zu l Q
 | .any=>Aru l Q
 | .max=>Ada l Q
 | .min=>Ac8 l Q
 | .sorted=>Qy l Q
 | .repr=>Aan l Q
 | .tuple=>Jl l Q
 | .list=>Xr l Q
 | .int=>Adf l Q
 | .str=>Afm l Q
 | .reprS=>Ru l Q
 | .sortE=>Acn l Q
 | _=>False
inductive Slot where|no|val (d:Dat)|own (d:Dat)
abbrev Env:=List Slot
def Du(δ:Env)(i:Nat)(Q:Dat→Prop):Prop:=
 match δ[i]? with
 | some (.val d)=>Q d
 | _=>False
@[reducible] def Aja:Option Slot→Option Dat
 | some (.own (.obj _ _))=>none
 | some (.own d)=>some d
 | _=>none
theorem Ja{x:Option Slot}{d:Dat}(h:Aja x=some d):x=some (.own d):=by
 unfold Aja at h
 split at h
 ·cases h
 ·cases h;rfl
 ·cases h
theorem Y5{x:Option Slot}{d:Dat}(h:Aja x=some d)(c:Nat)(l:List Dat):d ≠ .obj c l:=λe=>by
 have q:=Ja h;subst e;rw[q]at h
 cases h
def Dy(δ:Env)(i:Nat)(Q:Dat→Prop):Prop:=
 match Aja δ[i]? with
 | some d=>Q d
 | none=>False
def Acs:List Nat→List Nat→List Dat→Env→Env
 | v::vs,b::bs,d::ds,δ=>Acs vs bs ds (δ.set v (.own (.obj b [d])))
 | _,_,_,δ=>δ
mutual
def Cz:P→Dat→Env→(Env→Prop)→Prop
 | .v i,d,δ,Q=>Q (δ.set i (.val d))
 | .t ps,.tup ds,δ,Q=>bindPs ps ds δ Q
 | .t _,_,_,_=>False
def bindPs:List P→List Dat→Env→(Env→Prop)→Prop
 | [],[],δ,Q=>Q δ
 | p::ps,d::ds,δ,Q=>Cz p d δ λδ'=>bindPs ps ds δ' Q
 | _,_,_,_=>False
end
def Bb(δ:Env):List Nat→Env
 | []=>δ
 | i::r=>(Bb δ r).set i .no
def Ff{α:Type}(f:α→(Option Dat→Prop)→Prop):List α→(List Dat→Prop)→Prop
 | [],Q=>Q []
 | x::xs,Q=>f x λo=>Ff f xs λys=>Q (match o with|some y=>y::ys|none=>ys)
def Ii{α:Type}(f:α→(List Dat→Prop)→Prop):List α→(List Dat→Prop)→Prop
 | [],Q=>Q []
 | x::xs,Q=>f x λzs=>Ii f xs λys=>Q (zs++ys)
def Di:Dat→Option (List Dat)
 | .tup l=>some l
 | .lst l=>some l
 | .str s=>some (s.map λc=>.str [c])
 | _=>none
def Hg(x lo hi:Dat)(Q:Dat→Prop):Prop:=
 let k (l h:Option Int):Prop:=match x with
  | .tup xs=>Q (.tup (cut xs l h))
  | .lst xs=>Q (.lst (cut xs l h))
  | .str xs=>Q (.str (cut xs l h))
  | _=>False
 match lo,hi with
 | .non,.non=>k none none
 | .int i,.non=>k (some i) none
 | .non,.int j=>k none (some j)
 | .int i,.int j=>k (some i) (some j)
 | _,_=>False
def Jx(x i:Dat)(Q:Dat→Prop):Prop:=
 match x,i with
 | .tup l,.int i=>∃d,atD l i=some d∧Q d
 | .lst l,.int i=>∃d,atD l i=some d∧Q d
 | .str l,.int i=>∃c,atD (l.map λc=>Dat.str [c]) i=some c∧Q c
 | .dic l,.str s=>∃d,Mi l s=some d∧Q d
 | .dic l,.int i=>∃d,Il l i=some d∧Q d
 | .scr l,.int i=>∃d,atD (l.map Dat.int) i=some d∧Q d
 | .kd l,k=>okK k=true∧∃d,getT l k=some d∧Q d
 | _,_=>False
def R8(o:Dat)(l:List Dat)(Q:Dat→Prop):Prop:=
 match o,l with
 | .tup xs,[x]=>okd 60 x∧(∀z∈xs,okd 60 z)∧(xs.any λz=>eqD z x)=true∧Q (.int (xs.findIdx λz=>eqD z x))
 | .lst xs,[x]=>okd 60 x∧(∀z∈xs,okd 60 z)∧(xs.any λz=>eqD z x)=true∧Q (.int (xs.findIdx λz=>eqD z x))
 | _,_=>False
def Zm(o:Dat)(l:List Dat)(Q:Dat→Prop):Prop:=
 match o,l with
 | .lst xs,[x]=>okd 60 x∧(∀z∈xs,okd 60 z)∧Q (.int ((xs.countP λz=>eqD z x:Nat):Int))
 | _,_=>False
def Aep(o:Dat)(l:List Dat)(Q:Dat→Prop):Prop:=
 match o,l with
 | .str sep,[.lst l]=>∃ss,l=ss.map Dat.str∧(ss.map Dh).sum+ss.length*sep.length≤big∧Q (.str (M7 sep ss))
 | .str sep,[.tup l]=>∃ss,l=ss.map Dat.str∧(ss.map Dh).sum+ss.length*sep.length≤big∧Q (.str (M7 sep ss))
 | _,_=>False
def N6(o:Dat)(l:List Dat)(Q:Dat→Prop):Prop:=
 match o,l with
 | .str s,[.str [a],.str t]=>(t≠[a]∧s.length+(s.length+1)*t.length≤big)∧Q (.str (s.flatMap λc=>if c=a then t else [c]))
 | .str s,[.str (a::b::r),.str t]=>(t≠a::b::r∧s.length+(s.length+1)*t.length≤big)∧Q (.str (StrLaws.replL (a::b::r) t s))
 | _,_=>False
def Zd(o:Dat)(l:List Dat)(Q:Dat→Prop):Prop:=
 match o,l with
 | .str s,[.str t]=>Q (.str (s.dropWhile λc=>t.contains c))
 | _,_=>False
def U6(o:Dat)(l:List Dat)(Q:Dat→Prop):Prop:=
 match o,l with
 | .str s,[]=>(∀c∈s,c < 128)∧Q (.str (s.map PyProof.Rows.up1))
 | _,_=>False
def Ys(o:Dat)(l:List Dat)(Q:Dat→Prop):Prop:=
 match o,l with
 | .str s,[.str t]=>(t≠[]∧(∀c∈t,c < 256)∧s.length+2≤big)∧Q (.lst ((TL.spl t 0 [] s).map .str))
 | _,_=>False
def Aoi(t s:List Nat):List Dat:=
 match TL.par t [] s with
 | some p=>[.str p.1,.str t,.str p.2]
 | none=>[.str s,.str [],.str []]
def Mg(o:Dat)(l:List Dat)(Q:Dat→Prop):Prop:=
 match o,l with
 | .str s,[.str t]=>t≠[]∧Q (.tup (Aoi t s))
 | _,_=>False
def Uq(o:Dat)(l:List Dat)(Q:Dat→Prop):Prop:=
 match o,l with
 | .str s,[.str t]=>Q (.bl (TL.pre t s))
 | _,_=>False
def Abf(o:Dat)(l:List Dat)(Q:Dat→Prop):Prop:=
 match o,l with
 | .dic kvs,[.str s]=>Q ((Mi kvs s).getD .non)
 | .dic kvs,[.str s,x]=>Q ((Mi kvs s).getD x)
 | .dic kvs,[.int i]=>Q ((Il kvs i).getD .non)
 | .dic kvs,[.int i,x]=>Q ((Il kvs i).getD x)
 | _,_=>False
def meW(m:M1)(o:Dat)(l:List Dat)(Q:Dat→Prop):Prop:=
 match m with
 | .upper=>U6 o l Q
 | .get=>Abf o l Q
 | .index=>R8 o l Q
 | .count=>Zm o l Q
 | .join=>Aep o l Q
 | .replace=>N6 o l Q
 | .lstrip=>Zd o l Q
 | .split=>Ys o l Q
 | .partition=>Mg o l Q
 | .startswith=>Uq o l Q
def Ih(m:M1)(o:Dat):Bool:=
 match m,o with
 | .index,.tup _=>true
 | .index,.lst _=>true
 | .index,_=>false
 | .count,.lst _=>true
 | .count,_=>false
 | .get,.dic _=>true
 | .get,_=>false
 | _,.str _=>true
 | _,_=>false
def Y9(x:Dat)(Q:Dat→Prop):Prop:=
 match x with
 | .int i=>Q (.int (-i))
 | _=>False
def Gz(x:Dat)(Q:Dat→Prop):Prop:=
 match x with
 | .int n=>(-(2 ^ 60) < n∧n≤big)∧Q (.lst ((Dz n.toNat).map λi:Nat=>.int i))
 | _=>False
def Y4(x y:Dat)(Q:Dat→Prop):Prop:=
 match x,y with
 | .int u,.int n=>(-(2 ^ 60) < u∧u < 2 ^ 60 ∧ -(2 ^ 60) < n∧n < 2 ^ 60∧n - u≤big)∧Q (.lst ((Dz (n - u).toNat).map λi:Nat=>.int (u+i)))
 | _,_=>False
mutual
def Dm:P→List Nat
 | .v i=>[i]
 | .t ps=>varsPs ps
def varsPs:List P→List Nat
 | []=>[]
 | p::ps=>Dm p++varsPs ps
end
def Pn:Dat→Bool
 | .non=>true
 | _=>false
def Bs(d:Dat)(Q:Bool→Prop):Prop:=
 match d with
 | .bl b=>Q b
 | _=>False
def Ahc(x y:Dat)(l r:List Dat):Prop:=(x = .lst l∧(y = .lst r∨y = .tup r))∨(x = .tup l∧(y = .tup r∨y = .lst r))
def Adl(x:Dat)(l:List Dat):Prop:=x = .lst l∨x = .tup l
def Dt(sh:List Src)(ds ks:List Dat):List Dat:=sh.map fun
 | .p i=>ds.getD i .non
 | .k i=>ks.getD i .non
 | .dn=>.non
 | .di i=>.int i
 | .db b=>.bl b
inductive M where|v|b|i
section
variable(C:Nat→List Dat→(Dat→Prop)→Prop)(G:Nat→Option Dat)
mutual
def ev:E→M→Env→(Dat→Prop)→Prop
 | .var i,_,δ,Q=>Du δ i Q
 | .obs i,m,δ,Q=>match m with | .v=>False|_=>Dy δ i Q
 | .glob i,_,_,Q=>match G i with|some d=>Q d|none=>False
 | .non,_,_,Q=>Q .non
 | .bl b,_,_,Q=>Q (.bl b)
 | .int i,_,_,Q=>Q (.int i)
 | .str s,_,_,Q=>Q (.str s)
 | .op2 o a b,_,δ,Q=>ev a .b δ λx=>ev b .b δ λy=>Jm o x y Q
 | .neg a,_,δ,Q=>ev a .v δ λx=>Y9 x Q
 | .cmp o a b,_,δ,Q=>ev a .b δ λx=>ev b .b δ λy=>Ij o x y λb=>Q (.bl b)
 | .chain o o' a b c,_,δ,Q=>ev a .b δ λx=>ev b .b δ λy=>Ij o x y λk=>if k=true then ev c .b δ λz=>Ij o' y z λk'=>Q (.bl k')else Q (.bl false)
 | .isN a,_,δ,Q=>ev a .v δ λx=>Q (.bl (Pn x))
 | .notN a,_,δ,Q=>ev a .v δ λx=>Q (.bl (!Pn x))
 | .and a b,_,δ,Q=>ev a .v δ λx=>Bs x λk=>if k=true then ev b .v δ Q else Q (.bl false)
 | .or a b,_,δ,Q=>ev a .v δ λx=>Bs x λk=>if k=true then Q (.bl true)else ev b .v δ Q
 | .not a,_,δ,Q=>ev a .v δ λx=>Bs x λk=>Q (.bl (!k))
 | .ite c a b,_,δ,Q=>ev c .v δ λx=>Bs x λk=>if k=true then ev a .v δ Q else ev b .v δ Q
 | .tup l,_,δ,Q=>evs l .v δ λds=>Q (.tup ds)
 | .lst l,_,δ,Q=>evs l .v δ λds=>Q (.lst ds)
 | .idx a i,_,δ,Q=>ev a .b δ λx=>ev i .v δ λy=>Jx x y Q
 | .slc a lo hi,_,δ,Q=>ev a .b δ λx=>ev lo .v δ λl=>ev hi .v δ λh=>Hg x l h Q
 | .bi b l,_,δ,Q=>evs l .b δ λds=>biW b ds Q
 | .isi a t,_,δ,Q=>ev a .v δ λx=>Gv x=true∧Q (.bl (Q7 x t))
 | .me m o l,_,δ,Q=>ev o .b δ λx=>Ih m x=true∧evs l .b δ λds=>meW m x ds Q
 | .call f l kl sh,_,δ,Q=>evs l .v δ λds=>evs kl .v δ λks=>C f (Dt sh ds ks) Q
 | .comp own p it c e,_,δ,Q=>ev it .i δ λx=>∃ds,Di x=some ds ∧
   Ff (λd K=>Cz p d (Bb δ own) λδ'=>ev c .v δ' λb=>Bs b λk=>if k=true then ev e .v δ' λy=>K (some y)else K none) ds λys=>Q (.lst ys)
 | .new c l,_,δ,Q=>∃p ns,G (500000+c)=some (.obj p ns)∧evs l .v δ λds=>ds.length=ns.length∧Q (.obj p (Oj ns ds))
 | .fld c i a,_,δ,Q=>∃p ns,G (500000+c)=some (.obj p ns)∧ev a .v δ λx=>∃vs y,x = .obj p (Oj ns vs)∧vs.length=ns.length∧vs[i]? = some y∧Q y
 | .meth c f a l,_,δ,Q=>∃p ns,G (500000+c)=some (.obj p ns)∧ev a .v δ λx=>(∃vs,x = .obj p (Oj ns vs)∧vs.length=ns.length)∧evs l .v δ λds=>C f (x::ds) Q
 | .sset a,_,δ,Q=>ev a .b δ λx=>∃l:List (List Nat),x = .lst (l.map .str)∧l.length≤1000∧Q (.lst ((M3 l).map .str))
 | .scomp own p it c e,_,δ,Q=>ev it .i δ λx=>∃ds,Di x=some ds∧ds.length≤1000 ∧
   Ff (λd K=>Cz p d (Bb δ own) λδ'=>ev c .v δ' λb=>Bs b λk=>if k=true then ev e .v δ' λy=>∃t,y = .str t∧K (some y)else K none) ds λys=>∃l:List (List Nat),ys=l.map .str∧Q (.lst ((M3 l).map .str))
 | .ssetN a,_,δ,Q=>ev a .b δ λx=>∃l,x = .lst l∧l.length≤76∧Wx l∧Q (.lst (Df (Hk l)))
 | .scompN own p it c e,_,δ,Q=>ev it .i δ λx=>∃ds,Di x=some ds∧ds.length≤76 ∧
   Ff (λd K=>Cz p d (Bb δ own) λδ'=>ev c .v δ' λb=>Bs b λk=>if k=true then ev e .v δ' λy=>(okK y=true∧txk y=true∧Gj y=true)∧K (some y)else K none) ds λys=>alikeAll ys∧Q (.lst (Df (Hk ys)))
 | .zip a b,m,δ,Q=>match m with
  | .i=>ev a .b δ λx=>ev b .b δ λy=>∃l r,Ahc x y l r∧Q (.lst (Gr (λp q=>.tup [p,q]) l r))
  | _=>False
 | .enum a,m,δ,Q=>match m with
  | .i=>ev a .b δ λx=>∃l,Adl x l∧Q (.lst (l.mapIdx λi d=>.tup [.int i,d]))
  | _=>False
 | .range a,m,δ,Q=>match m with
  | .i=>ev a .v δ λx=>Gz x Q
  | _=>False
 | .comp2 own p it c p1 it1 c1 e,_,δ,Q=>ev it .i δ λx=>∃ds B,Di x=some ds∧ds.length*B≤big ∧
   Ii (λd K=>Cz p d (Bb δ own) λδ'=>ev c .v δ' λb=>Bs b λk=>if k=true then ev it1 .i δ' λx1=>∃ds1,Di x1=some ds1∧ds1.length≤B ∧
    Ff (λd1 K1=>Cz p1 d1 (Bb δ' (Dm p1)) λδ''=>ev c1 .v δ'' λb1=>Bs b1 λk1=>if k1=true then ev e .v δ'' λy=>K1 (some y)else K1 none) ds1 K else K []) ds λys=>Q (.lst ys)
 | .isB ng a b,_,δ,Q=>ev a .v δ λx=>Bs x λk=>Q (.bl ((k == b) != ng))
def evs:List E→M→Env→(List Dat→Prop)→Prop
 | [],_,_,Q=>Q []
 | e::r,m,δ,Q=>ev e m δ λd=>evs r m δ λds=>Q (d::ds)
end
def Aro:E→Option Dat
 | .non=>some .non
 | .bl b=>some (.bl b)
 | .int i=>some (.int i)
 | .neg (.int i)=>some (.int (-i))
 | .str s=>some (.str s)
 | _=>none
structure Post where
 nx:Env→Prop
 rt:Env→Dat→Prop
 bk:Env→Prop:=λ_=>False
 ct:Env→Prop:=λ_=>False
 ex:Env→Dat→Prop:=λ_ _=>False
def G5(p:P)(b:Env→Post→Prop):List Dat→Env→Post→Prop
 | [],δ,D=>D.nx δ
 | d::ds,δ,D=>Cz p d δ λδ'=>b δ' { nx:=λδ''=>G5 p b ds δ'' D,ct:=λδ''=>G5 p b ds δ'' D,bk:=D.nx,rt:=D.rt,ex:=D.ex }
def Nq(c:Env→(Bool→Prop)→Prop)(b:Env→Post→Prop):Nat→Env→Post→Prop
 | 0,_,_=>False
 | n+1,δ,D=>c δ λk=>if k=true then b δ { nx:=λδ'=>Nq c b n δ' D,ct:=λδ'=>Nq c b n δ' D,bk:=D.nx,rt:=D.rt,ex:=D.ex }else D.nx δ
def Ge:E→Bool
 | .lst _=>true
 | .comp ..=>true
 | .comp2 ..=>true
 | .bi .list _=>true
 | .bi .sorted _=>true
 | .op2 .add _ _=>true
 | .op2 .mul _ _=>true
 | .slc _ _ _=>true
 | .sset _=>true
 | .scomp ..=>true
 | .ssetN _=>true
 | .scompN ..=>true
 | .me .split _ _=>true
 | .ite _ a b=>Ge a && Ge b
 | _=>false
def Jt:Dat→Bool
 | .lst _=>true
 | .dic _=>true
 | .kd _=>true
 | _=>false
def Kz:List Bool→List Nat→List Dat→Env→Env
 | o::os,i::is,d::ds,δ=>Kz os is ds (δ.set i (if o then .own d else .val d))
 | _,_,_,δ=>δ
def Xd(l:List Dat)(i:Int)(d:Dat):Option (List Dat):=
 if 0≤i then(if i.toNat < l.length then some (l.set i.toNat d)else none)
 else if 0≤i+l.length then some (l.set (i+l.length).toNat d)else none
def tgW:XT→Dat→Env→Post→Prop
 | .set i,d,δ,D=>D.nx (δ.set i (.val d))
 | .unp p,d,δ,D=>Cz p d δ D.nx
 | .ret,d,δ,D=>D.rt δ d
 | .exp,_,δ,D=>D.nx δ
def Atd(t:XT)(δ:Env)(D:Post)(r:Dat):Prop:=(∃d,r = .tup [d]∧tgW t d δ D)∨∃(c:Nat) (p:Dat),r = .tup [.int c,p]∧D.ex δ r
mutual
def exec:S→Env→Post→Prop
 | .dead,_,_=>False
 | .set i e,δ,D=>ev C G e .v δ λd=>D.nx (δ.set i (.val d))
 | .own i e,δ,D=>ev C G e .v δ λd=>Jt d=true∧D.nx (δ.set i (.own d))
 | .unp p e,δ,D=>ev C G e .v δ λd=>Cz p d δ D.nx
 | .par os is es,δ,D=>evs C G es .v δ λds=>((os.zip ds).all λp=>!p.1 || Jt p.2)=true∧D.nx (Kz os.reverse is.reverse ds.reverse δ)
 | .frz i,δ,D=>Dy δ i λd=>D.nx (δ.set i (.val d))
 | .app i e,δ,D=>Dy δ i λx=>∃l,x = .lst l∧ev C G e .v δ λd=>l.length < big∧D.nx (δ.set i (.own (.lst (l++[d]))))
 | .ext i e,δ,D=>Dy δ i λx=>∃l,x = .lst l∧ev C G e .b δ λd=>∃r,d = .lst r∧l.length+r.length≤big∧D.nx (δ.set i (.own (.lst (l++r))))
 | .pop i e,δ,D=>Dy δ i λx=>∃l,x = .lst l∧ev C G e .v δ λk=>∃j n,k = .int j∧L2.ixN l.length j=some n∧D.nx (δ.set i (.own (.lst (l.eraseIdx n))))
 | .ins i ix e,δ,D=>Dy δ i λx=>∃l,x = .lst l∧ev C G ix .v δ λk=>ev C G e .v δ λd=>∃j:Int,k = .int j∧0≤j∧j < 2 ^ 63∧l.length < big∧D.nx (δ.set i (.own (.lst (l.take j.toNat++[d]++l.drop j.toNat))))
 | .sto i ix e,δ,D=>ev C G e .v δ λd=>Dy δ i λx=>∃l,x = .lst l∧ev C G ix .v δ λk=>∃j r,k = .int j∧Xd l j d=some r∧D.nx (δ.set i (.own (.lst r)))
 | .exp e,δ,D=>ev C G e .v δ λ_=>D.nx δ
 | .ret e,δ,D=>ev C G e .v δ (D.rt δ)
 | .retN,δ,D=>D.rt δ .non
 | .pass,δ,D=>D.nx δ
 | .ite c a b,δ,D=>ev C G c .v δ λx=>Bs x λk=>if k=true then execs a δ D else execs b δ D
 | .for p it b,δ,D=>ev C G it .i δ λx=>∃ds,Di x=some ds∧G5 p (λδ' D'=>execs b δ' D') ds δ D
 | .whl c b,δ,D=>∃n,n≤big∧Nq (λδ' Q=>ev C G c .v δ' λx=>Bs x Q) (λδ' D'=>execs b δ' D') n δ D
def execs:List S→Env→Post→Prop
 | [],δ,D=>D.nx δ
 | s::r,δ,D=>exec s δ { D with nx:=λδ'=>execs r δ' D }
end
end
def Bp(n:Nat)(ds:List Dat):Env:=ds.map Slot.val++Bw (n - ds.length) .no
def Bg(T:List FDef)(G:Nat→Option Dat)(prim:Nat→Option (List Dat→(Dat→Prop)→Prop)):Nat→Nat→List Dat→(Dat→Prop)→Prop
 | 0,_,_,_=>False
 | k + 1,f,ds,Q=>match prim f with
  | some p=>p ds Q
  | none=>match T[f]? with
   | none=>if f < 5000000 then(match T[(f - 4000000) / 16]? with
    | none=>False
    | some d=>4000000≤f∧ds.length=d.np∧∃l,ds[(f - 4000000) % 16]? = some (.lst l)∧execs (λf' ds' Q'=>Bg T G prim k f' ds' Q') G d.body ((Bp d.nn ds).set ((f - 4000000) % 16) (.own (.lst l))) { nx:=λ_=>False,rt:=λδ r=>∃y,δ[(f - 4000000) % 16]? = some (.own (.lst y))∧Q (.tup [r,.lst y]) })
    else if f < 6000000 then(match T[(f - 5000000) / 4096]? with
    | none=>False
    | some d=>d.np=1∧∀a:Nat,execs (λf' ds' Q'=>(f'=7000000∧ds'=[.obj a []]∧Bg T G prim k (6000000+(f - 5000000) % 4096) ds Q')∨(f'≠7000000∧Bg T G prim k f' ds' Q')) G d.body (Bp d.nn [.obj a []]) { nx:=λ_=>Q .non,rt:=λ_=>Q })
    else if 10000000≤f then(if 12000000≤f then(match T[f - 12000000]? with
    | none=>False
    | some d=>ds.length=d.np∧execs (λf' ds' Q'=>Bg T G prim k f' ds' Q') G d.body (Bp d.nn ds) { nx:=λ_=>Q .non,rt:=λ_=>Q })
     else Bg T G prim k (f - 10000000) ds Q)
    else if 8000000≤f then(match T[f - 8000000]? with
    | none=>False
    | some d=>ds.length+1=d.np∧∀a:Nat,execs (λf' ds' Q'=>Bg T G prim k f' ds' Q') G (d.body.drop 1) (Bp d.nn (.obj a []::ds)) { nx:=λ_=>False,rt:=λ_=>Q })
    else(match T[f - 6000000]? with
    | none=>False
    | some d=>ds.length=d.np∧execs (λf' ds' Q'=>Bg T G prim k f' ds' Q') G d.body (Bp d.nn ds) { nx:=λ_=>Q (.tup [.non]),rt:=λ_ r=>Q (.tup [r]),ex:=λ_=>Q })
   | some d=>ds.length=d.np∧execs (λf' ds' Q'=>Bg T G prim k f' ds' Q') G d.body (Bp d.nn ds) { nx:=λ_=>Q .non,rt:=λ_=>Q }
end SF
namespace SF
open PySem PySem.Spec PyProof.Rows L2
structure KW where
 K:PySem.W.Frag
 prog:Program
 w:World
instance:CoeOut KW PySem.W.Frag:=⟨KW.K⟩
abbrev KW.lookup(K:KW)(a:Addr):Option Obj:=List.lookup a K.K
abbrev _root_.L2.Cx.kw(X:Cx):KW:=⟨X.K,X.prog,X.w⟩
def Gm(a:Addr)(z:Nat):HO:=.ext λh=>∃(x y c:Int) (t1 t2 t3:Tok) (n:Nat),h.get? a=some { cls:=.type "list", data:=.seq #[.int x t1,.int y t2,.int c t3] n } ∧
 0≤x∧x < 10 ^ 301∧0≤y∧y < 2305843009213693951∧0≤c∧c≤(z:Int)
def Z3:Nat:=2 ^ 30000
def FzL(H:Hp)(a:Addr)(xs:List V):Prop:=∃o,H a=some (.frz o (.lst xs))
theorem FzL.sq{K:PySem.W.Frag}{H:Hp}{a:Addr}{xs:List V}(h:FzL H a xs):SqL K H a xs:=by
 obtain⟨o,h⟩:=h;exact .inl (.inr ⟨o,h⟩)
def TupAt(K:KW)(H:Hp)(a:Addr)(xs:List V):Prop:=(∃o:Obj,H a=some (.frz o (.tup xs))∧o.dict=none) ∨
  ∃(o:Obj) (its:Array Value) (n:Nat),K.lookup a=some o∧o.cls = .type "tuple" ∧ o.dict=none∧o.data = .seq its n∧its.size≤sizeLine∧Vals xs its.toList
theorem TupAt.sq{K:KW}{H:Hp}{a:Addr}{xs:List V}(h:TupAt K H a xs):SqT K H a xs:=by
 rcases h with⟨o,h,_⟩|⟨o,its,n,h1,h2,_,h3⟩
 ·exact .inl (.inr ⟨o,h⟩)
 ·exact .inr ⟨o,its,n,h1,h2,h3⟩
def ScrL(K:KW)(H:Hp)(a:Addr)(xs:List V):Prop:=FzL H a xs ∨
  ∃(o:Obj) (its:Array Value) (n:Nat),K.lookup a=some o∧o.cls = .type "list" ∧ o.dict=none∧o.data = .seq its n∧its.size≤sizeLine∧Vals xs its.toList
theorem ScrL.sq{K:KW}{H:Hp}{a:Addr}{xs:List V}(h:ScrL K H a xs):SqL K H a xs:=by
 rcases h with h|h
 ·exact h.sq
 ·exact .inr h
def FzD(H:Hp)(a:Addr)(kvs:List (Key×V)):Prop:=∃o,H a=some (.frz o (.dK kvs))
mutual
def nkD:Dat→NestedKey
 | .non=>.none
 | .bl b=>.num (if b=true then 1 else 0)
 | .int i=>.num i
 | .str s=>.text ⟨s.toArray⟩
 | .tup l=>.tup (nkDs l)
 | .lst _=>.none
 | .dic _=>.none
 | .obj _ _=>.none
 | .pot=>.none
 | .scr _=>.none
 | .kd _=>.none
def nkDs:List Dat→List NestedKey
 | []=>[]
 | x::r=>nkD x::nkDs r
end
def kdO(K:KW)(a:Addr)(xs:List (NestedKey×Addr×V)):HO:=.ext λh=>∃(us:List (NestedKey×Addr×Value)) (o:Obj) (es:Array DictEntry) (ep:Nat),
 Paired (λp q=>p.1=q.1∧p.2.1=q.2.1∧RelV p.2.2 q.2.2) xs us∧h.get? a=some o∧o.ExactDict∧o.data = .dict es ep∧es.toList=us.map (entryOfKey (nestedKind K.prog K.w))∧(us.map (·.1)).Nodup
def FzK(K:KW)(H:Hp)(a:Addr)(xs:List (NestedKey×Addr×V)):Prop:=(a == sysModules)=false∧∃o,H a=some (.frz o (kdO K a xs))
theorem Aly:∀v:V,∃u,RelV v u
 | .non=>⟨_,rfl⟩
 | .bl _=>⟨_,rfl⟩
 | .int _=>⟨_,0,rfl⟩
 | .str _=>⟨_,0,rfl⟩
 | .byt _=>⟨_,0,rfl⟩
 | .flt _=>⟨_,0,rfl⟩
 | .ref _=>⟨_,rfl⟩
 | .ty _=>⟨_,rfl⟩
def kD:Key→Dat
 | .inl i=>.int i
 | .inr x=>.str x.cps.toList
def Chg(o:HO):Prop:=(∃xs,o = .lst xs)∨(∃kvs,o = .dK kvs)∨∃ φ:Heap→Prop,o = .ext φ∧∀(b:Addr) (z:Nat),o≠Gm b z
theorem Chg.ins{a b:Addr}{fs:List (Str×V)}(h:Chg (.ins a b fs)):False:=by
 rcases h with⟨_,h⟩|⟨_,h⟩|⟨_,h,_⟩<;>exact nomatch h
theorem Chg.tbl{ps:Array Value}(h:Chg (.tbl ps)):False:=by
 rcases h with⟨_,h⟩|⟨_,h⟩|⟨_,h,_⟩<;>exact nomatch h
theorem Chg.xd{fs:List (Str×V)}(h:Chg (.xd fs)):False:=by
 rcases h with⟨_,h⟩|⟨_,h⟩|⟨_,h,_⟩<;>exact nomatch h
theorem Chg.frz{o:Obj}{u:HO}(h:Chg (.frz o u)):False:=by
 rcases h with⟨_,h⟩|⟨_,h⟩|⟨_,h,_⟩<;>exact nomatch h
theorem Uz(o:Obj)(hf:o.isFreed=false):∀n:Nat,∃h:Heap,h.objs.size=n∧∀b u,h.get? b=some u→u=o
 | 0=>⟨{},rfl,λb u e=>by simp[Heap.get?]at e⟩
 | n+1=>by
  obtain⟨h,hz,hh⟩:=Uz o hf n;refine⟨h.push o,by rw[Heap.size_push,hz],λb u e=>?_⟩;by_cases hb:b=h.objs.size
  ·subst hb
   rw[Heap.get?_push_size _ hf]at e;exact(Aj.inj e).symm
  ·rw[Heap.get?_push_ne _ _ _ hb]at e
   exact hh b u e
theorem Ajw:∀xs:List (NestedKey×Addr×V),∃us:List (NestedKey×Addr×Value),Paired (λp q=>p.1=q.1∧p.2.1=q.2.1∧RelV p.2.2 q.2.2) xs us∧us.map (·.1)=xs.map (·.1)
 | []=>⟨[],.nil,rfl⟩
 | x::r=>by
  obtain⟨us,h1,h2⟩:=Ajw r;obtain⟨u,hu⟩:=Aly x.2.2;exact⟨(x.1,x.2.1,u)::us,.cons ⟨rfl,rfl,hu⟩ h1,by simp[h2]⟩
theorem Ajx{K:KW}{a b:Addr}{xs:List (NestedKey×Addr×V)}{z:Nat}(nd:(xs.map (·.1)).Nodup)(e:kdO K a xs=Gm b z):False:=by
 obtain⟨us,h1,h2⟩:=Ajw xs;have ef:=congrFun (HO.ext.inj e);obtain⟨h,hz,hh⟩:=Uz { cls:=.type "dict", data:=.dict ((us.map (entryOfKey (nestedKind K.prog K.w))).toArray) } rfl a;have hg:(h.push { cls:=.type "dict", data:=.dict ((us.map (entryOfKey (nestedKind K.prog K.w))).toArray) }).get? a=some { cls:=.type "dict", data:=.dict ((us.map (entryOfKey (nestedKind K.prog K.w))).toArray) }:=by
  rw[← hz];exact Heap.get?_push_size _ rfl
 have hp:=(ef (h.push { cls:=.type "dict", data:=.dict ((us.map (entryOfKey (nestedKind K.prog K.w))).toArray) })).mp ⟨us,_,_,_,h1,hg,⟨rfl,rfl,rfl⟩,rfl,by simp,by rw[h2];exact nd⟩;obtain⟨_,_,_,_,_,_,_,q,_⟩:=hp;by_cases hb:b=h.objs.size
 ·subst hb
  rw[Heap.get?_push_size _ rfl]at q;have:=congrArg Obj.cls (Aj.inj q);simp at this
 ·rw[Heap.get?_push_ne _ _ _ hb]at q
  have:=congrArg Obj.cls (hh b _ q);simp at this
theorem Chg.pot{b:Addr}{z:Nat}(h:Chg (Gm b z)):False:=by
 rcases h with⟨_,h⟩|⟨_,h⟩|⟨_,_,h⟩
 ·exact nomatch h
 ·exact nomatch h
 ·exact h b z rfl
theorem Chg.kd{K:KW}{a:Addr}{xs:List (NestedKey×Addr×V)}(nd:(xs.map (·.1)).Nodup):Chg (kdO K a xs):=.inr (.inr ⟨_,rfl,λ_ _ e=>Ajx nd e⟩)
def Aui(oe:Obj)(c dx:Addr):Prop:=oe.cls = .ref c∧oe.dict=some dx∧∃vs,oe.data = .fields vs
def Ud(fs:List (Str×V)):List V:=fs.flatMap λp=>[.str p.1,p.2]
mutual
def Rep(K:KW)(H:Hp):V→Dat→Prop
 | v,.non=>v = .non
 | v,.bl b=>v = .bl b
 | v,.int i=>v = .int i
 | v,.str s=>v = .str ⟨s.toArray⟩∧s.length≤sizeLine
 | v,.tup l=>∃a vs,v = .ref a∧TupAt K H a vs∧l.length≤sizeLine∧Reps K H vs l
 | v,.lst l=>∃a vs,v = .ref a∧FzL H a vs∧l.length≤sizeLine∧Reps K H vs l
 | v,.dic l=>∃a kvs,v = .ref a∧FzD H a kvs∧l.length≤sizeLine∧RepKv K H kvs l
 | v,.obj c l=>(l=[]∧v = .ref c)∨(∃a dx fs,l≠[]∧v = .ref a∧H a=some (.ins c dx fs)∧Reps K H (Ud fs) l) ∨
   ∃a dx fs oe,l≠[]∧v = .ref a∧H a=some (.frz oe (.own a))∧Aui oe c dx∧H dx=some (.xd fs)∧Reps K H (.non::Ud fs) l
 | v,.pot=>∃a z,v = .ref a∧H a=some (Gm a z)
 | v,.scr l=>∃a,v = .ref a∧ScrL K H a (l.map V.int)∧l.length≤1000
 | v,.kd l=>∃a xs,v = .ref a∧FzK K H a xs∧l.length≤sizeLine∧(xs.map (·.1)).Nodup∧RepKd K H xs l
def Reps(K:KW)(H:Hp):List V→List Dat→Prop
 | [],[]=>True
 | v::vs,d::ds=>Rep K H v d∧Reps K H vs ds
 | _,_=>False
def RepKv(K:KW)(H:Hp):List (Key×V)→List (Dat×Dat)→Prop
 | [],[]=>True
 | (k,v)::vs,(c,d)::ds=>kD k=c∧Rep K H v d∧RepKv K H vs ds
 | _,_=>False
def RepKd(K:KW)(H:Hp):List (NestedKey×Addr×V)→List (Dat×Dat)→Prop
 | [],[]=>True
 | (k,b,v)::vs,(c,d)::ds=>(okK c=true∧k=nkD c∧Rep K H (.ref b) c)∧Rep K H v d∧RepKd K H vs ds
 | _,_=>False
end
def TabF(H:Hp)(a:Addr)(q:Str):Prop:=∃ps:Array Value,H a=some (.tbl ps)∧TriplesOk ps.toList∧∀(pos:Pos) (cv:Value),codeAmong pos ps.toList=some cv→∃(c:Addr) (oc:Obj),cv = .ref c∧H c=some (.frz oc (LamX.CodeO c q))
def Tbs[TN](H:Hp):Prop:=∀p∈TN.tabs,TabF H p.1 p.2
def SoftAt(H:Hp)(a:Addr):Prop:=∀u,H a=some u→(∀ps,u ≠ .tbl ps)∧∀o w,u ≠ .frz o w
theorem SoftAt.none{H:Hp}{a:Addr}(h:H a=none):SoftAt H a:=λu e=>by rw[h]at e;cases e
theorem SoftAt.chg{H:Hp}{a:Addr}{u:HO}(h:H a=some u)(c:Chg u):SoftAt H a:=λw e=>by
 rw[h]at e
 cases e
 rcases c with⟨_,rfl⟩|⟨_,rfl⟩|⟨_,rfl,_⟩<;>exact⟨λ_ z=>(nomatch z),λ_ _ z=>nomatch z⟩
theorem SoftAt.ext{H:Hp}{a:Addr}{φ:Heap→Prop}(h:H a=some (.ext φ)):SoftAt H a:=λw e=>by
 rw[h]at e
 cases e
 exact⟨λ_ z=>(nomatch z),λ_ _ z=>nomatch z⟩
theorem SoftAt.lst{H:Hp}{a:Addr}{xs:List V}(h:H a=some (.lst xs)):SoftAt H a:=.chg h (.inl ⟨_,rfl⟩)
theorem TabF.put{H:Hp}{P a:Addr}{q:Str}{o:HO}(t:TabF H P q)(s:SoftAt H a):TabF (upd H a o) P q:=by
 obtain⟨ps,h1,h2,h3⟩:=t;refine⟨ps,by rw[upd_ne (λz=>(s _ (z ▸ h1)).1 _ rfl)];exact h1,h2,λpos cv hc=>?_⟩;obtain⟨c,oc,e1,e2⟩:=h3 pos cv hc;exact⟨c,oc,e1,by rw[upd_ne (λz=>(s _ (z ▸ e2)).2 _ _ rfl)];exact e2⟩
theorem TabF.same{H H':Hp}{P:Addr}{q:Str}(t:TabF H P q)(e:Same H H'):TabF H' P q:=by
 obtain⟨ps,h1,h2,h3⟩:=t;refine⟨ps,e _ _ h1,h2,λpos cv hc=>?_⟩;obtain⟨c,oc,e1,e2⟩:=h3 pos cv hc;exact⟨c,oc,e1,e _ _ e2⟩
theorem Tbs.put[TN]{H:Hp}{a:Addr}{o:HO}(t:Tbs H)(s:SoftAt H a):Tbs (upd H a o):=λp hp=>(t p hp).put s
theorem Tbs.same[TN]{H H':Hp}(t:Tbs H)(e:Same H H'):Tbs H':=λp hp=>(t p hp).same e
def Ext(H H':Hp):Prop:=∀a o,H a=some o→H' a=some o∨((∃z,o=Gm a z)∧∃z,H' a=some (Gm a z))∨((∃ps,o = .tbl ps)∧∃ps,H' a=some (.tbl ps))
theorem Ext.refl(H:Hp):Ext H H:=λ_ _ h=>.inl h
theorem Ext.trans{H H1 H2:Hp}(a:Ext H H1)(b:Ext H1 H2):Ext H H2:=λc o h=>by
 rcases a c o h with q|⟨hz,z,q⟩|⟨hz,z,q⟩
 ·exact b c o q
 ·rcases b c _ q with r|⟨_,r⟩|⟨⟨_,r⟩,_⟩
  ·exact .inr (.inl ⟨hz,z,r⟩)
  ·exact .inr (.inl ⟨hz,r⟩)
  ·exact nomatch r
 ·rcases b c _ q with r|⟨⟨_,r⟩,_⟩|⟨_,r⟩
  ·exact .inr (.inr ⟨hz,z,r⟩)
  ·exact nomatch r
  ·exact .inr (.inr ⟨hz,r⟩)
theorem Ext.of_same{H H':Hp}(h:Same H H'):Ext H H':=λa o e=>.inl (h a o e)
theorem Ext.keep{H H':Hp}(e:Ext H H'){a:Addr}{o:HO}(h:H a=some o)(n:∀z,o≠Gm a z)(nt:∀ps,o ≠ .tbl ps:=by exact λ_ q=>nomatch q):H' a=some o:=by
 rcases e a o h with q|⟨⟨z,q⟩,_⟩|⟨⟨z,q⟩,_⟩
 ·exact q
 ·exact absurd q (n z)
 ·exact absurd q (nt z)
theorem Ext.sqT{K:KW}{H H':Hp}(e:Ext H H'){a:Addr}{xs:List V}(h:TupAt K H a xs):TupAt K H' a xs:=by
 rcases h with⟨o,h,d⟩|h
 ·exact .inl ⟨o,e.keep h (λ_ q=>nomatch q),d⟩
 ·exact .inr h
theorem Ext.fzL{H H':Hp}(e:Ext H H'){a:Addr}{xs:List V}(h:FzL H a xs):FzL H' a xs:=by
 obtain⟨o,h⟩:=h;exact⟨o,e.keep h λ_ q=>nomatch q⟩
theorem Ext.fzD{H H':Hp}(e:Ext H H'){a:Addr}{xs:List (Key×V)}(h:FzD H a xs):FzD H' a xs:=by
 obtain⟨o,h⟩:=h;exact⟨o,e.keep h λ_ q=>nomatch q⟩
theorem Ext.fzK{K:KW}{H H':Hp}(e:Ext H H'){a:Addr}{xs:List (NestedKey×Addr×V)}(h:FzK K H a xs):FzK K H' a xs:=by
 obtain⟨n,o,h⟩:=h;exact⟨n,o,e.keep h λ_ q=>nomatch q⟩
theorem Ext.scrL{K:KW}{H H':Hp}(e:Ext H H'){a:Addr}{xs:List V}(h:ScrL K H a xs):ScrL K H' a xs:=by
 rcases h with h|h
 ·exact .inl (e.fzL h)
 ·exact .inr h
mutual
theorem Rep.ext{K:KW}{H H':Hp}(e:Ext H H'):∀(d:Dat) (v:V),Rep K H v d→Rep K H' v d
 | .non,v,h=>by rw[Rep]at h ⊢;exact h
 | .bl b,v,h=>by rw[Rep]at h ⊢;exact h
 | .int i,v,h=>by rw[Rep]at h ⊢;exact h
 | .str s,v,h=>by rw[Rep]at h ⊢;exact h
 | .tup l,v,h=>by
  rw[Rep]at h ⊢;obtain⟨a,vs,h1,h2,h3,h4⟩:=h;exact⟨a,vs,h1,e.sqT h2,h3,Reps.ext e l vs h4⟩
 | .lst l,v,h=>by
  rw[Rep]at h ⊢;obtain⟨a,vs,h1,h2,h3,h4⟩:=h;exact⟨a,vs,h1,e.fzL h2,h3,Reps.ext e l vs h4⟩
 | .dic l,v,h=>by
  rw[Rep]at h ⊢;obtain⟨a,vs,h1,h2,h3,h4⟩:=h;exact⟨a,vs,h1,e.fzD h2,h3,RepKv.ext e l vs h4⟩
 | .obj c l,v,h=>by
  rw[Rep]at h ⊢
  rcases h with h|⟨a,dx,fs,h0,h1,h2,h3⟩|⟨a,dx,fs,oe,h0,h1,h2,h3,h4,h5⟩
  ·exact .inl h
  ·exact .inr (.inl ⟨a,dx,fs,h0,h1,e.keep h2 (λ_ q=>nomatch q),Reps.ext e l _ h3⟩)
  ·exact .inr (.inr ⟨a,dx,fs,oe,h0,h1,e.keep h2 (λ_ q=>nomatch q),h3,e.keep h4 (λ_ q=>nomatch q),Reps.ext e l _ h5⟩)
 | .pot,v,h=>by
  rw[Rep]at h ⊢;obtain⟨a,z,h1,h2⟩:=h
  rcases e a _ h2 with q|⟨_,z',q⟩|⟨⟨_,q⟩,_⟩
  ·exact⟨a,z,h1,q⟩
  ·exact⟨a,z',h1,q⟩
  ·exact nomatch q
 | .scr l,v,h=>by
  rw[Rep]at h ⊢;obtain⟨a,h1,h2,h3⟩:=h;exact⟨a,h1,e.scrL h2,h3⟩
 | .kd l,v,h=>by
  rw[Rep]at h ⊢;obtain⟨a,xs,h1,h2,h3,h4,h5⟩:=h;exact⟨a,xs,h1,e.fzK h2,h3,h4,RepKd.ext e l xs h5⟩
theorem Reps.ext{K:KW}{H H':Hp}(e:Ext H H'):∀(ds:List Dat) (vs:List V),Reps K H vs ds→Reps K H' vs ds
 | [],[],_=>by rw[Reps];trivial
 | [],_::_,h=>by rw[Reps]at h<;>first|exact h.elim|simp_all
 | _::_,[],h=>by rw[Reps]at h<;>first|exact h.elim|simp_all
 | d::ds,v::vs,h=>by
  rw[Reps]at h ⊢;exact⟨Rep.ext e d v h.1,Reps.ext e ds vs h.2⟩
theorem RepKv.ext{K:KW}{H H':Hp}(e:Ext H H'):∀(ds:List (Dat×Dat)) (vs:List (Key×V)),RepKv K H vs ds→RepKv K H' vs ds
 | [],[],_=>by rw[RepKv];trivial
 | [],_::_,h=>by simp[RepKv]at h
 | (_,_)::_,[],h=>by simp[RepKv]at h
 | (c,d)::ds,(k,v)::vs,h=>by
  rw[RepKv]at h ⊢;exact⟨h.1,Rep.ext e d v h.2.1,RepKv.ext e ds vs h.2.2⟩
theorem RepKd.ext{K:KW}{H H':Hp}(e:Ext H H'):∀(ds:List (Dat×Dat)) (vs:List (NestedKey×Addr×V)),RepKd K H vs ds→RepKd K H' vs ds
 | [],[],_=>by rw[RepKd];trivial
 | [],_::_,h=>by simp[RepKd]at h
 | (_,_)::_,[],h=>by simp[RepKd]at h
 | (c,d)::ds,(k,b,v)::vs,h=>by
  rw[RepKd]at h ⊢;exact⟨⟨h.1.1,h.1.2.1,Rep.ext e c (.ref b) h.1.2.2⟩,Rep.ext e d v h.2.1,RepKd.ext e ds vs h.2.2⟩
end
structure PotLe[TN](m:Nat)(H:Hp):Prop where
 le:m≤Z3
 pot:∀a z,H a=some (Gm a z)→z+m≤Z3
 tab:Tbs H
theorem PotLe.mono[TN]{m n:Nat}{H:Hp}(h:PotLe n H)(le:m≤n):PotLe m H:=⟨Bo le h.1,λa z e=>by have:=h.2 a z e;omega,h.3⟩
structure Step[TN](n:Nat)(H H':Hp):Prop where
 ext:Ext H H'
 pot:∀m,PotLe (n+m) H→PotLe m H'
theorem Step.refl[TN](H:Hp):Step 0 H H:=⟨Ext.refl H,λm h=>by rwa [Fq]at h⟩
theorem Step.trans[TN]{n n':Nat}{H H1 H2:Hp}(a:Step n H H1)(b:Step n' H1 H2):Step (n+n') H H2:=
 ⟨a.ext.trans b.ext,λm h=>b.pot m (a.pot (n'+m) (by rw[← Nat.add_assoc];exact h))⟩
theorem Step.mono[TN]{n n':Nat}{H H':Hp}(a:Step n H H')(le:n≤n'):Step n' H H':=⟨a.ext,λm h=>a.pot m (h.mono (by omega))⟩
theorem Step.of_new[TN]{H H':Hp}(e:Same H H')(h:∀a z,H' a=some (Gm a z)→H a=some (Gm a z)):Step 0 H H':=
 ⟨.of_same e,λm q=>by rw[Fq]at q;exact⟨q.1,λa z x=>q.2 a z (h a z x),q.3.same e⟩⟩
theorem Step.upd[TN]{H:Hp}{p:Addr}{o:HO}(hp:H p=none)(no:∀z,o≠Gm p z):Step 0 H (upd H p o):=
 .of_new (λb x e=>by rw[upd_ne (ne_of_none e hp)];exact e) λa z h=>by
  by_cases ha:a=p
  ·subst ha;rw[upd_same]at h;exact absurd (Aj.inj h) (no z)
  ·rwa [upd_ne ha]at h
theorem Wg{X:Cx}{pins:List (Addr×Obj)}{σ:L2.St}{H:Hp}{s:Shared}{a:Addr}{u:HO}(hu:Chg u)(I:Inv X pins σ H s)(h:H a=some u):∃o,Inv X pins σ (upd H a (.frz o u)) s:=by
 obtain⟨ob,e'⟩:∃ob,s.heap.get? a=some ob:=by
  rcases hu with⟨xs,rfl⟩|⟨kvs,rfl⟩|⟨φ,rfl,_⟩
  ·obtain⟨_,_,_,_,e⟩:=I.hok a _ h
   exact⟨_,e⟩
  ·obtain⟨_,_,_,_,o,_,_,e,_⟩:=I.hok a _ h
   exact⟨o,e⟩
  ·obtain⟨_,e,_⟩:=I.hok a _ h
   exact e
 obtain⟨n1,n2,n3⟩:(∀ys,u ≠ .tup ys)∧(∀o x,u ≠ .frz o x)∧∀ps,u ≠ .tbl ps:=by
  rcases hu with⟨_,rfl⟩|⟨_,rfl⟩|⟨_,rfl,_⟩<;>exact⟨λ_ q=>(nomatch q),λ_ _ q=>(nomatch q),λ_ q=>(nomatch q)⟩
 have other:∀{b:Addr} {x:HO},H b=some x→x≠u→b≠a:=λhb ne z=>by
  subst z;rw[h]at hb;exact ne (Aj.inj hb).symm
 have un:Un X.fs [] H (upd H a (.frz ob u)) s.heap s.heap:=by
  refine⟨λb o q _ _ _=>q,λb o q _ _ _=>⟨o.slots,q⟩,λb o q nn _=>?_,λb o q _=>⟨o,q⟩,λb ys q=>?_,λb o x q=>?_,λb ps q=>⟨#[],?_⟩⟩
  ·rw[upd_ne (λz=>by subst z;rw[h]at nn;cases nn)];exact nn
  ·rw[upd_ne (other q (n1 ys).symm)];exact q
  ·rw[upd_ne (other q (n2 o x).symm)];exact q
  ·rw[upd_ne (other q (n3 ps).symm),q];simp
 refine⟨ob,I.un (h':=s.heap) (t':=s.toks) un λb x q=>?_⟩;by_cases hb:b=a
 ·subst hb
  rw[upd_same]at q;cases q
  rcases hu with⟨_,rfl⟩|⟨_,rfl⟩|⟨_,rfl,_⟩<;>exact⟨e',I.hok b _ h⟩
 ·rw[upd_ne hb]at q
  have hown:∀x,HO.own x≠u:=λx z=>by rcases hu with⟨_,rfl⟩|⟨_,rfl⟩|⟨_,rfl,_⟩<;>exact nomatch z
  exact(I.hok b x q).stay (λc v _ w=>w) (λc w=>by rw[upd_ne (other w (hown _))];exact w) λc ys w=>by rw[upd_ne (other w (n1 ys).symm)];exact w
theorem Wh{X:Cx}{pins:List (Addr×Obj)}{σ:L2.St}{H:Hp}{s:Shared}{a:Addr}{xs:List V}(I:Inv X pins σ H s)(h:H a=some (.lst xs)):∃o,Inv X pins σ (upd H a (.frz o (.lst xs))) s:=Wg (.inl ⟨_,rfl⟩) I h
mutual
theorem Rep.wr{K:KW}{H:Hp}{a:Addr}{u:HO}(hu:Chg u)(o:HO)(h0:H a=some u):∀(d:Dat) (v:V),Rep K H v d→Rep K (L2.upd H a o) v d
 | .non,v,h=>by rw[Rep]at h ⊢;exact h
 | .bl b,v,h=>by rw[Rep]at h ⊢;exact h
 | .int i,v,h=>by rw[Rep]at h ⊢;exact h
 | .str s,v,h=>by rw[Rep]at h ⊢;exact h
 | .tup l,v,h=>by
  rw[Rep]at h ⊢;obtain⟨b,vs,h1,h2,h3,h4⟩:=h;refine⟨b,vs,h1,?_,h3,Reps.wr hu o h0 l vs h4⟩
  rcases h2 with⟨ob,h2,d⟩|h2
  ·exact .inl ⟨ob,by rw[upd_ne (λz=>by subst z;rw[h0]at h2;cases h2;exact hu.frz)];exact h2,d⟩
  ·exact .inr h2
 | .lst l,v,h=>by
  rw[Rep]at h ⊢;obtain⟨b,vs,h1,⟨ob,h2⟩,h3,h4⟩:=h;exact⟨b,vs,h1,⟨ob,by rw[upd_ne (λz=>by subst z;rw[h0]at h2;cases h2;exact hu.frz)];exact h2⟩,h3,Reps.wr hu o h0 l vs h4⟩
 | .dic l,v,h=>by
  rw[Rep]at h ⊢;obtain⟨b,vs,h1,⟨ob,h2⟩,h3,h4⟩:=h;exact⟨b,vs,h1,⟨ob,by rw[upd_ne (λz=>by subst z;rw[h0]at h2;cases h2;exact hu.frz)];exact h2⟩,h3,RepKv.wr hu o h0 l vs h4⟩
 | .obj c l,v,h=>by
  rw[Rep]at h ⊢
  rcases h with h|⟨b,dx,fs,hl,h1,h2,h3⟩|⟨b,dx,fs,oe,hl,h1,h2,h3,h4,h5⟩
  ·exact .inl h
  ·exact .inr (.inl ⟨b,dx,fs,hl,h1,by rw[upd_ne (λz=>by subst z;rw[h0]at h2;cases h2;exact hu.ins)];exact h2,Reps.wr hu o h0 l _ h3⟩)
  ·exact .inr (.inr ⟨b,dx,fs,oe,hl,h1,by rw[upd_ne (λz=>by subst z;rw[h0]at h2;cases h2;exact hu.frz)];exact h2,h3,by rw[upd_ne (λz=>by subst z;rw[h0]at h4;cases h4;exact hu.xd)];exact h4,Reps.wr hu o h0 l _ h5⟩)
 | .pot,v,h=>by
  rw[Rep]at h ⊢;obtain⟨b,z,h1,h2⟩:=h;exact⟨b,z,h1,by rw[upd_ne (λz=>by subst z;rw[h0]at h2;cases h2;exact hu.pot)];exact h2⟩
 | .scr l,v,h=>by
  rw[Rep]at h ⊢;obtain⟨b,h1,h2,h3⟩:=h;refine⟨b,h1,?_,h3⟩
  rcases h2 with⟨ob,h2⟩|h2
  ·exact .inl ⟨ob,by rw[upd_ne (λz=>by subst z;rw[h0]at h2;cases h2;exact hu.frz)];exact h2⟩
  ·exact .inr h2
 | .kd l,v,h=>by
  rw[Rep]at h ⊢;obtain⟨b,xs,h1,⟨n,ob,h2⟩,h3,h4,h5⟩:=h;exact⟨b,xs,h1,⟨n,ob,by rw[upd_ne (λz=>by subst z;rw[h0]at h2;cases h2;exact hu.frz)];exact h2⟩,h3,h4,RepKd.wr hu o h0 l xs h5⟩
theorem Reps.wr{K:KW}{H:Hp}{a:Addr}{u:HO}(hu:Chg u)(o:HO)(h0:H a=some u):∀(ds:List Dat) (vs:List V),Reps K H vs ds→Reps K (L2.upd H a o) vs ds
 | [],[],_=>by rw[Reps];trivial
 | [],_::_,h=>by simp[Reps]at h
 | _::_,[],h=>by simp[Reps]at h
 | d::ds,v::vs,h=>by
  rw[Reps]at h ⊢;exact⟨Rep.wr hu o h0 d v h.1,Reps.wr hu o h0 ds vs h.2⟩
theorem RepKv.wr{K:KW}{H:Hp}{a:Addr}{u:HO}(hu:Chg u)(o:HO)(h0:H a=some u):∀(ds:List (Dat×Dat)) (vs:List (Key×V)),RepKv K H vs ds→RepKv K (L2.upd H a o) vs ds
 | [],[],_=>by rw[RepKv];trivial
 | [],_::_,h=>by simp[RepKv]at h
 | (_,_)::_,[],h=>by simp[RepKv]at h
 | (c,d)::ds,(k,v)::vs,h=>by
  rw[RepKv]at h ⊢;exact⟨h.1,Rep.wr hu o h0 d v h.2.1,RepKv.wr hu o h0 ds vs h.2.2⟩
theorem RepKd.wr{K:KW}{H:Hp}{a:Addr}{u:HO}(hu:Chg u)(o:HO)(h0:H a=some u):∀(ds:List (Dat×Dat)) (vs:List (NestedKey×Addr×V)),RepKd K H vs ds→RepKd K (L2.upd H a o) vs ds
 | [],[],_=>by rw[RepKd];trivial
 | [],_::_,h=>by simp[RepKd]at h
 | (_,_)::_,[],h=>by simp[RepKd]at h
 | (c,d)::ds,(k,b,v)::vs,h=>by
  rw[RepKd]at h ⊢;exact⟨⟨h.1.1,h.1.2.1,Rep.wr hu o h0 c (.ref b) h.1.2.2⟩,Rep.wr hu o h0 d v h.2.1,RepKd.wr hu o h0 ds vs h.2.2⟩
end
def Own(K:KW)(H:Hp)(a:Addr):Dat→Prop
 | .lst l=>∃vs,H a=some (.lst vs)∧l.length≤sizeLine∧Reps K H vs l
 | .dic l=>∃kvs,H a=some (.dK kvs)∧l.length≤sizeLine∧RepKv K H kvs l
 | .kd l=>∃xs,((a == sysModules)=false∧H a=some (kdO K a xs))∧l.length≤sizeLine∧(xs.map (·.1)).Nodup∧RepKd K H xs l
 | _=>False
def BRep(K:KW)(H:Hp)(v:V)(d:Dat):Prop:=Rep K H v d∨∃a,v = .ref a∧Own K H a d
theorem Own.ext{K:KW}{H H':Hp}(e:Ext H H'){a:Addr}{d:Dat}(h:Own K H a d):Own K H' a d:=by
 cases d with
 | lst l=>
  obtain⟨vs,h1,h2,h3⟩:=h;exact⟨vs,e.keep h1 λ_ q=>(nomatch q),h2,Reps.ext e l vs h3⟩
 | dic l=>
  obtain⟨vs,h1,h2,h3⟩:=h;exact⟨vs,e.keep h1 λ_ q=>(nomatch q),h2,RepKv.ext e l vs h3⟩
 | kd l=>
  obtain⟨xs,h1,h2,h3,h4⟩:=h;exact⟨xs,⟨h1.1,e.keep h1.2 λ_ q=>Ajx h3 q⟩,h2,h3,RepKd.ext e l xs h4⟩
 | _=>exact h.elim
theorem BRep.ext{K:KW}{H H':Hp}(e:Ext H H'){v:V}{d:Dat}(h:BRep K H v d):BRep K H' v d:=by
 rcases h with h|⟨a,h1,h2⟩
 ·exact .inl (Rep.ext e d v h)
 ·exact .inr ⟨a,h1,h2.ext e⟩
def OwnS(K:KW)(H:Hp)(a:Addr):Dat→Prop
 | .obj b [d]=>a=b∧Own K H a d
 | d=>Own K H a d
theorem Own.s{K:KW}{H:Hp}{a:Addr}{d:Dat}(h:Own K H a d):OwnS K H a d:=by
 cases d<;>first|exact h|exact h.elim
theorem OwnS.box{K:KW}{H:Hp}{a:Addr}{d:Dat}(h:OwnS K H a d):∃d',Own K H a d':=by
 unfold OwnS at h
 split at h
 ·exact⟨_,h.2⟩
 ·exact⟨_,h⟩
theorem OwnS.imp{K:KW}{H H':Hp}{a:Addr}{d:Dat}(f:∀d,Own K H a d→Own K H' a d)(h:OwnS K H a d):OwnS K H' a d:=by
 unfold OwnS at h
 split at h
 ·exact⟨h.1,f _ h.2⟩
 ·exact(f _ h).s
theorem OwnS.plain{K:KW}{H:Hp}{a:Addr}{d:Dat}(no:∀c l,d ≠ .obj c l)(h:OwnS K H a d):Own K H a d:=by
 unfold OwnS at h
 split at h
 ·exact absurd rfl (no _ _)
 ·exact h
def SlotRep(K:KW)(H:Hp):Option (Option V)→Slot→Prop
 | _,.no=>True
 | some (some v),.val d=>Rep K H v d
 | some (some v),.own d=>∃a,v = .ref a∧OwnS K H a d
 | _,_=>False
def EnvRep(K:KW)(σ:L2.St)(H:Hp)(δ:Env):Prop:=σ.length=δ.length∧∀(i:Nat) (s:Slot),δ[i]? = some s→SlotRep K H σ[i]? s
theorem SlotRep.ext{K:KW}{H H':Hp}(e:Ext H H'):∀{x:Option (Option V)} {s:Slot},SlotRep K H x s→SlotRep K H' x s:=by
 intro x s h
 cases s with
 | no=>trivial
 | val d=>
  match x,h with
  | some (some v),h=>exact Rep.ext e d v h
 | own d=>
  match x,h with
  | some (some v),⟨a,h1,h2⟩=>exact⟨a,h1,h2.imp λd q=>q.ext e⟩
theorem EnvRep.ext{K:KW}{σ:L2.St}{H H':Hp}{δ:Env}(e:Ext H H')(h:EnvRep K σ H δ):EnvRep K σ H' δ:=⟨h.1,λi s q=>(h.2 i s q).ext e⟩
def Bj{α:Type}(f:(α→Prop)→Prop):Prop:=∀P Q:α→Prop,(∀d,P d→Q d)→f P→f Q
theorem Xm(o:O2)(x y:Dat):Bj (Jm o x y):=by
 intro P Q h hp;unfold Jm at *
 split at hp<;>first|exact h _ hp|exact⟨hp.1,h _ hp.2⟩|exact hp.elim
theorem Abd(x y:Dat):Bj (inW x y):=by
 intro P Q h hp;unfold inW at *
 split at hp
 ·exact⟨hp.1,hp.2.1,h _ hp.2.2⟩
 ·exact⟨hp.1,hp.2.1,h _ hp.2.2⟩
 ·split at hp
  ·exact h _ hp
  ·exact hp.elim
 ·exact⟨hp.1,h _ hp.2⟩
 ·split at hp
  ·exact h _ hp
  ·exact hp.elim
 ·exact hp.elim
theorem Gq(o:C2)(x y:Dat):Bj (Ij o x y):=by
 intro P Q h hp;unfold Ij at *
 split at hp
 ·exact⟨hp.1,hp.2.1,h _ hp.2.2⟩
 ·exact⟨hp.1,hp.2.1,h _ hp.2.2⟩
 ·exact⟨hp.1,h _ hp.2⟩
 ·exact⟨hp.1,h _ hp.2⟩
 ·exact⟨hp.1,h _ hp.2⟩
 ·exact⟨hp.1,h _ hp.2⟩
 ·exact Abd _ _ _ _ h hp
 ·exact Abd _ _ _ _ (λb=>h (!b)) hp
 ·obtain⟨e,l,q1,q2⟩:=hp
  exact⟨e,l,q1,h _ q2⟩
 ·obtain⟨e,l,q1,q2⟩:=hp
  exact⟨e,l,q1,h _ q2⟩
 ·exact⟨hp.1,hp.2.1,h _ hp.2.2⟩
 ·exact⟨hp.1,hp.2.1,h _ hp.2.2⟩
theorem Cj(d:Dat):Bj (Bs d):=by
 intro P Q h hp;unfold Bs at *
 split at hp
 ·exact h _ hp
 ·exact hp.elim
theorem Wc(b:B1)(l:List Dat):Bj (biW b l):=by
 intro P Q h hp
 cases b<;>simp only[biW]at hp ⊢
 all_goals first
  | exact hp.elim
  | (unfold Rz at *;split at hp<;>first|exact h _ hp|exact hp.elim)
  | (unfold Adp at *;split at hp<;>first|exact h _ hp|exact hp.elim)
  | (unfold Ada at *;split at hp<;>first|exact h _ hp|exact hp.elim|(obtain⟨ns,e,l,q⟩:=hp;exact⟨ns,e,l,λm a b=>h _ (q m a b)⟩))
  | (unfold Ac8 at *;split at hp<;>first|exact h _ hp|exact hp.elim|(obtain⟨ns,e,l,q⟩:=hp;exact⟨ns,e,l,λm a b=>h _ (q m a b)⟩))
  | (unfold Jl at *;split at hp<;>first|exact h _ hp|exact hp.elim)
  | (unfold Xr at *;split at hp<;>first|exact h _ hp|exact hp.elim)
  | (unfold Adf at *;split at hp<;>first|exact h _ hp|exact hp.elim)
  | (unfold Aan at *;split at hp<;>first|exact⟨hp.1,h _ hp.2⟩|exact hp.elim)
  | (unfold Acn at *;split at hp<;>first|exact⟨hp.1,h _ hp.2⟩|exact hp.elim)
  | (unfold Ru at *;split at hp<;>first|exact⟨hp.1,h _ hp.2⟩|exact hp.elim)
  | (unfold Afm at *;split at hp<;>first|exact⟨hp.1,h _ hp.2⟩|exact hp.elim)
  | (unfold Qy at *;split at hp<;>first|exact⟨hp.1,hp.2.1,h _ hp.2.2⟩|exact⟨hp.1,h _ hp.2⟩|exact hp.elim)
  | (unfold Zu at *;split at hp<;>first|(obtain⟨bs,q1,q2⟩:=hp;exact⟨bs,q1,h _ q2⟩)|exact hp.elim)
  | (unfold Aru at *;split at hp<;>first|(obtain⟨bs,q1,q2⟩:=hp;exact⟨bs,q1,h _ q2⟩)|exact hp.elim)
theorem Aa3(m:M1)(o:Dat)(l:List Dat):Bj (meW m o l):=by
 intro P Q h hp
 cases m<;>simp only[meW]at hp ⊢
 all_goals first
  | exact hp.elim
  | (unfold R8 at *;split at hp<;>first|(obtain⟨q1,q2,q3,q4⟩:=hp;exact⟨q1,q2,q3,h _ q4⟩)|exact hp.elim)
  | (unfold Zm at *;split at hp<;>first|(obtain⟨q1,q2,q3⟩:=hp;exact⟨q1,q2,h _ q3⟩)|exact hp.elim)
  | (unfold Aep at *;split at hp<;>first|(obtain⟨l,q1,q2,q3⟩:=hp;exact⟨l,q1,q2,h _ q3⟩)|exact hp.elim)
  | (unfold N6 at *;split at hp<;>first|exact⟨hp.1,h _ hp.2⟩|exact hp.elim)
  | (unfold Zd at *;split at hp<;>first|exact h _ hp|exact hp.elim)
  | (unfold U6 at *;split at hp<;>first|exact⟨hp.1,h _ hp.2⟩|exact hp.elim)
  | (unfold Abf at *;split at hp<;>first|exact h _ hp|exact hp.elim)
  | (unfold Ys at *;split at hp<;>first|exact⟨hp.1,h _ hp.2⟩|exact hp.elim)
  | (unfold Mg at *;split at hp<;>first|exact⟨hp.1,h _ hp.2⟩|exact hp.elim)
  | (unfold Uq at *;split at hp<;>first|exact h _ hp|exact hp.elim)
theorem Agc(x:Dat):Bj (Y9 x):=by
 intro P Q h hp;unfold Y9 at *
 split at hp
 ·exact h _ hp
 ·exact hp.elim
theorem Aap(x:Dat):Bj (Gz x):=by
 intro P Q h hp;unfold Gz at *
 split at hp
 ·exact⟨hp.1,h _ hp.2⟩
 ·exact hp.elim
theorem V3{α:Type}{f:α→(List Dat→Prop)→Prop}(hf:∀x,Bj (f x)):∀(l:List α),Bj (Ii f l)
 | []=>λP Q h hp=>by rw[Ii]at *;exact h _ hp
 | x::xs=>λP Q h hp=>by
  rw[Ii]at *;exact hf x _ _ (λzs=>V3 hf xs _ _ λys=>h _) hp
theorem Xz(x i:Dat):Bj (Jx x i):=by
 intro P Q h hp;unfold Jx at *
 split at hp
 all_goals first
  | exact hp.elim
  | (obtain⟨l,q1,q2⟩:=hp;exact⟨l,q1,h _ q2⟩)
  | (obtain⟨q0,l,q1,q2⟩:=hp;exact⟨q0,l,q1,h _ q2⟩)
theorem Aag(x l r:Dat):Bj (Hg x l r):=by
 intro P Q h hp;unfold Hg at *;dsimp only at *
 split at hp
 all_goals first
  | exact hp.elim
  | (split at hp<;>first|exact h _ hp|exact hp.elim)
theorem Agq(δ:Env)(i:Nat):Bj (Du δ i):=by
 intro P Q h hp;unfold Du at *
 split at hp
 ·exact h _ hp
 ·exact hp.elim
theorem Ht(δ:Env)(i:Nat):Bj (Dy δ i):=by
 intro P Q h hp;unfold Dy at *
 split at hp
 ·exact h _ hp
 ·exact hp.elim
mutual
theorem Eu:∀(p:P) (d:Dat) (δ:Env),Bj (Cz p d δ)
 | .v i,d,δ=>λP Q h hp=>by rw[Cz]at *;exact h _ hp
 | .t ps,d,δ=>λP Q h hp=>by
  cases d with
  | tup ds=>rw[Cz]at *;exact bindPs_mono ps ds δ P Q h hp
  | _=>rw[Cz]at hp<;>first|exact hp.elim|(intro _ _ z;cases z)
theorem bindPs_mono:∀(ps:List P) (ds:List Dat) (δ:Env),Bj (bindPs ps ds δ)
 | [],[],δ=>λP Q h hp=>by rw[bindPs]at *;exact h _ hp
 | [],_::_,δ=>λP Q h hp=>by simp[bindPs]at hp
 | _::_,[],δ=>λP Q h hp=>by simp[bindPs]at hp
 | p::ps,d::ds,δ=>λP Q h hp=>by
  rw[bindPs]at *;exact Eu p d δ _ _ (λδ'=>bindPs_mono ps ds δ' P Q h) hp
end
theorem Ip{α:Type}{f:α→(Option Dat→Prop)→Prop}(hf:∀x,Bj (f x)):∀(l:List α),Bj (Ff f l)
 | []=>λP Q h hp=>by rw[Ff]at *;exact h _ hp
 | x::xs=>λP Q h hp=>by
  rw[Ff]at *;exact hf x _ _ (λo=>Ip hf xs _ _ λys=>h _) hp
end SF
namespace SF
open PySem PySem.Spec PyProof.Rows L2
section
variable{C:Nat→List Dat→(Dat→Prop)→Prop}{G:Nat→Option Dat}
mutual
theorem Ah(hC:∀f ds,Bj (C f ds)):∀(e:E) (m:M) (δ:Env),Bj (ev C G e m δ)
 | .var i,m,δ=>λP Q h hp=>by rw[ev]at *;exact Agq δ i _ _ h hp
 | .obs i,m,δ=>λP Q h hp=>by
  cases m with
  | v=>simp only[ev]at hp
  | b=>simp only[ev]at hp ⊢;exact Ht δ i _ _ h hp
  | i=>simp only[ev]at hp ⊢;exact Ht δ i _ _ h hp
 | .glob i,m,δ=>λP Q h hp=>by
  rw[ev]at *
  split at hp
  ·exact h _ hp
  ·exact hp.elim
 | .non,m,δ=>λP Q h hp=>by rw[ev]at *;exact h _ hp
 | .bl b,m,δ=>λP Q h hp=>by rw[ev]at *;exact h _ hp
 | .int b,m,δ=>λP Q h hp=>by rw[ev]at *;exact h _ hp
 | .str b,m,δ=>λP Q h hp=>by rw[ev]at *;exact h _ hp
 | .op2 o a b,m,δ=>λP Q h hp=>by
  rw[ev]at *;exact Ah hC a .b δ _ _ (λx=>Ah hC b .b δ _ _ λy=>Xm o x y _ _ h) hp
 | .neg a,m,δ=>λP Q h hp=>by
  rw[ev]at *;exact Ah hC a .v δ _ _ (λx=>Agc x _ _ h) hp
 | .cmp o a b,m,δ=>λP Q h hp=>by
  rw[ev]at *;exact Ah hC a .b δ _ _ (λx=>Ah hC b .b δ _ _ λy=>Gq o x y _ _ λb=>h _) hp
 | .chain o o' a b c,m,δ=>λP Q h hp=>by
  rw[ev]at *;refine Ah hC a .b δ _ _ (λx=>Ah hC b .b δ _ _ λy=>Gq o x y _ _ λk hk=>?_) hp
  split at hk
  ·rename_i hkk
   rw[if_pos hkk];exact Ah hC c .b δ _ _ (λz=>Gq o' y z _ _ λk'=>h _) hk
  ·rename_i hkk
   rw[if_neg hkk];exact h _ hk
 | .isN a,m,δ=>λP Q h hp=>by
  rw[ev]at *;exact Ah hC a .v δ _ _ (λx=>h _) hp
 | .notN a,m,δ=>λP Q h hp=>by
  rw[ev]at *;exact Ah hC a .v δ _ _ (λx=>h _) hp
 | .and a b,m,δ=>λP Q h hp=>by
  rw[ev]at *;refine Ah hC a .v δ _ _ (λx=>Cj x _ _ λk hk=>?_) hp
  split at hk
  ·rename_i hkk
   rw[if_pos hkk];exact Ah hC b .v δ _ _ h hk
  ·rename_i hkk
   rw[if_neg hkk];exact h _ hk
 | .or a b,m,δ=>λP Q h hp=>by
  rw[ev]at *;refine Ah hC a .v δ _ _ (λx=>Cj x _ _ λk hk=>?_) hp
  split at hk
  ·rename_i hkk
   rw[if_pos hkk];exact h _ hk
  ·rename_i hkk
   rw[if_neg hkk];exact Ah hC b .v δ _ _ h hk
 | .not a,m,δ=>λP Q h hp=>by
  rw[ev]at *;exact Ah hC a .v δ _ _ (λx=>Cj x _ _ λk=>h _) hp
 | .ite c a b,m,δ=>λP Q h hp=>by
  rw[ev]at *;refine Ah hC c .v δ _ _ (λx=>Cj x _ _ λk hk=>?_) hp
  split at hk
  ·rename_i hkk
   rw[if_pos hkk];exact Ah hC a .v δ _ _ h hk
  ·rename_i hkk
   rw[if_neg hkk];exact Ah hC b .v δ _ _ h hk
 | .tup l,m,δ=>λP Q h hp=>by
  rw[ev]at *;exact evs_mono hC l .v δ _ _ (λx=>h _) hp
 | .lst l,m,δ=>λP Q h hp=>by
  rw[ev]at *;exact evs_mono hC l .v δ _ _ (λx=>h _) hp
 | .idx a i,m,δ=>λP Q h hp=>by
  rw[ev]at *;exact Ah hC a .b δ _ _ (λx=>Ah hC i .v δ _ _ λy=>Xz x y _ _ h) hp
 | .slc a l r,m,δ=>λP Q h hp=>by
  rw[ev]at *;exact Ah hC a .b δ _ _ (λx=>Ah hC l .v δ _ _ λy=>Ah hC r .v δ _ _ λz=>Aag x y z _ _ h) hp
 | .bi b l,m,δ=>λP Q h hp=>by
  rw[ev]at *;exact evs_mono hC l .b δ _ _ (λds=>Wc b ds _ _ h) hp
 | .isi a t,m,δ=>λP Q h hp=>by
  rw[ev]at *;exact Ah hC a .v δ _ _ (λx hx=>⟨hx.1,h _ hx.2⟩) hp
 | .me mm o l,m,δ=>λP Q h hp=>by
  rw[ev]at *;exact Ah hC o .b δ _ _ (λx q=>⟨q.1,evs_mono hC l .b δ _ _ (λds=>Aa3 mm x ds _ _ h) q.2⟩) hp
 | .call f l kl sh,m,δ=>λP Q h hp=>by
  rw[ev]at *;exact evs_mono hC l .v δ _ _ (λds=>evs_mono hC kl .v δ _ _ λks hk=>hC _ _ _ _ h hk) hp
 | .comp own p it c e,m,δ=>λP Q h hp=>by
  rw[ev]at *;refine Ah hC it .i δ _ _ (λx ⟨ds,hd,hm⟩=>⟨ds,hd,Ip (λd P Q h hp=>?_) ds _ _ (λys=>h _) hm⟩) hp;refine Eu p d _ _ _ (λδ'=>Ah hC c .v δ' _ _ λb=>Cj b _ _ λk hk=>?_) hp
  split at hk
  ·rename_i hkk
   rw[if_pos hkk];exact Ah hC e .v δ' _ _ (λy=>h _) hk
  ·rename_i hkk
   rw[if_neg hkk];exact h _ hk
 | .new c l,m,δ=>λP Q h hp=>by
  rw[ev]at *;obtain⟨p,ns,q1,hp⟩:=hp;exact⟨p,ns,q1,evs_mono hC l .v δ _ _ (λds ⟨q2,q3⟩=>⟨q2,h _ q3⟩) hp⟩
 | .fld c i a,m,δ=>λP Q h hp=>by
  rw[ev]at *;obtain⟨p,ns,q1,hp⟩:=hp;exact⟨p,ns,q1,Ah hC a .v δ _ _ (λx ⟨vs,y,q2,q3,q4,q5⟩=>⟨vs,y,q2,q3,q4,h _ q5⟩) hp⟩
 | .meth c f a l,m,δ=>λP Q h hp=>by
  rw[ev]at *;obtain⟨p,ns,q1,hp⟩:=hp;exact⟨p,ns,q1,Ah hC a .v δ _ _ (λx q=>⟨q.1,evs_mono hC l .v δ _ _ (λds q=>hC f _ _ _ h q) q.2⟩) hp⟩
 | .sset a,m,δ=>λP Q h hp=>by
  rw[ev]at *;exact Ah hC a .b δ _ _ (λx ⟨l,q1,q2,q3⟩=>⟨l,q1,q2,h _ q3⟩) hp
 | .scomp own p it c e,m,δ=>λP Q h hp=>by
  rw[ev]at *;refine Ah hC it .i δ _ _ (λx ⟨ds,hd,hz,hm⟩=>⟨ds,hd,hz,Ip (λd P Q h hp=>?_) ds _ _ (λys ⟨l,q1,q2⟩=>⟨l,q1,h _ q2⟩) hm⟩) hp;refine Eu p d _ _ _ (λδ'=>Ah hC c .v δ' _ _ λb=>Cj b _ _ λk hk=>?_) hp
  split at hk
  ·rename_i hkk
   rw[if_pos hkk];exact Ah hC e .v δ' _ _ (λy ⟨t,q1,q2⟩=>⟨t,q1,h _ q2⟩) hk
  ·rename_i hkk
   rw[if_neg hkk];exact h _ hk
 | .ssetN a,m,δ=>λP Q h hp=>by
  rw[ev]at *;exact Ah hC a .b δ _ _ (λx ⟨l,q1,q2,q3,q4⟩=>⟨l,q1,q2,q3,h _ q4⟩) hp
 | .scompN own p it c e,m,δ=>λP Q h hp=>by
  rw[ev]at *;refine Ah hC it .i δ _ _ (λx ⟨ds,hd,hz,hm⟩=>⟨ds,hd,hz,Ip (λd P Q h hp=>?_) ds _ _ (λys ⟨q1,q2⟩=>⟨q1,h _ q2⟩) hm⟩) hp;refine Eu p d _ _ _ (λδ'=>Ah hC c .v δ' _ _ λb=>Cj b _ _ λk hk=>?_) hp
  split at hk
  ·rename_i hkk
   rw[if_pos hkk];exact Ah hC e .v δ' _ _ (λy ⟨q1,q2⟩=>⟨q1,h _ q2⟩) hk
  ·rename_i hkk
   rw[if_neg hkk];exact h _ hk
 | .zip a b,m,δ=>λP Q h hp=>by
  cases m with
  | v=>simp only[ev]at hp
  | b=>simp only[ev]at hp
  | i=>
   simp only[ev]at hp ⊢;exact Ah hC a .b δ _ _ (λx=>Ah hC b .b δ _ _ λy ⟨l,r,q1,q3⟩=>⟨l,r,q1,h _ q3⟩) hp
 | .enum a,m,δ=>λP Q h hp=>by
  cases m with
  | v=>simp only[ev]at hp
  | b=>simp only[ev]at hp
  | i=>
   simp only[ev]at hp ⊢;exact Ah hC a .b δ _ _ (λx ⟨l,q1,q2⟩=>⟨l,q1,h _ q2⟩) hp
 | .range a,m,δ=>λP Q h hp=>by
  cases m with
  | v=>simp only[ev]at hp
  | b=>simp only[ev]at hp
  | i=>
   simp only[ev]at hp ⊢;exact Ah hC a .v δ _ _ (λx=>Aap x _ _ h) hp
 | .comp2 own p it c p1 it1 c1 e,m,δ=>λP Q h hp=>by
  rw[ev]at *;refine Ah hC it .i δ _ _ (λx ⟨ds,B,hd,hB,hm⟩=>⟨ds,B,hd,hB,V3 (λd P Q h hp=>?_) ds _ _ (λys=>h _) hm⟩) hp;refine Eu p d _ _ _ (λδ'=>Ah hC c .v δ' _ _ λb=>Cj b _ _ λk hk=>?_) hp
  split at hk
  ·rename_i hkk
   rw[if_pos hkk];refine Ah hC it1 .i δ' _ _ (λx ⟨ds,hd,hB,hm⟩=>⟨ds,hd,hB,Ip (λd P Q h hp=>?_) ds _ _ (λys=>h _) hm⟩) hk;refine Eu p1 d _ _ _ (λδ''=>Ah hC c1 .v δ'' _ _ λb=>Cj b _ _ λk hk=>?_) hp
   split at hk
   ·rename_i hkk
    rw[if_pos hkk];exact Ah hC e .v δ'' _ _ (λy=>h _) hk
   ·rename_i hkk
    rw[if_neg hkk];exact h _ hk
  ·rename_i hkk
   rw[if_neg hkk];exact h _ hk
 | .isB ng a b,m,δ=>λP Q h hp=>by
  rw[ev]at *;exact Ah hC a .v δ _ _ (λx=>Cj x _ _ λk=>h _) hp
theorem evs_mono(hC:∀f ds,Bj (C f ds)):∀(l:List E) (m:M) (δ:Env),Bj (evs C G l m δ)
 | [],m,δ=>λP Q h hp=>by rw[evs]at *;exact h _ hp
 | e::r,m,δ=>λP Q h hp=>by
  rw[evs]at *;exact Ah hC e m δ _ _ (λd=>evs_mono hC r m δ _ _ λds=>h _) hp
end
structure Post.Le(D D':Post):Prop where
 nx:∀ δ,D.nx δ→D'.nx δ
 rt:∀ δ d,D.rt δ d→D'.rt δ d
 bk:∀ δ,D.bk δ→D'.bk δ
 ct:∀ δ,D.ct δ→D'.ct δ
 ex:∀ δ d,D.ex δ d→D'.ex δ d
theorem R9{p:P}{b:Env→Post→Prop}(hb:∀ δ D D',D.Le D'→b δ D→b δ D'):∀(ds:List Dat) (δ:Env) (D D':Post),D.Le D'→G5 p b ds δ D→G5 p b ds δ D'
 | [],δ,D,D',h,hp=>by rw[G5]at *;exact h.nx _ hp
 | d::ds,δ,D,D',h,hp=>by
  rw[G5]at *;refine Eu p d δ _ _ (λδ' hq=>?_) hp;refine hb δ' _ _ ?_ hq;exact⟨λδ''=>R9 hb ds δ'' D D' h,h.rt,h.nx,λδ''=>R9 hb ds δ'' D D' h,h.ex⟩
theorem Ro{c:Env→(Bool→Prop)→Prop}{b:Env→Post→Prop}(hc:∀ δ,Bj (c δ))(hb:∀ δ D D',D.Le D'→b δ D→b δ D'):∀(n:Nat) (δ:Env) (D D':Post),D.Le D'→Nq c b n δ D→Nq c b n δ D'
 | 0,_,_,_,_,hp=>by rw[Nq]at hp;exact hp.elim
 | n+1,δ,D,D',h,hp=>by
  rw[Nq]at *;refine hc δ _ _ (λk hk=>?_) hp
  split at hk
  ·rename_i hkk
   rw[if_pos hkk];refine hb δ _ _ ?_ hk;exact⟨λδ''=>Ro hc hb n δ'' D D' h,h.rt,h.nx,λδ''=>Ro hc hb n δ'' D D' h,h.ex⟩
  ·rename_i hkk
   rw[if_neg hkk];exact h.nx _ hk
mutual
theorem X6(hC:∀f ds,Bj (C f ds)):∀(s:S) (δ:Env) (D D':Post),D.Le D'→exec C G s δ D→exec C G s δ D'
 | .dead,δ,D,D',h,hp=>by rw[exec]at hp;exact hp.elim
 | .set i e,δ,D,D',h,hp=>by rw[exec]at *;exact Ah hC e .v δ _ _ (λd=>h.nx _) hp
 | .own i e,δ,D,D',h,hp=>by rw[exec]at *;exact Ah hC e .v δ _ _ (λd hd=>⟨hd.1,h.nx _ hd.2⟩) hp
 | .unp p e,δ,D,D',h,hp=>by rw[exec]at *;exact Ah hC e .v δ _ _ (λd=>Eu p d δ _ _ h.nx) hp
 | .par os is es,δ,D,D',h,hp=>by rw[exec]at *;exact evs_mono hC es .v δ _ _ (λds hd=>⟨hd.1,h.nx _ hd.2⟩) hp
 | .frz i,δ,D,D',h,hp=>by rw[exec]at *;exact Ht δ i _ _ (λd=>h.nx _) hp
 | .app i e,δ,D,D',h,hp=>by
  rw[exec]at *;exact Ht δ i _ _ (λx ⟨l,q1,q2⟩=>⟨l,q1,Ah hC e .v δ _ _ (λd q=>⟨q.1,h.nx _ q.2⟩) q2⟩) hp
 | .ext i e,δ,D,D',h,hp=>by
  rw[exec]at *;exact Ht δ i _ _ (λx ⟨l,q1,q2⟩=>⟨l,q1,Ah hC e .b δ _ _ (λd ⟨r,q3,q4,q5⟩=>⟨r,q3,q4,h.nx _ q5⟩) q2⟩) hp
 | .pop i e,δ,D,D',h,hp=>by
  rw[exec]at *;exact Ht δ i _ _ (λx ⟨l,q1,q2⟩=>⟨l,q1,Ah hC e .v δ _ _ (λd ⟨j,r,q3,q4,q5⟩=>⟨j,r,q3,q4,h.nx _ q5⟩) q2⟩) hp
 | .ins i ix e,δ,D,D',h,hp=>by
  rw[exec]at *;exact Ht δ i _ _ (λx ⟨l,q1,q2⟩=>⟨l,q1,Ah hC ix .v δ _ _ (λk q3=>Ah hC e .v δ _ _ (λd ⟨j,a,b,c,f,q4⟩=>⟨j,a,b,c,f,h.nx _ q4⟩) q3) q2⟩) hp
 | .sto i ix e,δ,D,D',h,hp=>by
  rw[exec]at *;exact Ah hC e .v δ _ _ (λd=>Ht δ i _ _ λx ⟨l,q1,q2⟩=>⟨l,q1,Ah hC ix .v δ _ _ (λk ⟨j,r,q3,q4,q5⟩=>⟨j,r,q3,q4,h.nx _ q5⟩) q2⟩) hp
 | .exp e,δ,D,D',h,hp=>by rw[exec]at *;exact Ah hC e .v δ _ _ (λd=>h.nx _) hp
 | .ret e,δ,D,D',h,hp=>by rw[exec]at *;exact Ah hC e .v δ _ _ (h.rt δ) hp
 | .retN,δ,D,D',h,hp=>by rw[exec]at *;exact h.rt _ _ hp
 | .pass,δ,D,D',h,hp=>by rw[exec]at *;exact h.nx _ hp
 | .ite c a b,δ,D,D',h,hp=>by
  rw[exec]at *;refine Ah hC c .v δ _ _ (λx=>Cj x _ _ λk hk=>?_) hp
  split at hk
  ·rename_i hkk
   rw[if_pos hkk];exact execs_mono hC a δ D D' h hk
  ·rename_i hkk
   rw[if_neg hkk];exact execs_mono hC b δ D D' h hk
 | .for p it b,δ,D,D',h,hp=>by
  rw[exec]at *;exact Ah hC it .i δ _ _ (λx ⟨ds,hd,hf⟩=>⟨ds,hd,R9 (λδ' D1 D2 h'=>execs_mono hC b δ' D1 D2 h') ds δ D D' h hf⟩) hp
 | .whl c b,δ,D,D',h,hp=>by
  rw[exec]at *;obtain⟨n,hn,hw⟩:=hp;exact⟨n,hn,Ro (λδ' P Q h' hp'=>Ah hC c .v δ' _ _ (λx=>Cj x _ _ h') hp') (λδ' D1 D2 h'=>execs_mono hC b δ' D1 D2 h') n δ D D' h hw⟩
theorem execs_mono(hC:∀f ds,Bj (C f ds)):∀(l:List S) (δ:Env) (D D':Post),D.Le D'→execs C G l δ D→execs C G l δ D'
 | [],δ,D,D',h,hp=>by rw[execs]at *;exact h.nx _ hp
 | s::r,δ,D,D',h,hp=>by
  rw[execs]at *;refine X6 hC s δ _ _ ?_ hp;exact⟨λδ'=>execs_mono hC r δ' D D' h,h.rt,h.bk,h.ct,h.ex⟩
end
end
theorem Dj{T:List FDef}{G:Nat→Option Dat}{prim:Nat→Option (List Dat→(Dat→Prop)→Prop)}(hp:∀f p,prim f=some p→∀ds,Bj (p ds)):∀(k f:Nat) (ds:List Dat),Bj (Bg T G prim k f ds)
 | 0,_,_=>λP Q h hq=>by rw[Bg]at hq;exact hq.elim
 | k + 1,f,ds=>λP Q h hq=>by
  rw[Bg]at *
  split at hq
  ·rename_i p e
   exact hp f p e ds _ _ h hq
  ·split at hq
   ·by_cases h5:f < 5000000
    ·rw[if_pos h5]at hq ⊢
     split at hq
     ·exact hq.elim
     ·obtain⟨q1,q2,l,q3,q4⟩:=hq
      refine⟨q1,q2,l,q3,execs_mono (λf' ds'=>Dj hp k f' ds') _ _ _ _ ?_ q4⟩;exact⟨λ_ z=>z,λ_ _ ⟨y,a1,a2⟩=>⟨y,a1,h _ a2⟩,λ_ z=>z,λ_ z=>z,λ_ _ z=>z⟩
    ·rw [if_neg h5]at hq ⊢
     by_cases h6:f < 6000000
     ·rw[if_pos h6]at hq ⊢
      split at hq
      ·exact hq.elim
      ·obtain⟨q1,q2⟩:=hq
       refine⟨q1,λa=>execs_mono (λf' ds' P Q h hp'=>?_) _ _ _ _ ?_ (q2 a)⟩
       ·rcases hp' with⟨e1,e2,e3⟩|⟨e1,e2⟩
        ·exact .inl ⟨e1,e2,Dj hp k _ _ _ _ h e3⟩
        ·exact .inr ⟨e1,Dj hp k _ _ _ _ h e2⟩
       ·exact⟨λ_=>h _,λ_=>h,λ_ z=>z,λ_ z=>z,λ_ _ z=>z⟩
     ·rw [if_neg h6]at hq ⊢
      by_cases h7:10000000≤f
      ·rw[if_pos h7]at hq ⊢
       by_cases h9:12000000≤f
       ·rw[if_pos h9]at hq ⊢
        split at hq
        ·exact hq.elim
        ·obtain⟨q1,q3⟩:=hq
         refine⟨q1,execs_mono (λf' ds'=>Dj hp k f' ds') _ _ _ _ ?_ q3⟩;exact⟨λ_=>h _,λ_=>h,λ_ z=>z,λ_ z=>z,λ_ _ z=>z⟩
       ·rw[if_neg h9]at hq ⊢
        exact Dj hp k _ _ _ _ h hq
      rw[if_neg h7]at hq ⊢;by_cases h8:8000000≤f
      ·rw[if_pos h8]at hq ⊢
       split at hq
       ·exact hq.elim
       ·obtain⟨q1,q3⟩:=hq
        refine⟨q1,λa=>execs_mono (λf' ds'=>Dj hp k f' ds') _ _ _ _ ?_ (q3 a)⟩;exact⟨λ_ z=>z,λ_=>h,λ_ z=>z,λ_ z=>z,λ_ _ z=>z⟩
      rw[if_neg h8]at hq ⊢
      split at hq
      ·exact hq.elim
      ·obtain⟨q1,q3⟩:=hq
       refine⟨q1,execs_mono (λf' ds'=>Dj hp k f' ds') _ _ _ _ ?_ q3⟩;exact⟨λ_=>h _,λ_ _=>h _,λ_ z=>z,λ_ z=>z,λ_ _=>h _⟩
   ·obtain⟨q1,q3⟩:=hq
    refine⟨q1,execs_mono (λf' ds'=>Dj hp k f' ds') _ _ _ _ ?_ q3⟩;exact⟨λ_=>h _,λ_=>h,λ_ z=>z,λ_ z=>z,λ_ _ z=>z⟩
end SF
namespace SF
open PySem PySem.Spec PyProof.Rows L2
variable[TN]
theorem Hr:∀l:List Dat,toPys l=l.map Ar
 | []=>by simp[toPys]
 | x::r=>by simp[toPys,Hr r]
theorem T6{l:List Dat}(h:∀x∈l,(Ar x).plain=true):PyData.plainAll (toPys l)=true:=by
 induction l with
 | nil=>simp[toPys,PyData.plainAll]
 | cons x r ih=>simp only[toPys,PyData.plainAll,Yzh];exact⟨h x (by simp),ih λy hy=>h y (by simp[hy])⟩
theorem Ug{l:List Dat}{n:Nat}(h:∀x∈l,(Ar x).depth≤n):PyData.depthAll (toPys l)≤n:=by
 induction l with
 | nil=>simp[toPys,PyData.depthAll]
 | cons x r ih=>simp only[toPys,PyData.depthAll];have:=h x (by simp);have:=ih λy hy=>h y (by simp[hy]);omega
theorem Dg:∀(n:Nat) (d:Dat),okd n d→(Ar d).plain=true∧(Ar d).depth≤n:=by
 intro n
 induction n with
 | zero=>intro d h;cases d<;>simp_all [okd,Ar,PyData.plain,PyData.depth]
 | succ n ih=>
  intro d h
  cases d with
  | tup l=>
   simp only[okd]at h;simp only[Ar,PyData.plain,PyData.depth];exact⟨T6 λx hx=>(ih x (h x hx)).1,by have:=Ug λx hx=>(ih x (h x hx)).2;omega⟩
  | lst l=>
   simp only[okd]at h;simp only[Ar,PyData.plain,PyData.depth];exact⟨T6 λx hx=>(ih x (h x hx)).1,by have:=Ug λx hx=>(ih x (h x hx)).2;omega⟩
  | _=>simp_all [okd,Ar,PyData.plain,PyData.depth]
section
variable{X:Cx}{pins:List (Addr×Obj)}{σ:L2.St}{H:Hp}{s:Shared}
mutual
theorem Rep.reads(I:L2.Inv X pins σ H s):∀(d:Dat) (n:Nat) (v:V) (u:Value),okd n d→Rep X.kw H v d→L2.RelV v u→∃as,Reads s.heap u (Ar d) as
 | .non,n,v,u,_,h,r=>by rw[Rep]at h;subst h;cases r;exact⟨_,Reads.none⟩
 | .bl b,n,v,u,_,h,r=>by rw[Rep]at h;subst h;cases r;exact⟨_,Reads.bool b⟩
 | .int i,n,v,u,_,h,r=>by rw[Rep]at h;subst h;obtain⟨t,rfl⟩:=r;exact⟨_,Reads.int i t⟩
 | .str x,n,v,u,_,h,r=>by rw[Rep]at h;obtain⟨rfl,_⟩:=h;obtain⟨t,rfl⟩:=r;exact⟨_,Reads.str _ t⟩
 | .tup l,0,v,u,o,h,r=>by simp[okd]at o
 | .tup l,n+1,v,u,o,h,r=>by
  rw[Rep]at h;obtain⟨a,vs,rfl,h2,h3,h4⟩:=h
  cases r
  obtain⟨its,rv,⟨ob,ho,hc,k,hd⟩,_⟩:=I.tuple h2.sq;obtain⟨as,hr⟩:=Reps.reads I l n vs its (by simpa only[okd]using o) h4 rv;exact⟨_,Reads.tuple ho hc hd hr⟩
 | .lst l,0,v,u,o,h,r=>by simp[okd]at o
 | .lst l,n+1,v,u,o,h,r=>by
  rw[Rep]at h;obtain⟨a,vs,rfl,h2,h3,h4⟩:=h
  cases r
  obtain⟨its,rv,⟨ob,k,ho,hc,_,hd⟩,_⟩:=I.list h2.sq;obtain⟨as,hr⟩:=Reps.reads I l n vs its (by simpa only[okd]using o) h4 rv;exact⟨_,Reads.list ho hc hd hr⟩
 | .dic l,n,v,u,o,h,r=>by cases n<;>simp[okd]at o
 | .obj c l,n,v,u,o,h,r=>by cases n<;>simp[okd]at o
 | .pot,n,v,u,o,h,r=>by cases n<;>simp[okd]at o
 | .scr l,n,v,u,o,h,r=>by cases n<;>simp[okd]at o
 | .kd l,n,v,u,o,h,r=>by cases n<;>simp[okd]at o
theorem Reps.reads(I:L2.Inv X pins σ H s):∀(l:List Dat) (n:Nat) (vs:List V) (us:List Value),(∀x∈l,okd n x)→Reps X.kw H vs l→L2.Vals vs us→∃as,ReadsAll s.heap us (toPys l) as
 | [],n,[],us,_,_,r=>by cases r;exact⟨_,ReadsAll.nil⟩
 | [],n,_::_,us,_,h,_=>by simp[Reps]at h
 | _::_,n,[],us,_,h,_=>by simp[Reps]at h
 | d::ds,n,v::vs,us,o,h,r=>by
  rw[Reps]at h
  cases r with
  | cons r1 r2=>
   obtain⟨as,q1⟩:=Rep.reads I d n v _ (o d (by simp)) h.1 r1;obtain⟨bs,q2⟩:=Reps.reads I ds n vs _ (λx hx=>o x (by simp[hx])) h.2 r2;exact⟨_,ReadsAll.cons q1 q2⟩
end
theorem BRep.reads(I:L2.Inv X pins σ H s){d:Dat}{n:Nat}{v:V}{u:Value}(o:okd n d)(h:BRep X.kw H v d)(r:L2.RelV v u):∃as,Reads s.heap u (Ar d) as:=by
 rcases h with h|⟨a,rfl,h⟩
 ·exact Rep.reads I d n v u o h r
 ·cases d with
  | lst l=>
   obtain⟨vs,h1,h2,h3⟩:=h
   cases r
   obtain⟨its,rv,⟨ob,k,ho,hc,_,hd⟩,_⟩:=I.list (SqL.of (K:=X.K) h1)
   cases n with
   | zero=>simp[okd]at o
   | succ n=>
    obtain⟨as,hr⟩:=Reps.reads I l n vs its (by simpa only[okd]using o) h3 rv;exact⟨_,Reads.list ho hc hd hr⟩
  | dic l=>cases n<;>simp[okd]at o
  | kd l=>cases n<;>simp[okd]at o
  | _=>exact h.elim
end
theorem Ad1(x y:List Nat):((⟨x.toArray⟩:Str) == ⟨y.toArray⟩)=(x == y):=by
 by_cases h:x=y
 ·subst h;simp
 ·have:¬ (⟨x.toArray⟩:Str)=⟨y.toArray⟩:=λe=>h (by injection e with e;simpa using e)
  rw[beq_eq_false_iff_ne.mpr this,beq_eq_false_iff_ne.mpr h]
mutual
theorem Ml:∀(x y:Dat) (n:Nat),okd n x→okd n y→eqD x y=PyData.eqv (Ar x) (Ar y)
 | .non,y,n,_,hy=>by cases y<;>first|(cases n<;>simp[okd]at hy;done)|simp[eqD,Ar,PyData.eqv]
 | .bl a,y,n,_,hy=>by cases y<;>first|(cases n<;>simp[okd]at hy;done)|simp[eqD,Ar,PyData.eqv]
 | .int a,y,n,_,hy=>by cases y<;>first|(cases n<;>simp[okd]at hy;done)|simp[eqD,Ar,PyData.eqv]
 | .str a,y,n,_,hy=>by cases y<;>first|(cases n<;>simp[okd]at hy;done)|simp only[eqD,Ar,PyData.eqv,Ad1]
 | .tup l,y,0,hx,_=>by simp[okd]at hx
 | .tup l,y,n+1,hx,hy=>by
  cases y with
  | tup r=>simp only[eqD,Ar,PyData.eqv];exact eqDs_eqv l r n (by simpa only[okd]using hx) (by simpa only[okd]using hy)
  | dic r=>simp[okd]at hy
  | obj c r=>simp[okd]at hy
  | pot=>simp[okd]at hy
  | scr r=>simp[okd]at hy
  | kd r=>simp[okd]at hy
  | _=>simp[eqD,Ar,PyData.eqv]
 | .lst l,y,0,hx,_=>by simp[okd]at hx
 | .lst l,y,n+1,hx,hy=>by
  cases y with
  | lst r=>simp only[eqD,Ar,PyData.eqv];exact eqDs_eqv l r n (by simpa only[okd]using hx) (by simpa only[okd]using hy)
  | dic r=>simp[okd]at hy
  | obj c r=>simp[okd]at hy
  | pot=>simp[okd]at hy
  | scr r=>simp[okd]at hy
  | kd r=>simp[okd]at hy
  | _=>simp[eqD,Ar,PyData.eqv]
 | .dic l,y,n,hx,_=>by cases n<;>simp[okd]at hx
 | .obj c l,y,n,hx,_=>by cases n<;>simp[okd]at hx
 | .pot,y,n,hx,_=>by cases n<;>simp[okd]at hx
 | .scr _,y,n,hx,_=>by cases n<;>simp[okd]at hx
 | .kd _,y,n,hx,_=>by cases n<;>simp[okd]at hx
theorem eqDs_eqv:∀(xs ys:List Dat) (n:Nat),(∀x∈xs,okd n x)→(∀y∈ys,okd n y)→eqDs xs ys=PyData.eqvAll (toPys xs) (toPys ys)
 | [],[],_,_,_=>by simp[eqDs,toPys,PyData.eqvAll]
 | [],_::_,_,_,_=>by simp[eqDs,toPys,PyData.eqvAll]
 | _::_,[],_,_,_=>by simp[eqDs,toPys,PyData.eqvAll]
 | x::xs,y::ys,n,hx,hy=>by
  simp only[eqDs,toPys,PyData.eqvAll];rw[Ml x y n (hx x (by simp)) (hy y (by simp)),eqDs_eqv xs ys n (λz hz=>hx z (by simp[hz])) (λz hz=>hy z (by simp[hz]))]
end
theorem Ajq:∀x y:List Nat,ltS x y=decide (x < y)
 | [],[]=>by simp[ltS]
 | [],_::_=>by simp[ltS]
 | _::_,[]=>by simp[ltS]
 | a::as,b::bs=>by
  rw[ltS,Ajq as bs];by_cases h1:a < b
  ·rw[if_pos h1];exact(decide_eq_true (Jj.mpr (.inl h1))).symm
  ·rw[if_neg h1]
   by_cases h2:a=b
   ·rw[if_pos h2];subst h2
    exact decide_eq_decide.mpr ⟨λh=>Jj.mpr (.inr ⟨rfl,h⟩),λh=>by rcases Jj.mp h with h|h;exact absurd h (Th _);exact h.2⟩
   ·rw[if_neg h2]
    exact(decide_eq_false λh=>by rcases Jj.mp h with h|h;exact h1 h;exact h2 h.1).symm
mutual
theorem Jy:∀(x y:Dat),Av x y=true→PySem.W.alike (Ar x) (Ar y)=true
 | .bl _,y,h=>by cases y<;>simp_all [Av,Ar,PySem.W.alike]
 | .int _,y,h=>by cases y<;>simp_all [Av,Ar,PySem.W.alike]
 | .str _,y,h=>by cases y<;>simp_all [Av,Ar,PySem.W.alike]
 | .tup l,y,h=>by
  cases y with
  | tup r=>simp only[Av]at h;simp only[Ar,PySem.W.alike];exact alikeDs_alike l r h
  | _=>simp[Av]at h
 | .lst l,y,h=>by
  cases y with
  | lst r=>simp only[Av]at h;simp only[Ar,PySem.W.alike];exact alikeDs_alike l r h
  | _=>simp[Av]at h
 | .non,y,h=>by cases y<;>simp[Av]at h
 | .dic _,y,h=>by cases y<;>simp[Av]at h
 | .obj _ _,y,h=>by cases y<;>simp[Av]at h
 | .pot,y,h=>by cases y<;>simp[Av]at h
 | .scr _,y,h=>by cases y<;>simp[Av]at h
 | .kd _,y,h=>by cases y<;>simp[Av]at h
theorem alikeDs_alike:∀(xs ys:List Dat),alikeDs xs ys=true→PySem.W.alikeAll (toPys xs) (toPys ys)=true
 | [],ys,_=>by simp[toPys,PySem.W.alikeAll]
 | x::xs,[],_=>by simp[toPys,PySem.W.alikeAll]
 | x::xs,y::ys,h=>by
  simp only[alikeDs,Yzh]at h;simp only[toPys,PySem.W.alikeAll,Yzh];exact⟨Jy x y h.1,alikeDs_alike xs ys h.2⟩
end
mutual
theorem Ir:∀(x y:Dat) (n:Nat),okd n x→okd n y→Av x y=true→ltD x y=PySem.W.dataLt (Ar x) (Ar y)
 | .bl a,y,n,_,_,h=>by
  cases y with
  | bl b=>simp only[ltD,Ar,PySem.W.dataLt_bool];cases a<;>cases b<;>rfl
  | _=>simp[Av]at h
 | .int a,y,n,_,_,h=>by
  cases y with
  | int b=>simp only[ltD,Ar,PySem.W.dataLt_int]
  | _=>simp[Av]at h
 | .str a,y,n,_,_,h=>by
  cases y with
  | str b=>simp only[ltD,Ar,PySem.W.dataLt_str,Ajq]
  | _=>simp[Av]at h
 | .tup l,y,0,hx,_,h=>by simp[okd]at hx
 | .tup l,y,n+1,hx,hy,h=>by
  cases y with
  | tup r=>
   simp only[Av]at h;simp only[ltD,Ar,PySem.W.dataLt_tuple];exact ltDs_lex l r n (by simpa only[okd]using hx) (by simpa only[okd]using hy) h
  | _=>simp[Av]at h
 | .lst l,y,0,hx,_,h=>by simp[okd]at hx
 | .lst l,y,n+1,hx,hy,h=>by
  cases y with
  | lst r=>
   simp only[Av]at h;simp only[ltD,Ar,PySem.W.dataLt_list];exact ltDs_lex l r n (by simpa only[okd]using hx) (by simpa only[okd]using hy) h
  | _=>simp[Av]at h
 | .non,y,_,_,_,h=>by cases y<;>simp[Av]at h
 | .dic _,y,_,_,_,h=>by cases y<;>simp[Av]at h
 | .obj _ _,y,_,_,_,h=>by cases y<;>simp[Av]at h
 | .pot,y,_,_,_,h=>by cases y<;>simp[Av]at h
 | .scr _,y,_,_,_,h=>by cases y<;>simp[Av]at h
 | .kd _,y,_,_,_,h=>by cases y<;>simp[Av]at h
theorem ltDs_lex:∀(xs ys:List Dat) (n:Nat),(∀x∈xs,okd n x)→(∀y∈ys,okd n y)→alikeDs xs ys=true→ltDs xs ys=PyProof.Rows.lexLt itemOrd (PySem.W.keyToksAll (toPys xs)) (PySem.W.keyToksAll (toPys ys))
 | [],[],_,_,_,_=>by simp only[ltDs,toPys,PySem.W.keyToksAll];rfl
 | [],y::ys,_,_,_,_=>by simp only[ltDs,toPys,PySem.W.keyToksAll];rfl
 | x::xs,[],_,_,_,_=>by simp only[ltDs,toPys,PySem.W.keyToksAll];rfl
 | x::xs,y::ys,n,hx,hy,h=>by
  simp only[alikeDs,Yzh]at h;simp only[ltDs,toPys];rw[PySem.W.dataLt_cons (Jy x y h.1),Ml x y n (hx x (by simp)) (hy y (by simp)),Ir x y n (hx x (by simp)) (hy y (by simp)) h.1,
   ltDs_lex xs ys n (λz hz=>hx z (by simp[hz])) (λz hz=>hy z (by simp[hz])) h.2]
end
end SF
namespace SF
open PySem PySem.Spec PyProof.Rows L2
variable[TN]
theorem Reps.length{K:KW}{H:Hp}:∀{vs:List V} {l:List Dat},Reps K H vs l→vs.length=l.length
 | [],[],_=>rfl
 | [],_::_,h=>by simp[Reps]at h
 | _::_,[],h=>by simp[Reps]at h
 | v::vs,d::ds,h=>by rw[Reps]at h;simp[Reps.length h.2]
theorem Reps.append{K:KW}{H:Hp}:∀{vs ws:List V} {l r:List Dat},Reps K H vs l→Reps K H ws r→Reps K H (vs++ws) (l++r)
 | [],_,[],_,_,h=>h
 | [],_,_::_,_,h,_=>by simp[Reps]at h
 | _::_,_,[],_,h,_=>by simp[Reps]at h
 | v::vs,ws,d::ds,r,h,h'=>by
  rw[Reps]at h;show Reps K H (v::(vs++ws)) (d::(ds++r))
  rw[Reps];exact⟨h.1,h.2.append h'⟩
theorem Reps.take{K:KW}{H:Hp}:∀{vs:List V} {l:List Dat} (n:Nat),Reps K H vs l→Reps K H (vs.take n) (l.take n)
 | _,_,0,_=>by simp[Reps]
 | [],[],n+1,_=>by simp[Reps]
 | [],_::_,_,h=>by simp[Reps]at h
 | _::_,[],_,h=>by simp[Reps]at h
 | v::vs,d::ds,n+1,h=>by
  rw[Reps]at h;rw[List.take_succ_cons,List.take_succ_cons,Reps];exact⟨h.1,h.2.take n⟩
theorem Reps.drop{K:KW}{H:Hp}:∀{vs:List V} {l:List Dat} (n:Nat),Reps K H vs l→Reps K H (vs.drop n) (l.drop n)
 | _,_,0,h=>by simpa using h
 | [],[],n+1,_=>by simp[Reps]
 | [],_::_,_,h=>by simp[Reps]at h
 | _::_,[],_,h=>by simp[Reps]at h
 | v::vs,d::ds,n+1,h=>by
  rw[Reps]at h;rw[Ri,Ri];exact h.2.drop n
theorem Reps.get{K:KW}{H:Hp}:∀{vs:List V} {l:List Dat} {i:Nat} {d:Dat},Reps K H vs l→l[i]? = some d→∃v,vs[i]? = some v∧Rep K H v d
 | [],[],i,d,_,e=>by simp at e
 | [],_::_,_,_,h,_=>by simp[Reps]at h
 | _::_,[],_,_,h,_=>by simp[Reps]at h
 | v::vs,x::ds,0,d,h,e=>by
  rw[Reps]at h;simp at e
  subst e;exact⟨v,by simp,h.1⟩
 | v::vs,x::ds,i+1,d,h,e=>by
  rw[Reps]at h;obtain⟨w,e1,e2⟩:=Reps.get (i:=i) (d:=d) h.2 (by simpa using e);exact⟨w,by simpa using e1,e2⟩
theorem Reps.getD{K:KW}{H:Hp}:∀{vs:List V} {l:List Dat} {i:Nat} {v:V},Reps K H vs l→vs[i]? = some v→∃d,l[i]? = some d∧Rep K H v d
 | [],[],i,d,_,e=>by simp at e
 | [],_::_,_,_,h,_=>by simp[Reps]at h
 | _::_,[],_,_,h,_=>by simp[Reps]at h
 | v::vs,x::ds,0,d,h,e=>by
  rw[Reps]at h;simp at e
  subst e;exact⟨x,by simp,h.1⟩
 | v::vs,x::ds,i+1,d,h,e=>by
  rw[Reps]at h;obtain⟨w,e1,e2⟩:=Reps.getD (i:=i) (v:=d) h.2 (by simpa using e);exact⟨w,by simpa using e1,e2⟩
theorem Reps.at{K:KW}{H:Hp}{vs:List V}{l:List Dat}{i:Int}{d:Dat}(h:Reps K H vs l)(e:atD l i=some d):∃v,atI vs i=some v∧Rep K H v d:=by
 unfold atD atI at *;rw[h.length]
 cases q:ixN l.length i with
 | none=>rw[q]at e;cases e
 | some j=>
  rw[q]at e;obtain⟨v,e1,e2⟩:=h.get (i:=j) (d:=d) e;exact⟨v,e1,e2⟩
theorem Reps.cut{K:KW}{H:Hp}{vs:List V}{l:List Dat}(lo hi:Option Int)(h:Reps K H vs l):Reps K H (cutV vs lo hi) (cut l lo hi):=by
 unfold cutV SF.cut;rw[h.length];exact(h.drop _).take _
theorem Qi{α:Type}(xs:List α)(lo hi:Option Int):(cut xs lo hi).length≤xs.length:=by
 unfold cut;rw[Br,Fv];omega
theorem Reps.rep{K:KW}{H:Hp}{vs:List V}{l:List Dat}(h:Reps K H vs l):∀n:Nat,Reps K H (Bw n vs).flatten (Bw n l).flatten
 | 0=>by simp[Reps]
 | n+1=>by
  rw[List.replicate_succ,List.replicate_succ,List.flatten_cons,List.flatten_cons];exact h.append (h.rep n)
def Aq6:Dat→Bool
 | .lst _=>false
 | .dic _=>false
 | .kd _=>false
 | _=>true
def RO(K:KW)(H H':Hp)(v:V)(d:Dat):Prop:=(∃a,v = .ref a∧H a=none∧Own K H' a d)∨(Aq6 d=true∧Rep K H' v d)
def Res(K:KW)(H:Hp)(Q:VK)(d:Dat):Prop:=∀v H',Step 0 H H'→RO K H H' v d→Q v H'
theorem Res.rep{K:KW}{H:Hp}{Q:VK}{d:Dat}{v:V}(q:Res K H Q d)(h:Rep K H v d)(nb:Aq6 d=true:=by rfl):Q v H:=q v H (Step.refl H) (.inr ⟨nb,h⟩)
theorem Res.tup{K:KW}{H:Hp}{Q:VK}{l:List Dat}{vs:List V}{p:Addr}{o:Obj}(q:Res K H Q (.tup l))(h:Reps K H vs l)(hz:l.length≤sizeLine)(hp:H p=none)(hd:o.dict=none):Q (.ref p) (upd H p (.frz o (.tup vs))):=by
 have st:Step 0 H (upd H p (.frz o (.tup vs))):=Step.upd hp λz e=>nomatch e
 refine q _ _ st (.inr ⟨rfl,?_⟩);rw[Rep];exact⟨p,vs,rfl,.inl ⟨o,upd_same,hd⟩,hz,Reps.ext st.ext l vs h⟩
theorem Res.lst{K:KW}{H:Hp}{Q:VK}{l:List Dat}{vs:List V}{p:Addr}(q:Res K H Q (.lst l))(h:Reps K H vs l)(hz:l.length≤sizeLine)(hp:H p=none):Q (.ref p) (upd H p (.lst vs)):=by
 have st:Step 0 H (upd H p (.lst vs)):=Step.upd hp λz e=>nomatch e
 exact q _ _ st (.inl ⟨p,rfl,hp,vs,upd_same,hz,Reps.ext st.ext l vs h⟩)
theorem BRep.lstAt{K:KW}{H:Hp}{v:V}{l:List Dat}(h:BRep K H v (.lst l)):∃a vs,v = .ref a∧Rd H a (.lst vs)∧Reps K H vs l∧l.length≤sizeLine:=by
 rcases h with h|⟨a,rfl,vs,h1,h2,h3⟩
 ·rw[Rep]at h
  obtain⟨a,vs,rfl,⟨o,h2⟩,h3,h4⟩:=h;exact⟨a,vs,rfl,.inr ⟨o,h2⟩,h4,h3⟩
 ·exact⟨a,vs,rfl,.inl h1,h3,h2⟩
theorem BRep.tupAt{K:KW}{H:Hp}{v:V}{l:List Dat}(h:BRep K H v (.tup l)):∃a vs,v = .ref a∧TupAt K H a vs∧Reps K H vs l∧l.length≤sizeLine:=by
 rcases h with h|⟨a,rfl,h⟩
 ·rw[Rep]at h
  obtain⟨a,vs,rfl,h2,h3,h4⟩:=h;exact⟨a,vs,rfl,h2,h4,h3⟩
 ·exact h.elim
theorem BRep.intAt{K:KW}{H:Hp}{v:V}{i:Int}(h:BRep K H v (.int i)):v = .int i:=by
 rcases h with h|⟨a,rfl,h⟩
 ·rwa [Rep]at h
 ·exact h.elim
theorem BRep.blAt{K:KW}{H:Hp}{v:V}{i:Bool}(h:BRep K H v (.bl i)):v = .bl i:=by
 rcases h with h|⟨a,rfl,h⟩
 ·rwa [Rep]at h
 ·exact h.elim
theorem BRep.strAt{K:KW}{H:Hp}{v:V}{s:List Nat}(h:BRep K H v (.str s)):v = .str ⟨s.toArray⟩∧s.length≤sizeLine:=by
 rcases h with h|⟨a,rfl,h⟩
 ·rwa [Rep]at h
 ·exact h.elim
theorem De{K:KW}{H:Hp}(i:Int):Rep K H (.int i) (.int i):=by rw[Rep]
theorem Hm{K:KW}{H:Hp}(i:Bool):Rep K H (.bl i) (.bl i):=by rw[Rep]
theorem G8{K:KW}{H:Hp}{s:List Nat}(h:s.length≤sizeLine):Rep K H (.str ⟨s.toArray⟩) (.str s):=by rw[Rep];exact⟨rfl,h⟩
theorem Ez(s:List Nat):(⟨s.toArray⟩:Str).length=s.length:=by simp[Str.length]
theorem Yr(s t:List Nat):(⟨s.toArray⟩:Str)++⟨t.toArray⟩=⟨(s++t).toArray⟩:=by
 show Str.append _ _=_
 simp[Str.append]
theorem Kf{X:Cx}{pins:List (Addr×Obj)}{σ:L2.St}{H:Hp}{s:Shared}{ys:List V}{its:List Value}{t':Nat}(I:L2.Inv X pins σ H s)(hv:Vals ys its)(hz:ys.length≤sizeLine) :
  L2.Inv X pins σ (upd H s.heap.objs.size (.frz { cls:=.type "tuple", data:=.seq its.toArray } (.tup ys))) { s with heap:=s.heap.push { cls:=.type "tuple", data:=.seq its.toArray },toks:=t' }:=
 I.laid (λ_ _ q=>Heap.get?_push_of_some _ q) (Aa _) ⟨Heap.get?_push_size _ rfl,hz,its,hv,IsTup.new _ _⟩
def Aqr:O2→Operator
 | .add=>.Add | .sub=>.Sub | .mul=>.Mult | .fdiv=>.FloorDiv | .mod=>.Mod | .pow=>.Pow
def rO2(K:KW)(o:O2):R2:=λx y H Q=>∃dx dy,BRep K H x dx∧BRep K H y dy∧Jm o dx dy (Res K H Q)
section
variable{X:Cx}
theorem Arq{pins:List (Addr×Obj)}{s:Shared}{σ:L2.St}{H:Hp}{a b:Addr}{xs ys:List V}{Q:VK}(I:L2.Inv X pins σ H s)(ha:Rd H a (.lst xs))(hb:Rd H b (.lst ys))(hz:xs.length+ys.length≤sizeLine)
  (q:∀p,H p=none→Q (.ref p) (upd H p (.lst (xs++ys)))):wpAny (model X.prog X.w) X.A (binaryOp .Add (.ref a) (.ref b)) (EP X pins σ Q) X.xe s:=by
 obtain⟨z,its,n,r,e⟩:=ha.ok I.hok;obtain⟨z2,its2,n2,r2,e2⟩:=hb.ok I.hok;refine PySem.P.add_list e e2 ?_ (by rw[Ao,Ao,← r.length,← r2.length];exact hz);have ea:its.toArray++its2.toArray=(its++its2).toArray:=by simp
 rw[ea];exact⟨.ref _,_,I.lnew (t':=s.toks) (r.append r2) (by rw[Yzj];omega),rfl,q _ I.fresh⟩
theorem Alx{prog:Program}{w:World}{A:Around}{E:Value→Shared→Prop}{s:Shared}{l:Addr}{its:Array Value}{n:Nat}{k:Int}{t:Tok}{Q:Value→Shared→Prop}(e:s.heap.get? l=some { cls:=.type "list", data:=.seq its n })(lo:-(2 ^ 63)≤k)(hi:k < 2 ^ 63)(room:its.size*k.toNat≤sizeLine)
  (q:Q (.ref s.heap.objs.size) { s with heap:=s.heap.push { cls:=.type "list", data:=.seq (Bw k.toNat its.toList).flatten.toArray } }):wpAny (model prog w) A (binaryOp .Mult (.ref l) (.int k t)) Q E s:=by
 have small:sizeLine≤(2 ^ 63 - 1) / 8:=by decide
 have ok:Builtin.List.listFitsIndex k=true∧Builtin.List.listTooLong (its.size*k.toNat)=false:=⟨fitsIndex_both lo hi,notLongL room⟩;have ls:s.TypeIs (.ref l) "list" := ⟨_,e,rfl⟩;rw[← PyProof.Rows.listMul_foldl_if]at q;refine wpAny_binaryOp_repeat_ref (T := "list") (U := "int") (by decide) ls (λs'=>typeIs_int s' k t) noFill_list_mul PySem.F.fills_int_mul PySem.F.slot_int_rmul repeat_list PySem.F.slot_int_index.lookup ?_;refine call_meets PySem.F.slot_int_rmul (typeIs_int s k t) PySem.F.entry_int_rmul (PySem.F.args_int_rmul_2 _ _) (int___rmul___int_list k t l its n) ⟨e,rfl,ls,?_⟩;refine call_meets PySem.F.slot_list_mul ls PySem.F.entry_list_mul (PySem.F.args_list_mul_2 _ _) (AutoListH.list___mul___list_int_3 l its n k t ?_ ?_ ?_) ⟨e,q⟩
 ·rw[ok.1];decide
 ·omega
 ·rw[ok.2];decide
theorem Aph{pins:List (Addr×Obj)}{s:Shared}{σ:L2.St}{H:Hp}{l:Addr}{xs:List V}{k:Int}{t:Tok}{Q:VK}(I:L2.Inv X pins σ H s)(hH:Rd H l (.lst xs))(h1:-(2 ^ 63)≤k)(h2:k < 2 ^ 63)(hz:xs.length*k.toNat≤sizeLine)
  (q:∀p,H p=none→Q (.ref p) (upd H p (.lst (Bw k.toNat xs).flatten))):wpAny (model X.prog X.w) X.A (binaryOp .Mult (.ref l) (.int k t)) (EP X pins σ Q) X.xe s:=by
 obtain⟨_,its,n,r,e⟩:=hH.ok I.hok;have room:its.length*k.toNat≤sizeLine:=r.length ▸ hz;refine Alx e h1 h2 (by rw[Ao];exact room) ?_;have rr:=r.rep k.toNat;have len:(Bw k.toNat xs).flatten.length≤sizeLine:=by
  rw[PyProof.Rows.lm_len_rep_flat,Jc];exact hz
 exact⟨.ref _,_,I.lnew (t':=s.toks) rr len,rfl,q _ I.fresh⟩
theorem Aca(l:Addr)(items:Array Value)(n:Nat)(dd:Option Addr)(sl:Array (Option Value))(u:Tok) :
  Meets (Builtin.«tuple.__mul__» ⟨[.ref l,.int 1 u],[]⟩) (λ_ R s=>s.heap.get? l=some { cls:=.type "tuple", dict:=dd,data:=.seq items n,slots:=sl }∧R (.ok (.ret (Value.ref l))) s):=by
 refine .of_wp λprog w A R ⟨m1,m2,m3,m4,m5⟩ ⟨look,fin⟩=>?_
 have num:=AutoSeq1.idx_int
 wp_walk using wpAny_loadPart' look
 repeat (first
  | (refine wpAny_ite_false (by decide) ?_;wp_walk using wpAny_loadPart' look)
  | (refine wpAny_ite_true (by simp) ?_;wp_walk using wpAny_loadPart' look))
 exact⟨_,rfl,fin⟩
theorem Acb(l:Addr)(items:Array Value)(n:Nat)(dd:Option Addr)(sl:Array (Option Value))(u:Tok)(ne:items.isEmpty=false) :
  Meets (Builtin.«tuple.__mul__» ⟨[.ref l,.int 0 u],[]⟩) (λ_ R s=>s.heap.get? l=some { cls:=.type "tuple", dict:=dd,data:=.seq items n,slots:=sl }∧R (.ok (.ret (Value.ref s.heap.objs.size))) { s with heap:=s.heap.push { cls:=Value.type "tuple", data:=Data.seq #[] },toks:=s.toks }):=by
 refine .of_wp λprog w A R ⟨m1,m2,m3,m4,m5⟩ ⟨look,fin⟩=>?_
 have num:=AutoSeq1.idx_int;have c1:(items.isEmpty || (0:Int) == 1)=false:=by rw[ne];rfl
 wp_walk using wpAny_loadPart' look
 repeat (first
  | (refine wpAny_ite_false (by decide) ?_;wp_walk using wpAny_loadPart' look)
  | (refine wpAny_ite_false (decide_eq_false (by rw[c1];exact Bv)) ?_;wp_walk using wpAny_loadPart' look)
  | (refine wpAny_ite_true (by simp) ?_;wp_walk using wpAny_loadPart' look))
 exact⟨_,rfl,fin⟩
theorem Asr(o:O2):OpR X (binaryOp (Aqr o)) (rO2 X.kw o):=by
 intro pins s σ H x y v u Q I rx ry ⟨dx,dy,hx,hy,h⟩;unfold Jm at h
 split at h
 ·rename_i i j
  have ex:=hx.intAt;have ey:=hy.intAt;subst ex ey;exact op_add pins s σ H _ _ v u Q I rx ry ⟨i,j,rfl,rfl,h.rep (De _)⟩
 ·rename_i a b
  obtain⟨rfl,h1⟩:=hx.strAt;obtain⟨rfl,h2⟩:=hy.strAt;refine op_add_str pins s σ H _ _ v u Q I rx ry ⟨_,_,rfl,rfl,by rw[Ez,Ez];exact h.1,?_⟩;rw[Yr];exact h.2.rep (G8 (by rw[Yzj];exact h.1))
 ·rename_i a b
  obtain⟨p,xs,rfl,h1,h2,h3⟩:=hx.tupAt;obtain⟨p',ys,rfl,k1,k2,k3⟩:=hy.tupAt;have hz:xs.length+ys.length≤sizeLine:=by rw[h2.length,k2.length];exact h.1
  cases rx;cases ry
  obtain⟨its,r1,p1,_⟩:=I.tuple h1.sq;obtain⟨jts,r2,p2,_⟩:=I.tuple k1.sq;have e1:=r1.length;have e2:=r2.length;have e3:=h2.length;have e4:=k2.length;by_cases ha:a=[]
  ·have hi:its=[]:=Ci (by subst ha;simp only[Az]at e3;omega)
   subst hi ha;refine cat_tup0 p1 p2 ⟨.ref p',H,I,rfl,h.2.rep ?_⟩;rw[Ep,Rep];exact⟨_,_,rfl,k1,k3,k2⟩
  ·refine HT.cat_tup p1 p2 (λz=>ha (Ci (by subst z;simp only[Az]at e1;omega))) (λz=>?_) (λ_=>?_) (by omega)
   ·have hb:b=[]:=Ci (by subst z;simp only[Az]at e2;omega)
    subst hb;refine⟨.ref p,H,I,rfl,h.2.rep ?_⟩;rw[Bu,Rep];exact⟨_,_,rfl,h1,h3,h2⟩
   ·have hz2:(xs++ys).length≤sizeLine:=by rw[Yzj];exact hz
    exact⟨.ref s.heap.objs.size,_,Kf (t':=s.toks) I (r1.append r2) hz2,rfl,h.2.tup (h2.append k2) (by rw[Yzj];exact h.1) (I.hok.fresh (Aa _)) rfl⟩
 ·rename_i a b
  obtain⟨p,xs,rfl,h1,h2,h3⟩:=hx.lstAt;obtain⟨p',ys,rfl,k1,k2,k3⟩:=hy.lstAt
  cases rx;cases ry
  exact Arq I h1 k1 (by rw[h2.length,k2.length];exact h.1) λp hp=>h.2.lst (h2.append k2) (by rw[Yzj];exact h.1) hp
 ·rename_i i j
  have ex:=hx.intAt;have ey:=hy.intAt;subst ex ey;exact op_sub pins s σ H _ _ v u Q I rx ry ⟨i,j,rfl,rfl,h.rep (De _)⟩
 ·rename_i i j
  have ex:=hx.intAt;have ey:=hy.intAt;subst ex ey
  rcases h.1 with h1|⟨h1,h2⟩
  ·refine op_mul pins s σ H _ _ v u Q I rx ry ⟨i,j,rfl,rfl,?_,h.2.rep (De _)⟩
   rcases h1 with h|h
   ·exact .inl ⟨by omega,by omega⟩
   ·exact .inr ⟨by omega,by omega⟩
  ·exact op_mulW pins s σ H _ _ v u Q I rx ry ⟨i,j,rfl,rfl,wide_mul h1 h2 (by decide) (by decide) (by decide),h.2.rep (De _)⟩
 ·rename_i a j
  obtain⟨p,xs,rfl,h1,h2,h3⟩:=hx.lstAt;have ey:=hy.intAt;subst ey
  cases rx
  obtain⟨t,rfl⟩:=ry;refine Aph I h1 (by have:=h.1.1;omega) (by have:=h.1.2.1;omega) (by rw[h2.length];exact h.1.2.2) λp hp=>h.2.lst (h2.rep _) ?_ hp
  rw[PyProof.Rows.lm_len_rep_flat,Jc];exact h.1.2.2
 ·rename_i a j
  obtain⟨p,xs,rfl,h1,h2,h3⟩:=hx.tupAt;have ey:=hy.intAt;subst ey
  cases rx
  obtain⟨t,rfl⟩:=ry;obtain⟨⟨g1,g2,g3,g4⟩,q⟩:=h;have len:=h2.length;obtain⟨its,r,⟨⟨cls,dd,data,sl⟩,ho,hc,n,hd⟩,hs⟩:=I.tuple h1.sq;simp only at hc hd
  subst hc hd;have hle:=r.length;have ne:its≠[]:=λe=>g1 (Ci (by subst e;have z:xs.length=0:=hle;omega))
  refine wpAny_binaryOp_repeat_ref (T := "tuple") (U := "int") (by decide) ⟨_,ho,rfl⟩ (λs'=>typeIs_int s' j t) noFill_tuple_mul PySem.F.fills_int_mul PySem.F.slot_int_rmul repeat_tuple PySem.F.slot_int_index.lookup
   (call_meets PySem.F.slot_int_rmul (typeIs_int s j t) PySem.F.entry_int_rmul (PySem.F.args_int_rmul_2 _ _) (int_rmul_tuple j t p its.toArray n dd sl) ⟨ho,rfl,⟨_,ho,rfl⟩,?_⟩)
  by_cases zero:j=0
  ·subst zero
   have ie:its.toArray.isEmpty=false:=by
    cases its with
    | nil=>exact absurd rfl ne
    | cons a b=>rfl
   refine call_meets PySem.F.slot_tuple_mul ⟨_,ho,rfl⟩ PySem.F.entry_tuple_mul (PySem.F.args_tuple_mul_2 _ _) (Acb p its.toArray n dd sl t ie) ⟨ho,.ref s.heap.objs.size,_,Kf (ys:=[]) (its:=[]) (t':=s.toks) I .nil (Am _),rfl,?_⟩;have e:(Bw (0:Int).toNat a).flatten=[]:=by simp
   rw[e]at q;exact q.tup (by rw[Reps];trivial) (Am _) (I.hok.fresh (Aa _)) rfl
  by_cases one:j=1
  ·subst one
   refine call_meets PySem.F.slot_tuple_mul ⟨_,ho,rfl⟩ PySem.F.entry_tuple_mul (PySem.F.args_tuple_mul_2 _ _) (Aca p its.toArray n dd sl t) ⟨ho,.ref p,H,I,rfl,q.rep ?_⟩;rw[Rep];have e:(Bw (1:Int).toNat a).flatten=a:=by simp
   rw[e];exact⟨p,xs,rfl,h1,h3,h2⟩
  ·have bd:j.toNat*its.length≤1000*1000:=Ld (by omega) (by omega)
   have flen:(Bw j.toNat its).flatten.length≤sizeLine:=by
    rw[PyProof.Rows.lm_len_rep_flat,sizeLine_eq];omega
   have sz:((its.toArray.size:Nat):Int)*j≤1000000:=by
    rw[Ao];have a1:((its.length:Nat):Int)*j≤1000*j:=Int.mul_le_mul_of_nonneg_right (by omega) (by omega);omega
   have c1:(its.toArray.isEmpty || j == 1)=false:=by
    cases its with
    | nil=>exact absurd rfl ne
    | cons a b=>simp[one]
   have c2:(decide (j≤0) || its.toArray.isEmpty)=false:=by
    cases its with
    | nil=>exact absurd rfl ne
    | cons a b=>simp;omega
   have c4:Builtin.Tuple.tupleTooMany (((its.toArray.size:Nat):Int)*j)=false:=decide_eq_false (by rw[sizeLine_eq];omega);refine call_meets PySem.F.slot_tuple_mul ⟨_,ho,rfl⟩ PySem.F.entry_tuple_mul (PySem.F.args_tuple_mul_2 _ _) (tuple_mulW p its.toArray n dd sl j t (by simp;omega) c1 c2 (by omega) c4 (by rw[size_rep,Ao];exact flen)) ⟨ho,?_⟩;rw[size_rep];have rr:=h2.rep j.toNat;have fl2:(Bw j.toNat xs).flatten.length≤sizeLine:=by rw[(r.rep j.toNat).length];exact flen
   exact⟨.ref s.heap.objs.size,_,Kf (t':=s.toks) I (r.rep j.toNat) fl2,rfl,q.tup rr (by rw[← rr.length];exact fl2) (I.hok.fresh (Aa _)) rfl⟩
 ·rename_i i j
  have ex:=hx.intAt;have ey:=hy.intAt;subst ex ey;exact op_fdivW pins s σ H _ _ v u Q I rx ry ⟨i,j,rfl,rfl,wide_div h.1.1 h.1.2 (by decide) (by decide),h.2.rep (De _)⟩
 ·rename_i i j
  have ex:=hx.intAt;have ey:=hy.intAt;subst ex ey;exact op_mod pins s σ H _ _ v u Q I rx ry ⟨i,j,rfl,rfl,h.1,h.2.rep (De _)⟩
 ·rename_i i j
  have ex:=hx.intAt;have ey:=hy.intAt;subst ex ey;obtain⟨t,rfl⟩:=rx;obtain⟨t',rfl⟩:=ry;obtain⟨⟨q1,q2,q3⟩,q4⟩:=h;have hb:(Builtin.Int.intBits i:Int)≤100000:=by
   have:=PyProof.Rows.intBits_le q3;omega
  refine pow_int q1 ?_ ⟨.int _,H,I.tok _,⟨_,rfl⟩,q4.rep (De _)⟩
  calc (Builtin.Int.intBits i:Int)*j≤100000*1000:=Int.mul_le_mul hb q2 q1 (by decide)
   _≤2 ^ 27:=by decide
 ·rename_i b j
  have ex:=hx.blAt;have ey:=hy.intAt;subst ex ey
  cases rx
  obtain⟨t,rfl⟩:=ry;exact PySem.IntBool.add_bool_int ⟨.int _,H,I.tok _,⟨_,rfl⟩,h.rep (De _)⟩
 ·rename_i b j
  have ex:=hx.blAt;have ey:=hy.intAt;subst ex ey
  cases rx
  obtain⟨t,rfl⟩:=ry;exact PySem.IntBool.sub_bool_int ⟨.int _,H,I.tok _,⟨_,rfl⟩,h.rep (De _)⟩
 ·rename_i i b
  have ex:=hx.intAt;have ey:=hy.blAt;subst ex ey
  cases ry
  obtain⟨t,rfl⟩:=rx;exact PySem.IntBool.sub_int_bool ⟨.int _,H,I.tok _,⟨_,rfl⟩,h.rep (De _)⟩
 ·exact h.elim
end
end SF
namespace SF
open PySem PySem.Spec PyProof.Rows L2
variable[TN]
mutual
theorem Xo:∀(d:Dat) (n:Nat),okk n d=true→(nkD d).depth≤n
 | .non,n,_=>by simp[nkD,NestedKey.depth]
 | .bl _,n,_=>by simp[nkD,NestedKey.depth]
 | .int _,n,_=>by simp[nkD,NestedKey.depth]
 | .str _,n,_=>by simp[nkD,NestedKey.depth]
 | .tup l,0,h=>by simp[okk]at h
 | .tup l,n+1,h=>by
  rw[okk]at h;have:=nkDs_depth l n h;simp only[nkD,NestedKey.depth];omega
 | .lst l,n,h=>by cases n<;>simp[okk]at h
 | .dic l,n,h=>by cases n<;>simp[okk]at h
 | .obj _ l,n,h=>by cases n<;>simp[okk]at h
 | .pot,n,h=>by cases n<;>simp[okk]at h
 | .scr l,n,h=>by cases n<;>simp[okk]at h
 | .kd l,n,h=>by cases n<;>simp[okk]at h
theorem nkDs_depth:∀(l:List Dat) (n:Nat),okks n l=true→NestedKey.depthAll (nkDs l)≤n
 | [],n,_=>by simp[nkDs,NestedKey.depthAll]
 | x::r,n,h=>by
  rw[okks,Yzh]at h;simp only[nkDs,NestedKey.depthAll];exact Nat.max_le.mpr ⟨Xo x n h.1,nkDs_depth r n h.2⟩
end
mutual
theorem Aef:∀(d e:Dat) (n m:Nat),okk n d=true→okk m e=true→NestedKey.beq (nkD d) (nkD e)=eqD d e
 | .non,e,n,m,_,h=>by cases e<;>first|(cases m<;>simp[okk]at h;done)|simp[nkD,NestedKey.beq,eqD]
 | .bl a,e,n,m,_,h=>by
  cases e with
  | bl b=>cases a<;>cases b<;>simp[nkD,NestedKey.beq,eqD]
  | int j=>simp only[nkD,NestedKey.beq,eqD];exact(Jk _ _).symm
  | _=>first|(cases m<;>simp[okk]at h;done)|simp[nkD,NestedKey.beq,eqD]
 | .int a,e,n,m,_,h=>by
  cases e with
  | bl b=>simp only[nkD,NestedKey.beq,eqD];exact(Jk _ _).symm
  | int j=>simp only[nkD,NestedKey.beq,eqD];exact(Jk _ _).symm
  | _=>first|(cases m<;>simp[okk]at h;done)|simp[nkD,NestedKey.beq,eqD]
 | .str a,e,n,m,_,h=>by
  cases e with
  | str b=>simp only[nkD,NestedKey.beq,eqD];rw[← Ad1];exact(Jk _ _).symm
  | _=>first|(cases m<;>simp[okk]at h;done)|simp[nkD,NestedKey.beq,eqD]
 | .tup l,e,0,m,h,_=>by simp[okk]at h
 | .tup l,e,n+1,0,h,h'=>by
  cases e with
  | tup r=>simp[okk]at h'
  | _=>first|(simp[okk]at h';done)|simp[nkD,NestedKey.beq,eqD]
 | .tup l,e,n+1,m+1,h,h'=>by
  cases e with
  | tup r=>
   rw[okk]at h h';simp only[nkD,NestedKey.beq,eqD];exact nkDs_beq l r n m h h'
  | _=>first|(simp[okk]at h';done)|simp[nkD,NestedKey.beq,eqD]
 | .lst l,e,n,m,h,_=>by cases n<;>simp[okk]at h
 | .dic l,e,n,m,h,_=>by cases n<;>simp[okk]at h
 | .obj _ l,e,n,m,h,_=>by cases n<;>simp[okk]at h
 | .pot,e,n,m,h,_=>by cases n<;>simp[okk]at h
 | .scr l,e,n,m,h,_=>by cases n<;>simp[okk]at h
 | .kd l,e,n,m,h,_=>by cases n<;>simp[okk]at h
theorem nkDs_beq:∀(l r:List Dat) (n m:Nat),okks n l=true→okks m r=true→NestedKey.beqAll (nkDs l) (nkDs r)=eqDs l r
 | [],[],_,_,_,_=>by simp[nkDs,NestedKey.beqAll,eqDs]
 | [],y::ys,_,_,_,_=>by simp[nkDs,NestedKey.beqAll,eqDs]
 | x::xs,[],_,_,_,_=>by simp[nkDs,NestedKey.beqAll,eqDs]
 | x::xs,y::ys,n,m,h,h'=>by
  rw[okks,Yzh]at h h';simp only[nkDs,NestedKey.beqAll,eqDs];rw[Aef x y n m h.1 h'.1,nkDs_beq xs ys n m h.2 h'.2]
end
theorem Uv{d:Dat}(h:okK d=true):okk 8 d=true:=by
 cases d<;>first|(simp[okK]at h;done)|(simpa only[okK,okk]using h)
theorem Aeb{d:Dat}(h:okK d=true):∃l,d = .tup l:=by
 cases d<;>first|(simp[okK]at h;done)|exact⟨_,rfl⟩
theorem Ac4{d e:Dat}(h:okK d=true)(h':okK e=true):decide (nkD d=nkD e)=eqD d e:=by
 rw[NestedKey.decide_eq];exact Aef d e 8 8 (Uv h) (Uv h')
section
variable{X:Cx}{pins:List (Addr×Obj)}{σ:L2.St}{H:Hp}{s:Shared}
mutual
theorem Rep.nested(I:L2.Inv X pins σ H s):∀(d:Dat) (n:Nat) (v:V) (u:Value),okk n d=true→Rep X.kw H v d→L2.RelV v u→NestedIs s.heap (nkD d) u
 | .non,n,v,u,_,h,r=>by rw[Rep]at h;subst h;cases r;rw[nkD];exact .none
 | .bl b,n,v,u,_,h,r=>by rw[Rep]at h;subst h;cases r;rw[nkD];exact .bool rfl
 | .int i,n,v,u,_,h,r=>by rw[Rep]at h;subst h;obtain⟨t,rfl⟩:=r;rw[nkD];exact .int _ _
 | .str x,n,v,u,_,h,r=>by
  rw[Rep]at h;obtain⟨rfl,_⟩:=h;obtain⟨t,rfl⟩:=r;rw[nkD];exact .text _ _
 | .tup l,0,v,u,o,h,r=>by simp[okk]at o
 | .tup l,n+1,v,u,o,h,r=>by
  rw[okk]at o;rw[Rep]at h;obtain⟨a,vs,rfl,h2,h3,h4⟩:=h
  cases r
  obtain⟨its,rv,⟨ob,ho,hc,k,hd⟩,_⟩:=I.tuple h2.sq;rw[nkD];exact .tup ho hc hd (by simpa using Reps.nested I l n vs its o h4 rv)
 | .lst l,n,v,u,o,h,r=>by cases n<;>simp[okk]at o
 | .dic l,n,v,u,o,h,r=>by cases n<;>simp[okk]at o
 | .obj c l,n,v,u,o,h,r=>by cases n<;>simp[okk]at o
 | .pot,n,v,u,o,h,r=>by cases n<;>simp[okk]at o
 | .scr l,n,v,u,o,h,r=>by cases n<;>simp[okk]at o
 | .kd l,n,v,u,o,h,r=>by cases n<;>simp[okk]at o
theorem Reps.nested(I:L2.Inv X pins σ H s):∀(l:List Dat) (n:Nat) (vs:List V) (us:List Value),okks n l=true→Reps X.kw H vs l→L2.Vals vs us→NestedAll s.heap (nkDs l) us
 | [],n,[],us,_,_,r=>by cases r;rw[nkDs];exact .nil
 | [],n,_::_,us,_,h,_=>by simp[Reps]at h
 | _::_,n,[],us,_,h,_=>by simp[Reps]at h
 | d::ds,n,v::vs,us,o,h,r=>by
  rw[okks,Yzh]at o;rw[Reps]at h
  cases r with
  | cons r1 r2=>
   rw[nkDs];exact .cons (Rep.nested I d n v _ o.1 h.1 r1) (Reps.nested I ds n vs _ o.2 h.2 r2)
end
theorem Rep.key(I:L2.Inv X pins σ H s){d:Dat}{v:V}{u:Value}(o:okK d=true)(h:Rep X.kw H v d)(r:L2.RelV v u):∃b,v = .ref b∧u = .ref b∧(nestedKind X.prog X.w).is s.heap (nkD d) b:=by
 obtain⟨l,rfl⟩:=Aeb o;have h':=h;rw[Rep]at h';obtain⟨a,vs,rfl,_⟩:=h'
 cases r
 exact⟨a,rfl,rfl,Rep.nested I _ 8 _ _ (Uv o) h rfl,Xo _ 8 (Uv o)⟩
theorem BRep.tupV{K:KW}{v:V}{d:Dat}(o:okK d=true)(h:BRep K H v d):Rep K H v d:=by
 obtain⟨l,rfl⟩:=Aeb o
 rcases h with h|⟨a,rfl,h⟩
 ·exact h
 ·exact h.elim
theorem BRep.kdAt{K:KW}{v:V}{l:List (Dat×Dat)}(h:BRep K H v (.kd l)):∃a xs,v = .ref a∧((a == sysModules)=false)∧Rd H a (kdO K a xs)∧l.length≤sizeLine∧(xs.map (·.1)).Nodup∧RepKd K H xs l:=by
 rcases h with h|⟨a,rfl,xs,h1,h2,h3,h4⟩
 ·rw[Rep]at h
  obtain⟨a,xs,rfl,⟨h2,o,h3⟩,h4,h5,h6⟩:=h;exact⟨a,xs,rfl,h2,.inr ⟨o,h3⟩,h4,h5,h6⟩
 ·exact⟨a,xs,rfl,h1.1,.inl h1.2,h2,h3,h4⟩
abbrev KdRel(xs:List (NestedKey×Addr×V))(us:List (NestedKey×Addr×Value)):Prop:=Paired (λ(p:NestedKey×Addr×V) (q:NestedKey×Addr×Value)=>p.1=q.1∧p.2.1=q.2.1∧RelV p.2.2 q.2.2) xs us
theorem Aol(I:L2.Inv X pins σ H s):∀{xs:List (NestedKey×Addr×V)} {us:List (NestedKey×Addr×Value)} {l:List (Dat×Dat)},KdRel xs us→RepKd X.kw H xs l→∀x∈us,(nestedKind X.prog X.w).is s.heap x.1 x.2.1
 | _,_,[],.nil,_,x,hx=>by cases hx
 | _,_,_::_,.nil,h,x,hx=>by cases hx
 | _,_,[],.cons _ _,h,_,_=>by simp[RepKd]at h
 | _,_,(c,d)::ds,.cons (a:=(k,b,v)) (b:=(k',b',u)) r t,h,x,hx=>by
  rw[RepKd]at h;obtain⟨⟨o,e,hr⟩,_,h3⟩:=h
  rcases Ad.mp hx with rfl|hx
  ·obtain⟨b1,e1,e2,e3⟩:=Rep.key I o hr rfl
   cases e1
   obtain⟨r1,r2,_⟩:=r;dsimp only at r1 r2 ⊢;rw[← r1,← r2,e];exact e3
  ·exact Aol I t h3 x hx
theorem Ux(I:L2.Inv X pins σ H s){a:Addr}{xs:List (NestedKey×Addr×V)}{l:List (Dat×Dat)}(h:Rd H a (kdO X.kw a xs))(hr:RepKd X.kw H xs l):∃us,KdRel xs us∧s.heap.DictOfH (nestedKind X.prog X.w) a us:=by
 obtain⟨⟨us,o,es,ep,r,ho,hx,hd,he,nd⟩,_⟩:=h.ok I.hok;exact⟨us,r,o,es,ep,ho,hx,hd,he,Aol I r hr,nd⟩
theorem Ade{K:KW}{k:Dat}(hk:okK k=true):∀{xs:List (NestedKey×Addr×V)} {us:List (NestedKey×Addr×Value)} {l:List (Dat×Dat)},KdRel xs us→RepKd K H xs l →
  (getT l k=none∧atKey us (nkD k)=none)∨∃d b v u,getT l k=some d∧atKey us (nkD k)=some (b,u)∧RelV v u∧Rep K H v d
 | _,_,[],.nil,_=>.inl ⟨rfl,rfl⟩
 | _,_,_::_,.nil,h=>by simp[RepKd]at h
 | _,_,[],.cons _ _,h=>by simp[RepKd]at h
 | _,_,(c,d)::ds,.cons (a:=(j,b,v)) (b:=(j',b',u)) r t,h=>by
  rw[RepKd]at h;obtain⟨⟨o,e,hr⟩,h2,h3⟩:=h;obtain⟨r1,r2,r3⟩:=r;dsimp only at r1 r2 r3;subst r1 r2 e;have q:=Ac4 o hk
  cases eb:eqD c k with
  | true=>
   rw[eb]at q;exact .inr ⟨d,b,v,u,by simp[getT,Gh,eb],by simp[atKey,Gh,q],r3,h2⟩
  | false=>
   rw[eb]at q;have q':¬ nkD c=nkD k:=of_decide_eq_false q
   rcases Ade hk t h3 with⟨e1,e2⟩|⟨d',b',v',u',e1,e2,e3,e4⟩
   ·refine .inl ⟨?_,?_⟩
    ·simpa [getT,Gh,eb]using e1
    ·simpa [atKey,Gh,q']using e2
   ·refine .inr ⟨d',b',v',u',?_,?_,e3,e4⟩
    ·simpa [getT,Gh,eb]using e1
    ·simpa [atKey,Gh,q']using e2
theorem Aj4(l:List (Dat×Dat))(k:Dat):Zi l k=(getT l k).isSome:=by
 induction l with
 | nil=>rfl
 | cons p r ih=>cases h:eqD p.1 k<;>simp_all [Zi,getT,Gh]
theorem Ajy{K:KW}{k:Dat}(hk:okK k=true){xs:List (NestedKey×Addr×V)}{us:List (NestedKey×Addr×Value)}{l:List (Dat×Dat)}(r:KdRel xs us)(h:RepKd K H xs l):(atKey us (nkD k)).isSome=Zi l k:=by
 rw[Aj4]
 rcases Ade hk r h with⟨e1,e2⟩|⟨d',b',v',u',e1,e2,e3,e4⟩<;>rw[e1,e2]<;>rfl
theorem Asu{neg:Bool}{a b:Addr}{xs:List (NestedKey×Addr×V)}{l:List (Dat×Dat)}{k:Dat}{A:Around}{E:Value→Shared→Prop}{Q:Value→Shared→Prop}(hu:A.units+10 < cLine)(I:L2.Inv X pins σ H s)(ha:(a == sysModules)=false)(h:Rd H a (kdO X.kw a xs))(hr:RepKd X.kw H xs l)(hk:okK k=true)(hb:Rep X.kw H (.ref b) k)
  (q:∀t,s.toks≤t→L2.Inv X pins σ H { s with toks:=t }→Q (.bool (if neg=true then !Zi l k else Zi l k)) { s with toks:=t }):wpAny (model X.prog X.w) A (compareOp (if neg=true then .NotIn else .In) (.ref b) (.ref a)) Q E s:=by
 obtain⟨us,r,hd⟩:=Ux I h hr;obtain⟨b',e1,_,hi⟩:=Rep.key I hk hb rfl
 cases e1
 have ro:(nestedKind X.prog X.w).room A.in1:=by show A.units+1+8 < cLine;omega
 cases neg with
 | true=>
  show wpAny _ _ (do return .bool (!(← contains (.ref a) (.ref b)))) Q E s
  refine wpAny_bind (wpAny_contains_heap ro hi ha hd (wpAny_pure ?_));rw[Ajy hk r hr];exact q _ (El _ _) (I.tok _)
 | false=>
  show wpAny _ _ (do return .bool (← contains (.ref a) (.ref b))) Q E s
  refine wpAny_bind (wpAny_contains_heap ro hi ha hd (wpAny_pure ?_));rw[Ajy hk r hr];exact q _ (El _ _) (I.tok _)
theorem Anb{a b:Addr}{xs:List (NestedKey×Addr×V)}{l:List (Dat×Dat)}{k d:Dat}{A:Around}{E:Value→Shared→Prop}{Q:Value→Shared→Prop}(hu:A.units+10 < cLine)(I:L2.Inv X pins σ H s)(h:Rd H a (kdO X.kw a xs))(hr:RepKd X.kw H xs l)(hk:okK k=true)(hb:Rep X.kw H (.ref b) k)(hg:getT l k=some d)
  (q:∀t v u,s.toks≤t→L2.Inv X pins σ H { s with toks:=t }→RelV v u→Rep X.kw H v d→Q u { s with toks:=t }):wpAny (model X.prog X.w) A (getItem (.ref a) (.ref b)) Q E s:=by
 obtain⟨us,r,hd⟩:=Ux I h hr;obtain⟨b',e1,_,hi⟩:=Rep.key I hk hb rfl
 cases e1
 have ro:(nestedKind X.prog X.w).room A.in1:=by show A.units+1+8 < cLine;omega
 rcases Ade hk r hr with⟨e1,_⟩|⟨d',b',v',u',e1,e2,e3,e4⟩
 ·rw[hg]at e1;cases e1
 ·rw[hg]at e1
  cases e1
  exact wpAny_getItem_heap ro hi hd e2 (q _ v' u' (El _ _) (I.tok _) e3 e4)
end
end SF
namespace SF
open PySem PySem.Spec PyProof.Rows L2 PySem.SeqAt
variable[TN]
section
variable{A:Around}{s:Shared}{l t:Addr}{dd:Option Addr}{es:Array DictEntry}{n:Nat}{sl:Array (Option Value)}
abbrev Abm(dd:Option Addr)(es:Array DictEntry)(n:Nat)(sl:Array (Option Value)):Obj:={ cls:=.type "dict", dict:=dd,data:=.dict es n,slots:=sl }
theorem Abk(b:Str)(u:Tok):Meets (Builtin.«dict.__eq__» ⟨[.ref l,.str b u],[]⟩) (λ_ R s=>s.heap.get? l=some (Abm dd es n sl)∧R (.ok (.ret .notImplemented)) s):=.of_wp λprog w A R s h=>by
 obtain⟨hp,g,d,tk,os⟩:=s;obtain⟨hl,h⟩:=h;have f1:=F.sub_str_dict
 wp_walk using wpAny_loadPart' hl
 exact⟨_,rfl,h⟩
theorem Aac(b:Str)(u:Tok):Meets (Builtin.«str.__eq__» ⟨[.str b u,.ref l],[]⟩) (λ_ R s=>s.heap.get? l=some (Abm dd es n sl)∧R (.ok (.ret .notImplemented)) s):=.of_wp λprog w A R s h=>by
 obtain⟨hp,g,d,tk,os⟩:=s;obtain⟨hl,h⟩:=h
 wp_walk using wpAny_loadPart' hl,wpAny_load hl
 exact⟨_,rfl,h⟩
theorem V6(b:Str)(u:Tok)(ho:s.heap.get? l=some (Abm dd es n sl))(hu:A.units < cLine):EqAt A s (.ref l) (.str b u) false:=λprog w E Q h=>by
 have ht:s.TypeIs (.ref l) "dict" := ⟨_,ho,rfl⟩;have rc:wpAny (model prog w) A (richCompare .Eq (.ref l) (.str b u)) (λv s'=>v = .bool false∧s'=s) E s:=rc_eq_decline_or (k:=false) ht (typeIs_str s b u) (by decide) F.sub_str_dict F.slot_dict_eq F.slot_str_eq_refl
  (λ_ q=>call_meets F.slot_dict_eq ht F.entry_dict_eq (F.args_dict_eq_2 _ _) (Abk b u) ⟨ho,q⟩)
  (λ_ q=>call_meets F.slot_str_eq_refl (typeIs_str s b u) F.entry_str_eq (F.args_str_eq_2 _ _) (Aac b u) ⟨ho,q⟩)
  (λ_ q=>wpAny_of_eq (rfl:isSame (.ref l) (.str b u)=pure false) q) (.inr hu) ⟨rfl,rfl⟩
 unfold eqBool;refine wpAny_holding (wpAny_ite_split (λe=>nomatch eq_of_beq e) λ_=>wpAny_bind (wpAny_mono rc (λv s' q=>?_) λ_ _ q=>q));obtain⟨rfl,rfl⟩:=q;exact wpAny_truthy_bool h
theorem Abj{its:Array Value}{m:Nat}{d2:Option Addr}{s2:Array (Option Value)}:Meets (Builtin.«dict.__ne__» ⟨[.ref l,.ref t],[]⟩) (λ_ R s=>s.heap.get? l=some (Abm dd es n sl)∧s.heap.get? t=some { cls:=.type "tuple", dict:=d2,data:=.seq its m,slots:=s2 }∧R (.ok (.ret .notImplemented)) s):=.of_wp λprog w A R s h=>by
 obtain⟨hp,g,d,tk,os⟩:=s;obtain⟨hl,ht,h⟩:=h;have f1:=F.sub_tuple_dict
 wp_walk using wpAny_loadPart' hl,wpAny_load ht
 exact⟨_,rfl,h⟩
theorem Z9{its:Array Value}{m:Nat}{d2:Option Addr}{s2:Array (Option Value)}:Meets (Builtin.«tuple.__ne__» ⟨[.ref t,.ref l],[]⟩) (λ_ R s=>s.heap.get? l=some (Abm dd es n sl)∧s.heap.get? t=some { cls:=.type "tuple", dict:=d2,data:=.seq its m,slots:=s2 }∧R (.ok (.ret .notImplemented)) s):=.of_wp λprog w A R s h=>by
 obtain⟨hp,g,d,tk,os⟩:=s;obtain⟨hl,ht,h⟩:=h;have f1:=F.sub_dict_tuple
 wp_walk using wpAny_loadPart' ht,wpAny_load hl
 exact⟨_,rfl,h⟩
theorem Abl{its:Array Value}(ho:s.heap.get? l=some (Abm dd es n sl))(ht:s.heap.IsTuple t its)(hu:A.units < cLine):RcNeAt A s (.ref l) (.ref t) true:=λprog w E Q h=>by
 obtain⟨⟨cls,d2,data,s2⟩,h2,hc,m,hd⟩:=id ht;simp only at hc hd
 subst hc hd;have hne:l≠t:=λe=>by
  subst e;rw[ho]at h2;simp[Abm]at h2
 exact rc_ne_decline_or (k:=false) ⟨_,ho,rfl⟩ ⟨_,h2,rfl⟩ (by decide) F.sub_tuple_dict F.slot_dict_ne F.slot_tuple_ne_refl
  (λ_ q=>call_meets F.slot_dict_ne ⟨_,ho,rfl⟩ F.entry_dict_ne (F.args_dict_ne_2 _ _) Abj ⟨ho,h2,q⟩)
  (λ_ q=>call_meets F.slot_tuple_ne_refl ⟨_,h2,rfl⟩ F.entry_tuple_ne (F.args_tuple_ne_2 _ _) Z9 ⟨ho,h2,q⟩)
  (λ_ q=>wpAny_isSame_ref_other hne ho h2 (by simp) q) (.inr hu) h
end
end SF
namespace SF
open PySem PySem.Spec PyProof.Rows L2
variable[TN]
theorem Aji{P:Program}{w:World}{A:Around}{E:Value→Shared→Prop}{s:Shared}{a b:Addr}{its:Array Value}{Q:Value→Shared→Prop}(ha:s.heap.IsTuple a its)(hb:s.heap.IsTuple b #[])(hu:A.units < cLine)(h:Q (.bool (!its.isEmpty)) s) :
  wpAny (model P w) A (compareOp .NotEq (.ref a) (.ref b)) Q E s:=by
 have q:=SeqAt.RcNeAt.tuples (A:=A) (e:=λ_=>true) ha hb hu (λj h1 h2=>absurd h2 (Nat.not_lt_zero _));refine q P w E Q ?_;have e:(!((Dz (min its.size (#[]:Array Value).size)).all (λ_=>true) && its.size == (#[]:Array Value).size)) = !its.isEmpty:=by
  cases its with
  | mk l=>cases l<;>simp
 rw[e];exact h
theorem Agd{P:Program}{w:World}{A:Around}{E:Value→Shared→Prop}{s:Shared}{a b:Addr}{its:Array Value}{Q:Value→Shared→Prop}(ha:s.heap.IsList a its)(hb:s.heap.IsList b #[])(hu:A.units < cLine)(h:Q (.bool (!its.isEmpty)) s) :
  wpAny (model P w) A (compareOp .NotEq (.ref a) (.ref b)) Q E s:=by
 by_cases z:its.size=0
 ·have q:=SeqAt.RcNeAt.lists (A:=A) (e:=λ_=>true) ha hb z hu λj h1 h2=>absurd h2 (Nat.not_lt_zero _)
  refine q P w E Q ?_;obtain rfl:its = #[]:=Array.eq_empty_of_size_eq_zero z;exact h
 ·have ne:(its.size != (#[]:Array Value).size)=true:=bne_iff_ne.mpr z
  refine SeqAt.RcNeAt.lists_lengths (A:=A) ha hb ne hu P w E Q ?_;have e:(!its.isEmpty)=true:=by
   rw[Array.isEmpty,decide_eq_false z];rfl
  rw[e]at h;exact h
def Ju:C2→CmpOp
 | .eq=>.Eq | .ne=>.NotEq | .lt=>.Lt | .le=>.LtE | .gt=>.Gt | .ge=>.GtE | .inn=>.In | .nin=>.NotIn | .neE=>.NotEq | .neT=>.NotEq | .eqT=>.Eq | .neL=>.NotEq
def rC2(K:KW)(o:C2):R2:=λx y H Q=>∃dx dy,BRep K H x dx∧BRep K H y dy∧Ij o dx dy λb=>Q (.bl b) H
theorem Aaz{l:List Dat}(h:∀z∈l,okd 60 z):okd 61 (.lst l):=by simpa only[okd]using h
theorem Aay{l:List Dat}(h:∀z∈l,okd 60 z):okd 61 (.tup l):=by simpa only[okd]using h
theorem Ae4{l:List Dat}{x:Dat}(hx:okd 60 x)(hl:∀z∈l,okd 60 z):((toPys l).any λy=>PyData.eqv y (Ar x))=l.any λz=>eqD z x:=by
 induction l with
 | nil=>simp[toPys]
 | cons z r ih=>
  simp only[toPys,Jv];rw[ih λy hy=>hl y (by simp[hy]),Ml z x 60 (hl z (by simp)) hx]
theorem R3(s:List Nat)(k:Key):decide (k = .inr (⟨s.toArray⟩:Str))=Pq s (kD k):=by
 cases k with
 | inl i=>rfl
 | inr x=>
  show decide (Sum.inr x=Sum.inr (⟨s.toArray⟩:Str))=decide (x.cps.toList=s)
  refine decide_eq_decide.mpr ⟨λe=>?_,λe=>?_⟩
  ·injection e with e
   rw[e]
  ·rw[← e]
theorem RepKv.get{K:KW}{H:Hp}{s:List Nat}{d:Dat}:∀{l:List (Dat×Dat)} {kvs:List (Key×V)},RepKv K H kvs l→Mi l s=some d→∃v,valV kvs (.inr (⟨s.toArray⟩:Str))=some v∧Rep K H v d
 | [],[],_,h=>by simp[Mi]at h
 | [],_::_,h,_=>by simp[RepKv]at h
 | (_,_)::_,[],h,_=>by simp[RepKv]at h
 | (c,e)::l,(k,v)::kvs,h,g=>by
  rw[RepKv]at h;obtain⟨rfl,h2,h3⟩:=h
  cases q:Pq s (kD k)with
  | true=>
   have e1:k = .inr (⟨s.toArray⟩:Str):=of_decide_eq_true ((R3 s k).trans q);refine⟨v,valV_pos e1,?_⟩;have:Mi ((kD k,e)::l) s=some e:=by simp[Mi,q]
   rw[this]at g
   cases g
   exact h2
  | false=>
   have e1:¬ k = .inr (⟨s.toArray⟩:Str):=of_decide_eq_false ((R3 s k).trans q);rw[valV_neg e1];refine RepKv.get h3 ?_;rw[← g];simp[Mi,q]
theorem RepKv.any{K:KW}{H:Hp}{s:List Nat}:∀{l:List (Dat×Dat)} {kvs:List (Key×V)},RepKv K H kvs l→(kvs.any λkv=>decide (kv.1 = .inr (⟨s.toArray⟩:Str)))=l.any λp=>Pq s p.1
 | [],[],_=>rfl
 | [],_::_,h=>by simp[RepKv]at h
 | (_,_)::_,[],h=>by simp[RepKv]at h
 | (c,e)::l,(k,v)::kvs,h=>by
  rw[RepKv]at h;obtain⟨rfl,h2,h3⟩:=h;rw[Jv,Jv,R3,RepKv.any h3]
theorem RepKv.repl{K:KW}{H:Hp}{s:List Nat}{w:V}{d:Dat}(r:Rep K H w d):∀{l:List (Dat×Dat)} {kvs:List (Key×V)},RepKv K H kvs l →
  RepKv K H (kvs.map λkv=>if kv.1 = .inr (⟨s.toArray⟩:Str)then(kv.1,w)else kv) (l.map λp=>if Pq s p.1=true then(p.1,d)else p)
 | [],[],_=>by rw[Cy,Cy,RepKv];trivial
 | [],_::_,h=>by simp[RepKv]at h
 | (_,_)::_,[],h=>by simp[RepKv]at h
 | (c,e)::l,(k,v)::kvs,h=>by
  rw[RepKv]at h;obtain⟨rfl,h2,h3⟩:=h;rw[Yzs,Yzs]
  cases q:Pq s (kD k)with
  | true=>
   have e1:k = .inr (⟨s.toArray⟩:Str):=of_decide_eq_true ((R3 s k).trans q);rw[if_pos e1,if_pos rfl,RepKv];exact⟨rfl,r,RepKv.repl r h3⟩
  | false=>
   have e1:¬ k = .inr (⟨s.toArray⟩:Str):=of_decide_eq_false ((R3 s k).trans q);rw[if_neg e1,if_neg (by decide),RepKv];exact⟨rfl,h2,RepKv.repl r h3⟩
theorem RepKv.snoc{K:KW}{H:Hp}{s:List Nat}{w:V}{d:Dat}(r:Rep K H w d):∀{l:List (Dat×Dat)} {kvs:List (Key×V)},RepKv K H kvs l→RepKv K H (kvs++[(.inr (⟨s.toArray⟩:Str),w)]) (l++[(.str s,d)])
 | [],[],_=>by rw[Ep,Ep,RepKv,RepKv];exact⟨by simp[kD],r,trivial⟩
 | [],_::_,h=>by simp[RepKv]at h
 | (_,_)::_,[],h=>by simp[RepKv]at h
 | (c,e)::l,(k,v)::kvs,h=>by
  rw[RepKv]at h;rw[Bh,Bh,RepKv];exact⟨h.1,h.2.1,RepKv.snoc r h.2.2⟩
theorem RepKv.put{K:KW}{H:Hp}{s:List Nat}{w:V}{d:Dat}{l:List (Dat×Dat)}{kvs:List (Key×V)}(h:RepKv K H kvs l)(r:Rep K H w d):RepKv K H (putK kvs (.inr (⟨s.toArray⟩:Str)) w) (Asp l s d):=by
 unfold putK Asp;rw[h.any (s:=s)];by_cases c:(l.any λp=>Pq s p.1)=true
 ·rw[if_pos c,if_pos c]
  exact h.repl r
 ·rw[if_neg c,if_neg c]
  exact h.snoc r
theorem Zf(i:Int)(k:Key):decide (k = .inl i)=Zh i (kD k):=by
 cases k with
 | inl j=>
  show decide (Sum.inl j=Sum.inl i)=decide (j=i)
  exact decide_eq_decide.mpr ⟨λe=>by injection e,λe=>by rw[e]⟩
 | inr x=>rfl
theorem RepKv.getI{K:KW}{H:Hp}{i:Int}{d:Dat}:∀{l:List (Dat×Dat)} {kvs:List (Key×V)},RepKv K H kvs l→Il l i=some d→∃v,valV kvs (.inl i)=some v∧Rep K H v d
 | [],[],_,h=>by simp[Il]at h
 | [],_::_,h,_=>by simp[RepKv]at h
 | (_,_)::_,[],h,_=>by simp[RepKv]at h
 | (c,e)::l,(k,v)::kvs,h,g=>by
  rw[RepKv]at h;obtain⟨rfl,h2,h3⟩:=h
  cases q:Zh i (kD k)with
  | true=>
   have e1:k = .inl i:=of_decide_eq_true ((Zf i k).trans q);refine⟨v,valV_pos e1,?_⟩;have:Il ((kD k,e)::l) i=some e:=by simp[Il,q]
   rw[this]at g
   cases g
   exact h2
  | false=>
   have e1:¬ k = .inl i:=of_decide_eq_false ((Zf i k).trans q);rw[valV_neg e1];refine RepKv.getI h3 ?_;rw[← g];simp[Il,q]
theorem RepKv.lackI{K:KW}{H:Hp}{i:Int}:∀{l:List (Dat×Dat)} {kvs:List (Key×V)},RepKv K H kvs l→Il l i=none→valV kvs (.inl i)=none
 | [],[],_,h=>rfl
 | [],_::_,h,_=>by simp[RepKv]at h
 | (_,_)::_,[],h,_=>by simp[RepKv]at h
 | (c,e)::l,(k,v)::kvs,h,g=>by
  rw[RepKv]at h;obtain⟨rfl,h2,h3⟩:=h
  cases q:Zh i (kD k)with
  | true=>
   have:Il ((kD k,e)::l) i=some e:=by simp[Il,q]
   rw[this]at g
   cases g
  | false=>
   have e1:¬ k = .inl i:=of_decide_eq_false ((Zf i k).trans q);rw[valV_neg e1];refine h3.lackI ?_;have:Il ((kD k,e)::l) i=Il l i:=by simp[Il,q]
   rw[this]at g;exact g
theorem RepKv.lack{K:KW}{H:Hp}{s:List Nat}:∀{l:List (Dat×Dat)} {kvs:List (Key×V)},RepKv K H kvs l→Mi l s=none→valV kvs (.inr (⟨s.toArray⟩:Str))=none
 | [],[],_,h=>rfl
 | [],_::_,h,_=>by simp[RepKv]at h
 | (_,_)::_,[],h,_=>by simp[RepKv]at h
 | (c,e)::l,(k,v)::kvs,h,g=>by
  rw[RepKv]at h;obtain⟨rfl,h2,h3⟩:=h
  cases q:Pq s (kD k)with
  | true=>
   have:Mi ((kD k,e)::l) s=some e:=by simp[Mi,q]
   rw[this]at g
   cases g
  | false=>
   have e1:¬ k = .inr (⟨s.toArray⟩:Str):=of_decide_eq_false ((R3 s k).trans q);rw[valV_neg e1];refine RepKv.lack h3 ?_;rw[← g];simp[Mi,q]
theorem RepKv.length{K:KW}{H:Hp}:∀{l:List (Dat×Dat)} {kvs:List (Key×V)},RepKv K H kvs l→kvs.length=l.length
 | [],[],_=>rfl
 | [],_::_,h=>by simp[RepKv]at h
 | (_,_)::_,[],h=>by simp[RepKv]at h
 | (c,e)::l,(k,v)::kvs,h=>by
  rw[RepKv]at h;rw[Yzk,Yzk,RepKv.length h.2.2]
theorem BRep.dicAt{K:KW}{H:Hp}{v:V}{l:List (Dat×Dat)}(h:BRep K H v (.dic l)):∃a kvs,v = .ref a∧Rd H a (.dK kvs)∧RepKv K H kvs l∧l.length≤sizeLine:=by
 rcases h with h|⟨a,rfl,vs,h1,h2,h3⟩
 ·rw[Rep]at h
  obtain⟨a,vs,rfl,⟨o,h2⟩,h3,h4⟩:=h;exact⟨a,vs,rfl,.inr ⟨o,h2⟩,h4,h3⟩
 ·exact⟨a,vs,rfl,.inl h1,h3,h2⟩
section
variable{X:Cx}
theorem Aoj(hu:X.A.units+200 < cLine)(neg:Bool):OpR X (compareOp (if neg then .NotIn else .In)) (λx y H Q=>∃dx dy,BRep X.kw H x dx∧BRep X.kw H y dy∧inW dx dy λb=>Q (.bl (if neg then !b else b)) H):=by
 intro pins s σ H x y v u Q I rx ry ⟨dx,dy,hx,hy,h⟩;unfold inW at h
 split at h
 ·rename_i l
  obtain⟨h1,h2,h3⟩:=h;obtain⟨as,ra⟩:=hx.reads I h1 rx;obtain⟨bs,rb⟩:=hy.reads I (Aay h2) ry;have pl:=Dg 61 _ (Aay h2);have px:=Dg 60 _ h1;simp only[Ar,PyData.plain,PyData.depth]at pl rb;rw[← Ae4 h1 h2]at h3
  cases neg with
  | false=>exact SeqAt.in_tuple_data rb ra pl.1 px.1 (by have:=px.2;omega) ⟨.bl _,H,I,rfl,h3⟩
  | true=>exact SeqAt.notIn_tuple_data rb ra pl.1 px.1 (by have:=px.2;omega) ⟨.bl _,H,I,rfl,h3⟩
 ·rename_i l
  obtain⟨h1,h2,h3⟩:=h;obtain⟨as,ra⟩:=hx.reads I h1 rx;obtain⟨bs,rb⟩:=hy.reads I (Aaz h2) ry;have pl:=Dg 61 _ (Aaz h2);have px:=Dg 60 _ h1;simp only[Ar,PyData.plain,PyData.depth]at pl rb;rw[← Ae4 h1 h2]at h3
  cases neg with
  | false=>exact SeqAt.in_list_data rb ra pl.1 px.1 (by have:=px.2;omega) ⟨.bl _,H,I,rfl,h3⟩
  | true=>exact SeqAt.notIn_list_data rb ra pl.1 px.1 (by have:=px.2;omega) ⟨.bl _,H,I,rfl,h3⟩
 ·rename_i t
  split at h
  ·rename_i c
   obtain⟨rfl,_⟩:=hx.strAt;obtain⟨rfl,_⟩:=hy.strAt
   cases neg with
   | false=>exact op_in_sign pins s σ H _ _ v u Q I rx ry ⟨c,_,rfl,rfl,by simpa using h⟩
   | true=>exact op_notIn_sign pins s σ H _ _ v u Q I rx ry ⟨c,_,rfl,rfl,by simpa using h⟩
  ·exact h.elim
 ·rename_i l
  obtain⟨ok,h⟩:=h;obtain⟨a,xs,rfl,hm,hr,hz,nd,hkd⟩:=hy.kdAt;have hk:=BRep.tupV ok hx;obtain⟨b,rfl,rfl,_⟩:=Rep.key I ok hk rx
  cases ry
  exact Asu (by omega) I hm hr hkd ok hk λt ht I'=>⟨.bl _,H,I',rfl,h⟩
 ·rename_i l
  split at h
  ·rename_i t
   obtain⟨a,kvs,rfl,h1,h2,_⟩:=hy.dicAt;obtain⟨ex,_⟩:=hx.strAt;subst ex
   cases ry
   have g:DGet H a (.str ⟨t.toArray⟩) (valV kvs (.inr (⟨t.toArray⟩:Str))):=.inl ⟨kvs,.inr ⟨t.toArray⟩,h1,rfl,rfl⟩;have eo:(valV kvs (.inr (⟨t.toArray⟩:Str))).isSome=(Mi l t).isSome:=by
    cases hg:Mi l t with
    | none=>rw[h2.lack hg];rfl
    | some d=>obtain⟨w,e2,_⟩:=h2.get hg;rw[e2];rfl
   rw[← eo]at h
   cases neg with
   | true=>exact d_notIn (by omega) I g rx λs' I'=>⟨.bl _,H,I',rfl,h⟩
   | false=>exact d_in (by omega) I g rx λs' I'=>⟨.bl _,H,I',rfl,h⟩
  ·exact h.elim
 ·exact h.elim
theorem Uu{x y:Dat}{r:Bool}{Q:Bool→Prop}(h:M9 x y r Q):PySem.W.alike (Ar x) (Ar y)=true∧Ar x ≠ .none∧okd 60 x∧okd 60 y∧Av x y=true∧Q r:=by
 obtain⟨⟨h1,h2,h3,h4⟩,h5⟩:=h;refine⟨Jy x y h2,λe=>?_,h3,h4,h2,h5⟩
 cases x<;>simp_all [Ar,Uc]
mutual
theorem Oq:∀x y:Dat,Av x y=Av y x
 | .non,y=>by cases y<;>simp[Av]
 | .bl _,y=>by cases y<;>simp[Av]
 | .int _,y=>by cases y<;>simp[Av]
 | .str _,y=>by cases y<;>simp[Av]
 | .tup l,y=>by
  cases y with
  | tup r=>simp only[Av];exact alikeDs_comm l r
  | _=>simp[Av]
 | .lst l,y=>by
  cases y with
  | lst r=>simp only[Av];exact alikeDs_comm l r
  | _=>simp[Av]
 | .dic _,y=>by cases y<;>simp[Av]
 | .obj _ _,y=>by cases y<;>simp[Av]
 | .pot,y=>by cases y<;>simp[Av]
 | .scr _,y=>by cases y<;>simp[Av]
 | .kd _,y=>by cases y<;>simp[Av]
theorem alikeDs_comm:∀xs ys:List Dat,alikeDs xs ys=alikeDs ys xs
 | [],[]=>rfl
 | [],_::_=>by simp[alikeDs]
 | _::_,[]=>by simp[alikeDs]
 | x::xs,y::ys=>by simp only[alikeDs];rw[Oq x y,alikeDs_comm xs ys]
end
section
variable{X:Cx}{pins:List (Addr×Obj)}{σ:L2.St}{H:Hp}{s:Shared}
theorem Ae1{a:Addr}{kvs:List (Key×V)}(I:L2.Inv X pins σ H s)(h:Rd H a (.dK kvs)):∃dd es n sl,s.heap.get? a=some (Abm dd es n sl):=by
 obtain⟨_,_,vs,_,o,es,ep,ho,ex,hd,_⟩:=h.ok I.hok;obtain⟨cls,dd,data,sl⟩:=o;have hc:=ex.1;simp only at hc hd
 subst hc hd;exact⟨_,_,_,_,ho⟩
theorem Ajz{A:Around}(I:L2.Inv X pins σ H s){v:V}{u:Value}{d:Dat}(b:BRep X.kw H v d)(r:L2.RelV v u)(ok:Gv d=true)(hu:A.units < cLine)(t:List Nat)(tk:Tok):SeqAt.EqAt A s u (.str ⟨t.toArray⟩ tk) (eqD d (.str t)):=by
 cases d with
 | non=>
  have e:v = .non:=by rcases b with b|⟨a,_,b⟩;(rw[Rep]at b;exact b);exact b.elim
  subst e
  cases r
  exact SeqAt.EqAt.none_str _ _
 | bl k=>
  have e:=b.blAt;subst e
  cases r
  exact SeqAt.EqAt.bool_str _ _ _
 | int i=>
  have e:=b.intAt;subst e;obtain⟨t2,rfl⟩:=r;exact SeqAt.EqAt.int_str _ _ _ _
 | str x=>
  obtain⟨e,_⟩:=b.strAt;subst e;obtain⟨t2,rfl⟩:=r;have q:=SeqAt.EqAt.str_str (A:=A) (s:=s) ⟨x.toArray⟩ t2 ⟨t.toArray⟩ tk;rw[← SeqAt.str_beq]at q;exact q
 | tup l=>
  obtain⟨a,vs,rfl,h1,_⟩:=b.tupAt
  cases r
  obtain⟨its,_,p,_⟩:=I.tuple h1.sq;exact SeqAt.EqAt.tuple_str _ _ p hu
 | lst l=>
  obtain⟨a,vs,rfl,h1,_⟩:=b.lstAt
  cases r
  obtain⟨z,its,k,_,q⟩:=h1.ok I.hok;exact SeqAt.EqAt.list_str (items:=its.toArray) _ _ ⟨_,q,rfl,k,rfl⟩ hu
 | dic l=>
  obtain⟨a,kvs,rfl,h1,_⟩:=b.dicAt
  cases r
  obtain⟨dd,es,n,sl,ho⟩:=Ae1 I h1;exact V6 _ _ ho hu
 | _=>cases ok
end
section
variable{X:Cx}{pins:List (Addr×Obj)}{σ:L2.St}{H:Hp}{s:Shared}
def Aax(l:List Dat)(ts:List (List Nat))(j:Nat):Bool:=match l[j]?,ts[j]? with|some d,some t=>eqD d (.str t)|_,_=>false
theorem Ye{l:List Dat}{ts:List (List Nat)}:(((Dz (min l.length ts.length)).all (Aax l ts)) && l.length == ts.length)=eqD (.tup l) (.tup (ts.map .str)):=by
 rw[eqD]
 induction l generalizing ts with
 | nil=>cases ts<;>simp[eqDs]
 | cons d l ih=>
  cases ts with
  | nil=>simp[eqDs]
  | cons t ts=>
   rw[Yzs,eqDs,← ih];rw[show min (d::l).length (t::ts).length=min l.length ts.length+1 by simp only[Yzk];omega,List.range_succ_eq_map,Eb,List.all_map];have e:((d::l).length == (t::ts).length)=(l.length == ts.length):=by simp
   rw[e];simp only[Function.comp_def,Bool.and_assoc];rfl
theorem Aba{A:Around}(hu:A.units+1 < cLine)(I:L2.Inv X pins σ H s){vs ws:List V}{its jts:List Value}{l:List Dat}{ts:List (List Nat)}(r1:Vals vs its)(r2:Vals ws jts)(h2:Reps X.kw H vs l)(k2:Reps X.kw H ws (ts.map .str))(ok:l.all Gv=true) :
  ∀j (j1:j < its.toArray.size) (j2:j < jts.toArray.size),SeqAt.EqAt A.in1 s its.toArray[j] jts.toArray[j] (Aax l ts j):=λj j1 j2=>by
 have e1:=r1.length;have e2:=r2.length;have e3:=h2.length;have e4:ws.length=ts.length:=by rw[k2.length,Yzi]
 have l1:j < l.length:=by simp at j1;omega
 have l2:j < ts.length:=by simp at j2;omega
 have v1:j < vs.length:=by omega
 have v2:j < ws.length:=by omega
 obtain⟨w1,hw1,R1⟩:=h2.get (Ab l1);obtain⟨w2,hw2,R2⟩:=k2.get (i:=j) (d:=.str ts[j]) (by rw[Af,Ab l2];rfl);obtain⟨u1,hu1,q1⟩:=r1.get hw1;obtain⟨u2,hu2,q2⟩:=r2.get hw2;have e5:its.toArray[j]=u1:=by
  rw[Ab (by simpa using j1)]at hu1
  simpa using hu1
 have e6:jts.toArray[j]=u2:=by
  rw[Ab (by simpa using j2)]at hu2
  simpa using hu2
 rw[e5,e6];rw[Rep]at R2;obtain⟨rfl,_⟩:=R2;obtain⟨tk,rfl⟩:=q2;have oki:Gv l[j]=true:=Ai.mp ok _ (Np l1);unfold Aax;simp only[Ab l1,Ab l2];exact Ajz I (.inl R1) q1 oki (by show A.units+1 < cLine;omega) _ _
theorem Art(hu:X.A.units+200 < cLine)(I:L2.Inv X pins σ H s){x y:V}{v u:Value}{d:Dat}{ts:List (List Nat)}(rx:L2.RelV x v)(ry:L2.RelV y u)(bx:BRep X.kw H x d)(by_:BRep X.kw H y (.tup (ts.map .str)))(ok:Asy d=true):SeqAt.RcNeAt X.A s v u (!eqD d (.tup (ts.map .str))):=by
 obtain⟨b,ws,rfl,k1,k2,k3⟩:=by_.tupAt
 cases ry
 obtain⟨jts,r2,p2,_⟩:=I.tuple k1.sq;have hu0:X.A.units < cLine:=by omega
 cases d with
 | non=>
  have e:x = .non:=by rcases bx with b|⟨a,_,b⟩;(rw[Rep]at b;exact b);exact b.elim
  subst e
  cases rx
  exact SeqAt.RcNeAt.none_tuple p2 hu0
 | bl k=>
  have e:=bx.blAt;subst e
  cases rx
  exact SeqAt.RcNeAt.bool_tuple _ p2 hu0
 | int i=>
  have e:=bx.intAt;subst e;obtain⟨t2,rfl⟩:=rx;exact SeqAt.RcNeAt.int_tuple _ _ p2 hu0
 | str z=>
  obtain⟨e,_⟩:=bx.strAt;subst e;obtain⟨t2,rfl⟩:=rx;exact SeqAt.RcNeAt.str_tuple _ _ p2 hu0
 | lst l=>
  obtain⟨a,vs,rfl,h1,_⟩:=bx.lstAt
  cases rx
  obtain⟨z,its,k,_,q⟩:=h1.ok I.hok;exact SeqAt.RcNeAt.list_tuple (items:=its.toArray) ⟨_,q,rfl,k,rfl⟩ p2 hu0
 | dic l=>
  obtain⟨a,kvs,rfl,h1,_⟩:=bx.dicAt
  cases rx
  obtain⟨dd,es,n,sl,ho⟩:=Ae1 I h1;exact Abl ho p2 hu0
 | tup l=>
  obtain⟨a,vs,rfl,h1,h2,h3⟩:=bx.tupAt
  cases rx
  obtain⟨its,r1,p1,_⟩:=I.tuple h1.sq;have e1:=r1.length;have e2:=r2.length;have e3:=h2.length;have e4:ws.length=ts.length:=by rw[k2.length,Yzi]
  have key:=SeqAt.RcNeAt.tuples (A:=X.A) (e:=Aax l ts) p1 p2 hu0 (Aba (by omega) I r1 r2 h2 k2 ok);have e7:its.toArray.size=l.length:=by simp;omega
  have e8:jts.toArray.size=ts.length:=by simp;omega
  rw[e7,e8,Ye]at key;exact key
 | _=>cases ok
theorem An0(hu:X.A.units+200 < cLine)(I:L2.Inv X pins σ H s){x y:V}{v u:Value}{l:List Dat}{ts:List (List Nat)}(rx:L2.RelV x v)(ry:L2.RelV y u)(bx:BRep X.kw H x (.tup l))(by_:BRep X.kw H y (.tup (ts.map .str)))(ok:l.all Gv=true):SeqAt.RcAt X.A s v u (eqD (.tup l) (.tup (ts.map .str))):=by
 obtain⟨b,ws,rfl,k1,k2,k3⟩:=by_.tupAt;obtain⟨a,vs,rfl,h1,h2,h3⟩:=bx.tupAt
 cases rx
 cases ry
 obtain⟨jts,r2,p2,_⟩:=I.tuple k1.sq;obtain⟨its,r1,p1,_⟩:=I.tuple h1.sq;have e1:=r1.length;have e2:=r2.length;have e3:=h2.length;have e4:ws.length=ts.length:=by rw[k2.length,Yzi]
 have hne:a=b∨a≠b:=Decidable.em _;have key:=SeqAt.RcAt.tuples (A:=X.A) (e:=Aax l ts) p1 p2 (by omega) (Aba (by omega) I r1 r2 h2 k2 ok);have e7:its.toArray.size=l.length:=by simp;omega
 have e8:jts.toArray.size=ts.length:=by simp;omega
 rw[e7,e8,Ye]at key;exact key
end
theorem Xl(hu:X.A.units+200 < cLine)(o:C2):OpR X (compareOp (Ju o)) (rC2 X.kw o):=by
 intro pins s σ H x y v u Q I rx ry ⟨dx,dy,hx,hy,h⟩;have room:∀{a b:Dat},okd 60 a→X.A.units+min (Ar a).depth (Ar b).depth < cLine:=λ{a b} ha=>by have:=(Dg 60 _ ha).2;omega
 cases o with
 | eq=>
  obtain⟨h1,h2,h3⟩:=h;obtain⟨as,ra⟩:=hx.reads I h1 rx;obtain⟨bs,rb⟩:=hy.reads I h2 ry;rw[Ml _ _ 60 h1 h2]at h3;exact SeqAt.eq_plain ra rb (Dg 60 _ h1).1 (Dg 60 _ h2).1 (room h1) ⟨.bl _,H,I,rfl,h3⟩
 | ne=>
  obtain⟨h1,h2,h3⟩:=h;obtain⟨as,ra⟩:=hx.reads I h1 rx;obtain⟨bs,rb⟩:=hy.reads I h2 ry;rw[Ml _ _ 60 h1 h2]at h3;exact SeqAt.ne_plain ra rb (Dg 60 _ h1).1 (Dg 60 _ h2).1 (room h1) ⟨.bl _,H,I,rfl,h3⟩
 | lt=>
  have h:M9 dx dy (ltD dx dy) (λb=>Q (.bl b) H):=h;obtain⟨al,nn,h1,h2,ad,h3⟩:=Uu h;obtain⟨as,ra⟩:=hx.reads I h1 rx;obtain⟨bs,rb⟩:=hy.reads I h2 ry;rw[Ir _ _ 60 h1 h2 ad]at h3;exact PySem.W.lt_data ra rb al nn (room h1) ⟨.bl _,H,I,rfl,h3⟩
 | gt=>
  have h:M9 dx dy (ltD dy dx) (λb=>Q (.bl b) H):=h;obtain⟨al,nn,h1,h2,ad,h3⟩:=Uu h;obtain⟨as,ra⟩:=hx.reads I h1 rx;obtain⟨bs,rb⟩:=hy.reads I h2 ry;rw[Ir _ _ 60 h2 h1 (by rw[Oq];exact ad)]at h3;exact PySem.W.gt_data ra rb al nn (room h1) ⟨.bl _,H,I,rfl,h3⟩
 | le=>
  have h:M9 dx dy (!ltD dy dx) (λb=>Q (.bl b) H):=h;obtain⟨al,nn,h1,h2,ad,h3⟩:=Uu h;obtain⟨as,ra⟩:=hx.reads I h1 rx;obtain⟨bs,rb⟩:=hy.reads I h2 ry;rw[Ir _ _ 60 h2 h1 (by rw[Oq];exact ad)]at h3;exact PySem.W.le_data ra rb al nn (room h1) ⟨.bl _,H,I,rfl,h3⟩
 | ge=>
  have h:M9 dx dy (!ltD dx dy) (λb=>Q (.bl b) H):=h;obtain⟨al,nn,h1,h2,ad,h3⟩:=Uu h;obtain⟨as,ra⟩:=hx.reads I h1 rx;obtain⟨bs,rb⟩:=hy.reads I h2 ry;rw[Ir _ _ 60 h1 h2 ad]at h3;exact PySem.W.ge_data ra rb al nn (room h1) ⟨.bl _,H,I,rfl,h3⟩
 | neE=>
  obtain⟨e,l,e2,q⟩:=h;subst e e2;obtain⟨a,vs,rfl,h1,h2,h3⟩:=hx.tupAt;obtain⟨b,ws,rfl,k1,k2,k3⟩:=hy.tupAt
  cases rx;cases ry
  obtain⟨its,r1,p1,_⟩:=I.tuple h1.sq;obtain⟨jts,r2,p2,_⟩:=I.tuple k1.sq;have e1:=r1.length;have e2:=r2.length;have e3:=h2.length;have e4:ws.length=0:=k2.length;have ej:jts=[]:=Ci (by omega);subst ej;refine Aji p1 p2 (by omega) ⟨.bl _,H,I,rfl,?_⟩;have e5:its.toArray.isEmpty=l.isEmpty:=by
   cases its<;>cases l<;>simp_all
  rw[e5];exact q
 | neL=>
  obtain⟨e,l,e2,q⟩:=h;subst e e2;obtain⟨a,vs,rfl,h1,h2,h3⟩:=hx.lstAt;obtain⟨b,ws,rfl,k1,k2,k3⟩:=hy.lstAt
  cases rx;cases ry
  obtain⟨its,r1,p1,_⟩:=I.list (.inl h1);obtain⟨jts,r2,p2,_⟩:=I.list (.inl k1);have e1:=r1.length;have e2:=r2.length;have e3:=h2.length;have e4:ws.length=0:=k2.length;have ej:jts=[]:=Ci (by omega);subst ej;refine Agd p1.isList p2.isList (by omega) ⟨.bl _,H,I,rfl,?_⟩;have e5:its.toArray.isEmpty=l.isEmpty:=by
   cases its<;>cases l<;>simp_all
  rw[e5];exact q
 | eqT=>
  obtain⟨⟨ts,e⟩,⟨l,e2,ok⟩,q⟩:=h;subst e e2;exact An0 hu I rx ry hx hy ok X.prog X.w _ _ ⟨.bl _,H,I,rfl,q⟩
 | neT=>
  obtain⟨⟨ts,e⟩,ok,q⟩:=h;subst e;exact Art hu I rx ry hx hy ok X.prog X.w _ _ ⟨.bl _,H,I,rfl,q⟩
 | inn=>exact Aoj hu false pins s σ H x y v u Q I rx ry ⟨dx,dy,hx,hy,h⟩
 | nin=>exact Aoj hu true pins s σ H x y v u Q I rx ry ⟨dx,dy,hx,hy,h⟩
def ResV(K:KW)(H:Hp)(Q:VK)(d:Dat):Prop:=∀v,Rep K H v d→Q v H
theorem ResV.rep{K:KW}{H:Hp}{Q:VK}{d:Dat}{v:V}(q:ResV K H Q d)(h:Rep K H v d):Q v H:=q v h
def Atf(K:KW):R2:=λx y H Q=>∃dx dy,BRep K H x dx∧BRep K H y dy∧Jx dx dy (ResV K H Q)
theorem Xh(K:KW)(H:Hp):∀l:List Int,Reps K H (l.map V.int) (l.map Dat.int)
 | []=>by rw[Cy,Cy,Reps];trivial
 | i::l=>by rw[Yzs,Yzs,Reps,Rep];exact⟨rfl,Xh K H l⟩
theorem BRep.scrAt{K:KW}{H:Hp}{v:V}{l:List Int}(h:BRep K H v (.scr l)):∃a,v = .ref a∧ScrL K H a (l.map V.int)∧l.length≤1000:=by
 rcases h with h|⟨a,_,h⟩
 ·rw[Rep]at h;exact h
 ·exact h.elim
theorem Ath(hu:X.A.units+20 < cLine):IxR X (Atf X.kw):=by
 intro value slice pins s σ H x y v u Q I rx ry ⟨dx,dy,hx,hy,h⟩ hs;unfold Jx at h
 split at h
 ·obtain⟨d,e,q⟩:=h
  obtain⟨a,vs,rfl,h1,h2,h3⟩:=hx.tupAt;have ey:=hy.intAt;subst ey;obtain⟨w,e2,r2⟩:=h2.at e;exact ix_tup value slice pins s σ H _ _ v u Q I rx ry ⟨a,vs,_,w,rfl,rfl,h1.sq,e2,q.rep r2⟩ hs
 ·obtain⟨d,e,q⟩:=h
  obtain⟨a,vs,rfl,h1,h2,h3⟩:=hx.lstAt;have ey:=hy.intAt;subst ey;obtain⟨w,e2,r2⟩:=h2.at e;exact ix_list value slice pins s σ H _ _ v u Q I rx ry ⟨a,vs,_,w,rfl,rfl,.inl h1,e2,q.rep r2⟩ hs
 ·rename_i l i
  obtain⟨c,e,q⟩:=h;obtain⟨rfl,hl⟩:=hx.strAt;have ey:=hy.intAt;subst ey;unfold atD atI at e;rw[Yzi]at e
  cases q2:ixN l.length i with
  | none=>rw[q2]at e;cases e
  | some j=>
   rw[q2]at e;simp only[Option.bind_some,Af,Fl]at e;obtain⟨c',e1,rfl⟩:=e;refine ix_str value slice pins s σ H _ _ v u Q I rx ry ⟨_,i,c',rfl,rfl,by rw[Ez];exact hl,?_,?_⟩ hs
   ·unfold atI
    simp only[Ho];rw[q2];exact e1
   ·exact q.rep (G8 (by simp[sizeLine]))
 ·rename_i l t
  obtain⟨d,e,q⟩:=h;obtain⟨a,kvs,rfl,h1,h2,_⟩:=hx.dicAt;obtain⟨ey,_⟩:=hy.strAt;subst ey;obtain⟨w,e2,r2⟩:=h2.get e
  cases rx
  have g:DGet H a (.str ⟨t.toArray⟩) (some w):=.inl ⟨kvs,.inr ⟨t.toArray⟩,h1,rfl,e2.symm⟩;exact PyProof.Rows.tail_any (ops:=[.ref a,u]) (dict_typeIs I g) PySem.F.slot_dict_getitem.lookup (d_getItem (by omega) I g ry λw' s3 I3 rw'=>⟨w,H,I3,rw',q.rep r2⟩) hs
 ·rename_i l t
  obtain⟨d,e,q⟩:=h;obtain⟨a,kvs,rfl,h1,h2,_⟩:=hx.dicAt;have ey:=hy.intAt;subst ey;obtain⟨w,e2,r2⟩:=h2.getI e
  cases rx
  have g:DGet H a (.int t) (some w):=.inl ⟨kvs,.inl t,h1,rfl,e2.symm⟩;exact PyProof.Rows.tail_any (ops:=[.ref a,u]) (dict_typeIs I g) PySem.F.slot_dict_getitem.lookup (d_getItem (by omega) I g ry λw' s3 I3 rw'=>⟨w,H,I3,rw',q.rep r2⟩) hs
 ·rename_i l i
  obtain⟨d,e,q⟩:=h;obtain⟨a,rfl,h1,_⟩:=hx.scrAt;have ey:=hy.intAt;subst ey;have h2:Reps X.kw H (l.map V.int) (l.map Dat.int):=Xh _ _ l;obtain⟨w,e2,r2⟩:=h2.at e;exact ix_list value slice pins s σ H _ _ v u Q I rx ry ⟨a,_,_,w,rfl,rfl,h1.sq,e2,q.rep r2⟩ hs
 ·rename_i l
  obtain⟨ok,d,e,q⟩:=h;obtain⟨a,xs,rfl,hm,hr,hz,nd,hkd⟩:=hx.kdAt;have hk:=BRep.tupV ok hy;obtain⟨b,rfl,rfl,_⟩:=Rep.key I ok hk ry
  cases rx
  obtain⟨us,r,hd⟩:=Ux I hr hkd;exact PyProof.Rows.tail_any (ops:=[.ref a,.ref b]) hd.typeIs PySem.F.slot_dict_getitem.lookup (Anb (by omega) I hr hkd ok hk e λt w' u' _ I' rw' rr=>⟨w',H,I',rw',q.rep rr⟩) hs
 ·exact h.elim
def Ai9:Dat→Option (Option Int)
 | .non=>some none
 | .int i=>some (some i)
 | _=>none
def Vc(x:Dat)(l h:Option Int)(Q:Dat→Prop):Prop:=
 match x with
 | .tup xs=>Q (.tup (cut xs l h))
 | .lst xs=>Q (.lst (cut xs l h))
 | .str xs=>Q (.str (cut xs l h))
 | _=>False
theorem Yv{x lo hi:Dat}{Q:Dat→Prop}(h:Hg x lo hi Q):∃l r,Ai9 lo=some l∧Ai9 hi=some r∧Vc x l r Q:=by
 unfold Hg at h;dsimp only at h
 split at h
 ·exact⟨none,none,rfl,rfl,h⟩
 ·exact⟨some _,none,rfl,rfl,h⟩
 ·exact⟨none,some _,rfl,rfl,h⟩
 ·exact⟨some _,some _,rfl,rfl,h⟩
 ·exact h.elim
def Ate(K:KW):V→Option Int→Option Int→Hp→VK→Prop:=λx lo hi H Q=>∃dx,BRep K H x dx∧Vc dx lo hi (Res K H Q)
theorem Aj9(s:List Nat)(lo hi:Option Int):cutS ⟨s.toArray⟩ lo hi=⟨(cut s lo hi).toArray⟩:=by
 unfold cutS cut;rw[Ez]
theorem As8:SlR X (Ate X.kw):=by
 intro pins s σ H x v vl vu lo hi sl Q I rx hs pl pu ⟨dx,hx,h⟩;unfold Vc at h
 split at h
 ·rename_i l
  obtain⟨a,vs,rfl,h1,h2,h3⟩:=hx.tupAt;have hc:=h2.cut lo hi;have hz:(cut l lo hi).length≤sizeLine:=Bo (Qi l lo hi) h3
  cases rx
  obtain⟨its,r,ht,_⟩:=I.tuple h1.sq;have e1:=r.length;have e2:=h2.length;refine⟨"tuple", _,PyProof.Rows.slot_tuple_getitem.lookup,ht.typeIs,?_⟩;have hn:its.toArray.size=l.length:=by rw[Ao];omega
  by_cases hw:HT.sIx l.length 0 lo=0∧HT.sIx l.length l.length hi=l.length
  ·have e:cut l lo hi=l:=by
    unfold cut;rw[hw.1,hw.2,Zx,Nat.sub_zero,Wi]
   rw[e]at h;refine getItem_tuple_whole ht hs pl pu (by rw[hn];exact hw) ⟨.ref a,H,I,rfl,h.rep ?_⟩;rw[Rep];exact⟨a,vs,rfl,h1,h3,h2⟩
  ·refine HT.getItem_tuple_cut ht hs pl pu (by rw[hn];exact hw) ?_ (by rw[hn];exact h3)
   rw[hn];have rc:Vals (cutV vs lo hi) ((its.drop (HT.sIx l.length 0 lo)).take (HT.sIx l.length l.length hi - HT.sIx l.length 0 lo)):=by
    unfold cutV;rw[e2];exact(r.drop _).take _
   exact⟨.ref s.heap.objs.size,_,Kf (t':=s.toks) I rc (by rw[hc.length];exact hz),rfl,h.tup hc hz (I.hok.fresh (Aa _)) rfl⟩
 ·rename_i l
  obtain⟨a,vs,rfl,h1,h2,h3⟩:=hx.lstAt;have hc:=h2.cut lo hi;have hz:(cut l lo hi).length≤sizeLine:=Bo (Qi l lo hi) h3;exact sl_list pins s σ H _ v vl vu lo hi sl Q I rx hs pl pu ⟨a,vs,rfl,.inl h1,λp hp=>h.lst hc hz hp⟩
 ·rename_i l
  obtain⟨rfl,hl⟩:=hx.strAt;refine sl_str pins s σ H _ v vl vu lo hi sl Q I rx hs pl pu ⟨_,rfl,by rw[Ez];exact hl,?_⟩;rw[Aj9];exact h.rep (G8 (Bo (Qi _ lo hi) hl))
 ·exact h.elim
end
end SF
namespace SF
open PySem PySem.Spec PyProof.Rows L2
variable[TN]
def BReps(K:KW)(H:Hp):List V→List Dat→Prop
 | [],[]=>True
 | v::vs,d::ds=>BRep K H v d∧BReps K H vs ds
 | _,_=>False
theorem BReps.one{K:KW}{H:Hp}{vs:List V}{d:Dat}(h:BReps K H vs [d]):∃v,vs=[v]∧BRep K H v d:=by
 match vs,h with
 | [v],h=>exact⟨v,rfl,h.1⟩
 | _::_::_,h=>exact(h.2).elim
theorem BReps.two{K:KW}{H:Hp}{vs:List V}{d e:Dat}(h:BReps K H vs [d,e]):∃v w,vs=[v,w]∧BRep K H v d∧BRep K H w e:=by
 match vs,h with
 | [v,w],h=>exact⟨v,w,rfl,h.1,h.2.1⟩
 | [_],h=>exact h.2.elim
 | _::_::_::_,h=>exact(h.2.2).elim
def rB1(K:KW)(b:B1):List V→Hp→VK→Prop:=λvs H Q=>∃ds,BReps K H vs ds∧biW b ds (Res K H Q)
theorem Reps.ints{K:KW}{H:Hp}:∀{vs:List V} {ns:List Int},Reps K H vs (ns.map Dat.int)→vs=ns.map V.int
 | [],[],_=>rfl
 | [],_::_,h=>by simp[Reps]at h
 | _::_,[],h=>by simp[Reps]at h
 | v::vs,n::ns,h=>by
  rw[Yzs,Reps,Rep]at h;rw[Yzs,h.1,Reps.ints h.2]
theorem Reps.bools{K:KW}{H:Hp}:∀{vs:List V} {bs:List Bool},Reps K H vs (bs.map Dat.bl)→vs=bs.map V.bl
 | [],[],_=>rfl
 | [],_::_,h=>by simp[Reps]at h
 | _::_,[],h=>by simp[Reps]at h
 | v::vs,b::bs,h=>by
  rw[Yzs,Reps,Rep]at h;rw[Yzs,h.1,Reps.bools h.2]
theorem Reps.each{K:KW}{H:Hp}:∀{vs:List V} {us:List Value} {l:List Dat},Reps K H vs l→L2.Vals vs us→PySem.W.EachIs (λu d=>∃v,L2.RelV v u∧Rep K H v d) us l
 | [],_,[],_,r=>by cases r;exact .nil
 | [],_,_::_,h,_=>by simp[Reps]at h
 | _::_,_,[],h,_=>by simp[Reps]at h
 | v::vs,_,d::ds,h,r=>by
  rw[Reps]at h
  cases r with
  | cons r1 r2=>exact .cons ⟨v,r1,h.1⟩ (Reps.each h.2 r2)
theorem Ie{K:KW}{H:Hp}:∀{us:List Value} {l:List Dat},PySem.W.EachIs (λu d=>∃v,L2.RelV v u∧Rep K H v d) us l→∃vs,L2.Vals vs us∧Reps K H vs l
 | _,_,.nil=>⟨[],.nil,by simp[Reps]⟩
 | _,_,.cons ⟨v,h1,h2⟩ t=>by
  obtain⟨vs,q1,q2⟩:=Ie t;exact⟨v::vs,.cons h1 q1,by rw[Reps];exact⟨h2,q2⟩⟩
theorem Qh{X:Cx}{pins:List (Addr×Obj)}{σ:L2.St}{H:Hp}{s:Shared}(I:L2.Inv X pins σ H s){n:Nat}:∀{us:List Value} {l:List Dat},(∀x∈l,okd n x)→PySem.W.EachIs (λu d=>∃v,L2.RelV v u∧Rep X.kw H v d) us l→PySem.W.EachIs (λu d=>∃as,Reads s.heap u (Ar d) as) us l
 | _,_,_,.nil=>.nil
 | _,_,o,.cons ⟨v,h1,h2⟩ t=>.cons (Rep.reads I _ n v _ (o _ (by simp)) h2 h1) (Qh I (λx hx=>o x (by simp[hx])) t)
theorem Ku{l:List Dat}(h:alikeAll l):PySem.W.AllAlike (l.map Ar):=by
 intro d hd d' hd';obtain⟨x,hx,rfl⟩:=Ac.mp hd;obtain⟨y,hy,rfl⟩:=Ac.mp hd';exact Jy x y (h x hx y hy)
theorem Kr{l:List Dat}(h:alikeAll l)(hn:∀z∈l,Gj z=true):PySem.W.Sortable (l.map Ar):=by
 cases l with
 | nil=>exact .inl λd hd=>by simp at hd
 | cons x r=>
  have hx:=λy hy=>h x (by simp) y hy
  by_cases ht:∃xs,x = .tup xs
  ·obtain⟨xs,rfl⟩:=ht
   refine .inl λd hd=>?_
   obtain⟨y,hy,rfl⟩:=Ac.mp hd;have h1:=hx y hy;have h2:=hn y hy
   cases y with
   | tup ys=>
    cases ys with
    | nil=>simp[Gj]at h2
    | cons a b=>exact⟨Ar a,toPys b,by simp only[Ar,toPys]⟩
   | _=>simp[Av]at h1
  ·refine .inr λd hd=>?_
   obtain⟨y,hy,rfl⟩:=Ac.mp hd;have h1:=hx y hy
   cases y<;>cases x<;>simp_all [Av,Ar]
theorem Qz{l:List Dat}{n:Nat}(h:alikeAll l)(ho:∀z∈l,okd n z):l.mergeSort (PySem.W.dataLe false Ar)=Df l:=by
 unfold Df;refine PySem.W.sort_congr λa ha b hb=>?_
 rw[PySem.W.dataLe_eq];show(!PySem.W.dataLt (Ar b) (Ar a))=(!ltD b a)
 rw[Ir b a n (ho b hb) (ho a ha) (h b hb a ha)]
theorem Ry{i:Int}(h:i.natAbs < 2 ^ 1900):i.natAbs.log2 < 1920:=by
 rcases Nat.eq_zero_or_pos i.natAbs with h0|hp
 ·rw[h0];decide
 ·exact Ax ((Nat.log2_lt (Jb hp)).mpr h) (by decide)
theorem Va{P:Program}{w:World}{A:Around}{E:Value→Shared→Prop}{s:Shared}{t:Addr}{vs:List Value}{bs:List Dat}{R:Value→Dat→Prop}{Q:Value→Shared→Prop}(ht:IsTup s.heap t vs.toArray)(hz:vs.length≤sizeLine)(hu:A.units+200 < cLine)(q1:alikeAll bs)(q2:∀z∈bs,okd 60 z∧Gj z=true)
  (e:PySem.W.EachIs R vs bs) (er:PySem.W.EachIs (λv b=>∀h':Heap,(∀b o,s.heap.get? b=some o→h'.get? b=some o)→Reads h' v (Ar b) []) vs bs)
  (h:∀(h1 h2:Heap) (out:List Value) (c:Nat),(∀b o,s.heap.get? b=some o→h1.get? b=some o)→(∀b o,h1.get? b=some o→h2.get? b=some o)→h2.get? h1.objs.size=some (seqObj "list" (List.toArray out) c)→PySem.W.EachIs R out (Df bs)→Q (.ref h1.objs.size) { s with heap:=h2 }):wpAny (model P w) A (call (.builtin "sorted") [.ref t]) Q E s:=by
 obtain⟨o,ho,hc,n,hd⟩:=ht;refine Calls.call_function_entry kind_sorted plain_sorted entry_sorted (args_sorted1 _) ?_;have col:=λQ' h'=>wpAny_collect_seq (prog:=P) (w:=w) (A:=A.in1) (E:=E) (Q:=Q') t (.inr rfl) ho hc hd h' (by rw[Ao];exact hz)
 unfold Builtin.«sorted»; dsimp only[List.headD]
 wp_walk using col
 intro h1 k1;rw[Ho];refine wpAny_bind (wpAny_newList ?_ hz);have made:(h1.push { cls:=.type "list", data:=.seq vs.toArray }).get? h1.objs.size=some (seqObj "list" vs.toArray 0):=Heap.get?_push_size _ rfl;have er1:PySem.W.EachIs (λv b=>∃as,Reads (h1.push { cls:=.type "list", data:=.seq vs.toArray }) v (Ar b) as∧h1.objs.size∉as) vs bs:=er.mono λv d e=>⟨[],e _ λb u q=>Heap.get?_push_of_some _ (k1 b u q),by simp⟩
 refine wpAny_bind (wpAny_holding (PySem.W.list_sort_data made e er1 (Ku q1) (Kr q1 λz hz=>(q2 z hz).2) (by rw[← e.length];exact hz) (λb hb=>?_) λout _ eo=>?_))
 ·have:=(Dg 60 _ (q2 b hb).1).2
  show A.units+1+1+_ < cLine
  omega
 rw[Qz q1 λz hz=>(q2 z hz).1]at eo;obtain⟨c,at_⟩:=PyProof.Rows.sortedHeap_at (vs:=vs) (out:=out.toArray) made;refine wpAny_pure ⟨_,rfl,h h1 _ out c k1 (λb u q=>?_) at_ eo⟩;have lt:=Heap.lt_size q;exact(PyProof.Rows.sortedHeap_old (Cp lt) (by rw[Heap.size_push];exact En lt)).trans (Heap.get?_push_of_some _ q)
theorem W8{K:KW}{H:Hp}:∀{vs:List V} {its:List Value} {ts:List (List Nat)},Reps K H vs (ts.map .str)→L2.Vals vs its→PySem.W.EachIs (λv d=>∀h':Heap,Reads h' v (Ar d) []) its (ts.map .str)
 | [],_,[],_,r=>by cases r;exact .nil
 | [],_,_::_,h,_=>by simp[Reps]at h
 | _::_,_,[],h,_=>by simp[Reps]at h
 | v::vs,_,t::ts,h,r=>by
  cases r with
  | cons a b=>
   rw[Yzs,Reps,Rep]at h;obtain⟨⟨rfl,_⟩,h⟩:=h;obtain⟨u,rfl⟩:=a;exact .cons (λh'=>by rw[Ar];exact .str _ u) (W8 h b)
theorem Xy{K:KW}{H:Hp}:∀{vs:List V} {its:List Value} {ns:List Int},Reps K H vs (ns.map .int)→L2.Vals vs its→PySem.W.EachIs (λv d=>∀h':Heap,Reads h' v (Ar d) []) its (ns.map .int)
 | [],_,[],_,r=>by cases r;exact .nil
 | [],_,_::_,h,_=>by simp[Reps]at h
 | _::_,_,[],h,_=>by simp[Reps]at h
 | v::vs,_,n::ns,h,r=>by
  cases r with
  | cons a b=>
   rw[Yzs,Reps,Rep]at h;obtain⟨rfl,h⟩:=h;obtain⟨u,rfl⟩:=a;exact .cons (λh'=>by rw[Ar];exact .int _ u) (Xy h b)
section
variable{X:Cx}
theorem Arl:CallR X (.builtin "len") (rB1 X.kw .len):=by
 intro pins s σ H xs us Q I r ⟨ds,hd,h⟩;simp only[biW]at h;unfold Rz at h
 split at h
 ·obtain⟨v,rfl,hv⟩:=hd.one
  obtain⟨a,vs,rfl,h1,h2,h3⟩:=hv.tupAt;exact call_len_seq pins s σ H _ us Q I r ⟨a,vs,rfl,.inr h1.sq,by rw[h2.length];exact h.rep (De _)⟩
 ·obtain⟨v,rfl,hv⟩:=hd.one
  obtain⟨a,vs,rfl,h1,h2,h3⟩:=hv.lstAt;exact call_len_seq pins s σ H _ us Q I r ⟨a,vs,rfl,.inl (.inl h1),by rw[h2.length];exact h.rep (De _)⟩
 ·obtain⟨v,rfl,hv⟩:=hd.one
  obtain⟨rfl,hl⟩:=hv.strAt;exact call_len_str pins s σ H _ us Q I r ⟨_,rfl,by rw[Ez];exact hl,by rw[Ez];exact h.rep (De _)⟩
 ·obtain⟨v,rfl,hv⟩:=hd.one
  rcases hv with hv|⟨a,_,hv⟩
  ·rw[Rep]at hv
   obtain⟨a,rfl,h1,h2⟩:=hv;have hq:=h.rep (De _);exact call_len_seq pins s σ H _ us Q I r ⟨a,_,rfl,.inl h1.sq,by rw[Yzi];exact hq⟩
  ·exact hv.elim
 ·exact h.elim
theorem Arn:CallR X (.builtin "abs") (rB1 X.kw .abs):=by
 intro pins s σ H xs us Q I r ⟨ds,hd,h⟩;simp only[biW]at h;unfold Adp at h
 split at h
 ·rename_i i
  obtain⟨v,rfl,hv⟩:=hd.one;have e:=hv.intAt;subst e;refine call_abs pins s σ H _ us Q I r ⟨i,rfl,?_⟩;rw[show(if i < 0 then -i else i)=((i.natAbs:Nat):Int) by split<;>omega];exact h.rep (De _)
 ·exact h.elim
theorem Anx(hc:X.calm=true):CallR X (.builtin "all") (rB1 X.kw .all):=by
 intro pins s σ H xs us Q I r ⟨ds,hd,h⟩;simp only[biW]at h;unfold Zu at h
 split at h
 ·obtain⟨bs,rfl,q⟩:=h
  obtain⟨v,rfl,hv⟩:=hd.one;obtain⟨a,vs,rfl,h1,h2,h3⟩:=hv.lstAt;have e:=h2.bools;subst e;exact cr_all hc pins s σ H _ us Q I r ⟨a,bs,rfl,.inl h1,q.rep (Hm _)⟩
 ·exact h.elim
theorem Anw(hc:X.calm=true):CallR X (.builtin "any") (rB1 X.kw .any):=by
 intro pins s σ H xs us Q I r ⟨ds,hd,h⟩;simp only[biW]at h;unfold Aru at h
 split at h
 ·obtain⟨bs,rfl,q⟩:=h
  obtain⟨v,rfl,hv⟩:=hd.one;obtain⟨a,vs,rfl,h1,h2,h3⟩:=hv.lstAt;have e:=h2.bools;subst e;exact cr_any hc pins s σ H _ us Q I r ⟨a,bs,rfl,.inl h1,q.rep (Hm _)⟩
 ·exact h.elim
theorem Anu(hc:X.calm=true):CallR X (.builtin "max") (rB1 X.kw .max):=by
 intro pins s σ H xs us Q I r ⟨ds,hd,h⟩;simp only[biW]at h;unfold Ada at h
 split at h
 ·rename_i i j
  obtain⟨v,w,rfl,hv,hw⟩:=hd.two;have e:=hv.intAt;have e':=hw.intAt;subst e e';refine call_max2 hc pins s σ H _ us Q I r ⟨i,j,rfl,?_⟩;rw[show(if j > i then j else i)=max i j by split<;>omega];exact h.rep (De _)
 ·obtain⟨ns,rfl,hne,q⟩:=h
  obtain⟨v,rfl,hv⟩:=hd.one;obtain⟨a,vs,rfl,h1,h2,h3⟩:=hv.lstAt;have e:=h2.ints;subst e;exact cr_max hc pins s σ H _ us Q I r ⟨a,ns,rfl,.inl h1,hne,λm h1 h2=>(q m h1 h2).rep (De _)⟩
 ·exact h.elim
theorem Ant(hc:X.calm=true):CallR X (.builtin "min") (rB1 X.kw .min):=by
 intro pins s σ H xs us Q I r ⟨ds,hd,h⟩;simp only[biW]at h;unfold Ac8 at h
 split at h
 ·rename_i i j
  obtain⟨v,w,rfl,hv,hw⟩:=hd.two;have e:=hv.intAt;have e':=hw.intAt;subst e e';refine call_min2 hc pins s σ H _ us Q I r ⟨i,j,rfl,?_⟩;rw[show(if j < i then j else i)=min i j by split<;>omega];exact h.rep (De _)
 ·obtain⟨ns,rfl,hne,q⟩:=h
  obtain⟨v,rfl,hv⟩:=hd.one;obtain⟨a,vs,rfl,h1,h2,h3⟩:=hv.lstAt;have e:=h2.ints;subst e;exact cr_min hc pins s σ H _ us Q I r ⟨a,ns,rfl,.inl h1,hne,λm h1 h2=>(q m h1 h2).rep (De _)⟩
 ·exact h.elim
theorem Anv:CallR X (.type "int") (rB1 X.kw .int):=by
 intro pins s σ H xs us Q I r ⟨ds,hd,h⟩;simp only[biW]at h;unfold Adf at h
 split at h
 ·obtain⟨v,rfl,hv⟩:=hd.one
  have e:=hv.intAt;subst e;exact call_int1 pins s σ H _ us Q I r (.inl ⟨_,rfl,h.rep (De _)⟩)
 ·obtain⟨v,rfl,hv⟩:=hd.one
  have e:=hv.blAt;subst e;exact call_int1 pins s σ H _ us Q I r (.inr ⟨_,rfl,h.rep (De _)⟩)
 ·exact h.elim
theorem Agv:CallR X (.type "tuple") (rB1 X.kw .tuple):=by
 intro pins s σ H xs us Q I r ⟨ds,hd,h⟩;simp only[biW]at h;unfold Jl at h
 split at h
 ·obtain⟨v,rfl,hv⟩:=hd.one
  obtain⟨a,vs,rfl,h1,h2,h3⟩:=hv.lstAt;rw[Vals.ref1 r];obtain⟨its,r',pl,hz⟩:=I.list (.inl h1);have hlen:=r'.length;refine call_tuple_list pl.isList (λh' kp=>?_) (by simp only[Ao];omega);have I1:L2.Inv X pins σ H { s with heap:=h' }:=I.kept (t':=s.toks) kp;exact⟨.ref h'.objs.size,_,Kf (t':=s.toks) I1 r' hz,rfl,h.tup h2 h3 (I1.hok.fresh (Aa _)) rfl⟩
 ·obtain⟨v,rfl,hv⟩:=hd.one
  obtain⟨a,vs,rfl,h1,h2,h3⟩:=hv.tupAt;rw[Vals.ref1 r];obtain⟨its,_,p1,_⟩:=I.tuple h1.sq;refine call_tuple_same (items:=its.toArray) p1 ⟨.ref a,H,I,rfl,h.rep ?_⟩;rw[Rep];exact⟨a,vs,rfl,h1,h3,h2⟩
 ·exact h.elim
theorem Aen:∀{xs:List (NestedKey×Addr×V)} {us:List (NestedKey×Addr×Value)},KdRel xs us→L2.Vals (xs.map λx=>V.ref x.2.1) (us.map λx=>Value.ref x.2.1)
 | _,_,.nil=>.nil
 | _,_,.cons (a:=(k,b,v)) (b:=(k',b',v')) r t=>by
  obtain⟨_,e,_⟩:=r;have e:b=b':=e;subst e;exact .cons (show L2.RelV (V.ref b) (Value.ref b)from rfl) (Aen t)
theorem Aeo{K:KW}{H:Hp}:∀{xs:List (NestedKey×Addr×V)} {l:List (Dat×Dat)},RepKd K H xs l→Reps K H (xs.map λx=>V.ref x.2.1) (l.map (·.1))
 | [],[],_=>by rw[Cy,Cy,Reps];trivial
 | [],_::_,h=>by simp[RepKd]at h
 | _::_,[],h=>by simp[RepKd]at h
 | (k,b,v)::xs,(c,d)::l,h=>by
  rw[RepKd]at h;rw[Yzs,Yzs,Reps];exact⟨h.1.2.2,Aeo h.2.2⟩
theorem Akf(hc:X.calm=true):CallR X (.type "list") (rB1 X.kw .list):=by
 intro pins s σ H xs us Q I r ⟨ds,hd,h⟩;simp only[biW]at h;unfold Xr at h
 split at h
 ·obtain⟨v,rfl,hv⟩:=hd.one
  obtain⟨a,vs,rfl,h1,h2,h3⟩:=hv.lstAt;exact call_list_of pins s σ H _ us Q I r ⟨a,vs,rfl,.inl (.inl h1),λp hp=>h.lst h2 h3 hp⟩
 ·obtain⟨v,rfl,hv⟩:=hd.one
  obtain⟨a,vs,rfl,h1,h2,h3⟩:=hv.tupAt;exact call_list_of pins s σ H _ us Q I r ⟨a,vs,rfl,.inr h1.sq,λp hp=>h.lst h2 h3 hp⟩
 ·rename_i l
  obtain⟨v,rfl,hv⟩:=hd.one;obtain⟨a,xs,rfl,hm,hR,hz,nd,hkd⟩:=hv.kdAt;obtain⟨vs,rr,o,es,ep,ho,hx,hdt,he,_,_⟩:=Ux I hR hkd;rw[Vals.ref1 r];have l1:es.size=vs.length:=size_of_entries he;have l2:xs.length=vs.length:=Paired.length rr;have rk:=Aeo hkd;have l3:xs.length=l.length:=by have:=rk.length;rw[Yzi,Yzi]at this;exact this
  refine PySem.W.kdl_call (kdl_raw hm hx hdt) (I.ok.hd hc) ho (by omega) λh' tk acc' c' kp e it=>?_
  have ea:acc'.toList=vs.map λx=>Value.ref x.2.1:=by
   have hl:acc'.toList.length=vs.length:=by rw[Array.length_toList,it.1];exact l1
   refine Lr λj=>?_
   rw[Af]
   cases hj:acc'.toList[j]? with
   | none=>
    have:=List.getElem?_eq_none_iff.mp hj;rw[Bq (show vs.length≤j by omega)];rfl
   | some z=>
    obtain⟨en,hen,hv'⟩:=it.2 j z (by rw[← Array.getElem?_toList];exact hj);have qe:=entry_at he j;rw[hen]at qe
    cases hb:vs[j]? with
    | none=>rw[hb]at qe;cases qe
    | some y=>
     rw[hb]at qe;rw[hv',Aj.inj qe];rfl
  have rv:=Aen rr;have hl:(l.map (·.1)).length≤sizeLine:=by rw[Yzi];exact hz
  have hf:H s.heap.objs.size=none:=I.hok.fresh (Aa _);exact⟨.ref _,upd H s.heap.objs.size (.lst (xs.map λx=>V.ref x.2.1)),I.laid (t':=tk) kp (Aa _) ⟨by rw[rk.length];exact hl,_,_,rv,by rw[← ea,Array.toArray_toList];exact e⟩,rfl,h.lst rk hl hf⟩
 ·exact h.elim
theorem V8(hu:X.A.units+200 < cLine):CallR X (.builtin "sorted") (rB1 X.kw .sorted):=by
 intro pins s σ H xs us Q I r ⟨ds,hd,h⟩;simp only[biW]at h;unfold Qy at h
 split at h
 ·rename_i l
  obtain⟨q1,q2,q3⟩:=h;obtain⟨v,rfl,hv⟩:=hd.one;obtain⟨a,vs,rfl,h1,h2,h3⟩:=hv.lstAt;obtain⟨its,rv,hl,_⟩:=I.list (.inl h1);rw[Vals.ref1 r];have eR:=h2.each rv;have er:=Qh I (λx hx=>(q2 x hx).1) eR;refine PySem.W.sorted_data hl.isList eR er (Ku q1) (Kr q1 λz hz=>(q2 z hz).2) h3 (λb hb=>by have:=(Dg 60 _ (q2 b hb).1).2;omega) λout ho eo=>?_
  rw[Qz q1 λz hz=>(q2 z hz).1]at eo;obtain⟨vs',rv',h2'⟩:=Ie eo;obtain⟨ep,he'⟩:=PyProof.Rows.sortedAll_at s.heap its out.toArray;have hln:(Df l).length≤sizeLine:=by unfold Df;rw[Cv];exact h3
  have hf:H (s.heap.objs.size+1)=none:=I.hok.fresh (Mv _);exact⟨.ref _,upd H (s.heap.objs.size+1) (.lst vs'),I.laid (t':=s.toks) (λ_ _=>PyProof.Rows.sortedAll_old) (Mv _) ⟨by rw[h2'.length];exact hln,out,ep,rv',he'⟩,rfl,q3.lst h2' hln hf⟩
 ·rename_i l
  obtain⟨kind,q3⟩:=h;obtain⟨v,rfl,hv⟩:=hd.one;obtain⟨a,vs,rfl,h1,h2,h3⟩:=hv.tupAt;obtain⟨its,rv,p1,_⟩:=I.tuple h1.sq;rw[Vals.ref1 r];obtain⟨q1,q2,er⟩:alikeAll l∧(∀z∈l,okd 60 z∧Gj z=true)∧PySem.W.EachIs (λv d=>∀h':Heap,Reads h' v (Ar d) []) its l:=by
   rcases kind with⟨ts,rfl⟩|⟨ns,rfl⟩
   ·refine⟨λx hx y hy=>?_,λz hz=>?_,W8 h2 rv⟩
    ·obtain⟨_,_,rfl⟩:=Ac.mp hx
     obtain⟨_,_,rfl⟩:=Ac.mp hy;rw[Av]
    ·obtain⟨_,_,rfl⟩:=Ac.mp hz
     exact⟨by simp[okd],rfl⟩
   ·refine⟨λx hx y hy=>?_,λz hz=>?_,Xy h2 rv⟩
    ·obtain⟨_,_,rfl⟩:=Ac.mp hx
     obtain⟨_,_,rfl⟩:=Ac.mp hy;rw[Av]
    ·obtain⟨_,_,rfl⟩:=Ac.mp hz
     exact⟨by simp[okd],rfl⟩
  refine Va p1 (by rw[← rv.length,h2.length];exact h3) hu q1 q2 (h2.each rv) (er.mono λv d e h' _=>e h') λg1 g2 out c k1 k2 at_ eo=>?_
  obtain⟨vs',rv',h2'⟩:=Ie eo;have hln:(Df l).length≤sizeLine:=by unfold Df;rw[Cv];exact h3
  have I1:=I.kept (h':=g1) (t':=s.toks) k1;have hf:H g1.objs.size=none:=I1.hok.fresh (Aa _);exact⟨.ref _,upd H g1.objs.size (.lst vs'),I1.laid (t':=s.toks) k2 (Aa _) ⟨by rw[h2'.length];exact hln,out,c,rv',at_⟩,rfl,q3.lst h2' hln hf⟩
 ·exact h.elim
end
end SF
namespace SF
open PySem PySem.Spec PyProof.Rows L2
variable[TN]
theorem Als:∀(n w:Nat) (d:Dat),rpd n w d→okd n d:=by
 intro n
 induction n with
 | zero=>intro w d h;cases d<;>simp_all [okd,rpd]
 | succ n ih=>
  intro w d h
  cases d with
  | tup l=>simp only[okd,rpd]at h ⊢;obtain⟨v,h1,_⟩:=h;exact λx hx=>ih v x (h1 x hx)
  | lst l=>simp only[okd,rpd]at h ⊢;obtain⟨v,h1,_⟩:=h;exact λx hx=>ih v x (h1 x hx)
  | _=>simp_all [okd,rpd]
theorem Od{v:Nat}:∀(l:List Dat),(∀x∈l,(Ar x).shown.length≤v)→piled (PyData.shownAll (toPys l))≤l.length*(v+2)
 | [],_=>by simp[toPys,PyData.shownAll,piled]
 | x::r,h=>by
  have h1:=h x (by simp);have h2:=Od r λy hy=>h y (by simp[hy])
  simp only[toPys,PyData.shownAll,piled_cons,Yzk,Ay];omega
theorem Nt:∀(ts:List Str) (k:Nat) (acc:Str),(textFrom k acc ts).length≤acc.length+piled ts
 | [],k,acc=>by simp[textFrom,piled]
 | t::ts,k,acc=>by
  have ih:=Nt ts (k+1) (acc++(if k > 0 then ", " else "" : String)++t);rw[strLen_append,strLen_append]at ih;have e:((if k > 0 then ", " else "" : String):Str).length≤2:=by split<;>decide
  rw[piled_cons];show(textFrom (k+1) (acc++(if k > 0 then ", " else "" : String)++t) ts).length≤_
  omega
theorem Ol(ts:List Str):(listText ts).length≤piled ts+2:=by
 have h:=Nt ts 0 ("[" : Str)
 unfold listText;rw[strLen_append];have e1:(("[" : String):Str).length=1:=rfl
 have e2:(("]" : String):Str).length=1:=rfl
 omega
theorem Mz(ts:List Str):(tupleText ts).length≤piled ts+3:=by
 unfold tupleText;rw[strLen_append,strLen_append];have e1:(("(" : String):Str).length=1:=rfl
 have e2:((if ts.length == 1 then ",)" else ")" : String):Str).length≤2:=by split<;>decide
 have e3:(Str.join ", " ts).length≤piled ts:=by
  by_cases h:ts=[]
  ·subst h;exact Am _
  ·have:=join_length_add ts h;omega
 omega
theorem Aal(w:Nat)(d:Dat)(h:rpd 0 w d):(Ar d).showable=true∧(Ar d).shown.length≤w:=by
 cases d<;>simp only[rpd]at h
 ·exact⟨by simp[Ar,PyData.showable],by simp only[Ar,PyData.shown];exact h⟩
 ·rename_i b
  exact⟨by simp[Ar,PyData.showable],by simp only[Ar,PyData.shown];cases b<;>exact Bo (by decide) h⟩
 ·rename_i i
  refine⟨by simpa [Ar,PyData.showable]using Ry h.2.2,?_⟩;simp only[Ar,PyData.shown];have h1:=int_text_length_le10 (a:=i) (k:=w - 1) (by have:=h.2.1;omega) h.1;show(Str.ofString (toString i)).length≤w
  rw[PySem.ofString_length];have:=h.2.1;omega
 ·rename_i s
  refine⟨by simp[Ar,PyData.showable],?_⟩;simp only[Ar,PyData.shown];have h1:=StrLaws.reprText_len (⟨s.toArray⟩:Str) λc hc=>Nat.lt_trans (h.1 c (by simpa using hc)) (by decide)
  rw[Ez s]at h1;omega
theorem Pu:∀{l:List Dat},(∀x∈l,(Ar x).showable=true)→PyData.showableAll (toPys l)=true
 | [],_=>by simp[toPys,PyData.showableAll]
 | x::r,h=>by simp only[toPys,PyData.showableAll,Yzh];exact⟨h x (by simp),Pu λy hy=>h y (by simp[hy])⟩
theorem Af3:∀(n w:Nat) (d:Dat),rpd n w d→(Ar d).showable=true∧(Ar d).shown.length≤w:=by
 intro n
 induction n with
 | zero=>exact Aal
 | succ n ih=>
  intro w d h
  cases d with
  | tup l=>
   simp only[rpd]at h;obtain⟨v,h1,h2⟩:=h;have q:=λx hx=>ih v x (h1 x hx)
   refine⟨by simp only[Ar,PyData.showable];exact Pu λx hx=>(q x hx).1,?_⟩;have b1:=Od l λx hx=>(q x hx).2
   have b2:=Mz (PyData.shownAll (toPys l));simp only[Ar,PyData.shown];omega
  | lst l=>
   simp only[rpd]at h;obtain⟨v,h1,h2⟩:=h;have q:=λx hx=>ih v x (h1 x hx)
   refine⟨by simp only[Ar,PyData.showable];exact Pu λx hx=>(q x hx).1,?_⟩;have b1:=Od l λx hx=>(q x hx).2
   have b2:=Ol (PyData.shownAll (toPys l));simp only[Ar,PyData.shown];omega
  | _=>exact Aal w _ (by simpa only[rpd]using h)
theorem Ws:∀d:PyData,d.plain=true→d.hasDict=false:=by
 intro d;exact PyData.rec (motive_1:=λd=>d.plain=true→d.hasDict=false) (motive_2:=λds=>PyData.plainAll ds=true→PyData.hasDictAll ds=false) (motive_3:=λ_=>True) (motive_4:=λ_=>True)
  (by simp[PyData.hasDict]) (by simp[PyData.hasDict]) (by simp[PyData.hasDict]) (by simp[PyData.hasDict])
  (λxs ih h=>by simp only[PyData.plain]at h;simp only[PyData.hasDict];exact ih h) (λxs ih h=>by simp only[PyData.plain]at h;simp only[PyData.hasDict];exact ih h) (λ_ _ h=>by simp[PyData.plain]at h)
  (by simp[PyData.hasDictAll]) (λx xs h1 h2 h=>by simp only[PyData.plainAll,Yzh]at h;simp only[PyData.hasDictAll];rw[h1 h.1,h2 h.2];rfl) trivial (λ_ _ _ _=>trivial) (λ_ _ _ _=>trivial) d
section
variable{X:Cx}
theorem Ake(hu:X.A.units+200 < cLine)(hg:X.A.guards=some []):CallR X (.builtin "repr") (rB1 X.kw .repr):=by
 intro pins s σ H xs us Q I r ⟨ds,hd,h⟩;simp only[biW]at h;unfold Aan at h
 split at h
 ·rename_i d
  obtain⟨h1,h2⟩:=h;obtain⟨v,rfl,hv⟩:=hd.one;have ok:=Als _ _ _ h1;have pl:=Dg _ _ ok;obtain⟨q1,q2⟩:=Af3 _ _ _ h1;have hz:(Ar d).shown.length≤sizeLine:=q2;have fin:Q (.str (Ar d).shown) H:=by
   have:=h2.rep (K:=X.kw) (H:=H) (d:=.str (Nz d)) (v:=.str (Ar d).shown) (by
    unfold Nz;rw[Rep];exact⟨by congr 1,by rw[Array.length_toList];exact hz⟩)
   exact this
  match us,r with
  | [u],.cons r1 .nil=>
   obtain⟨as,rd⟩:=hv.reads I ok r1;have hnd:=Ws _ pl.1;have hdp:=pl.2;generalize Ar d=pd at rd q1 hz fin hnd hdp;have heap:∀a,u = .ref a→wpAny (model X.prog X.w) X.A (call (.builtin "repr") [u]) (EP X pins σ Q) X.xe s:=λa e=>by
    subst e;exact repr_of_reads' rd q1 (PyData.noDict_hsm hnd) hg (by omega) (λ_ _ z=>z) (λh' w tk hk=>⟨.str _,H,I.kept hk,⟨w,rfl⟩,fin⟩) hz
   cases rd with
   | none=>exact PySem.P.repr_of_none ⟨.str _,H,I.tok _,⟨_,rfl⟩,by simpa [PyData.shown]using fin⟩
   | bool b=>exact PySem.P.repr_of_bool ⟨.str _,H,I.tok _,⟨_,rfl⟩,by simpa [PyData.shown]using fin⟩
   | int i t=>exact PySem.P.repr_of_int (by simpa [PyData.showable]using q1) ⟨.str _,H,I.tok _,⟨_,rfl⟩,by simpa [PyData.shown]using fin⟩
   | str x t=>exact PySem.P.repr_of_str ⟨.str _,H,I.tok _,⟨_,rfl⟩,by simpa [PyData.shown]using fin⟩ (by simpa [PyData.shown]using hz)
   | list a b c e=>exact heap _ rfl
   | tuple a b c e=>exact heap _ rfl
   | dict=>exact heap _ rfl
 ·exact h.elim
end
end SF
namespace SF
open PySem PySem.Spec PyProof.Rows L2
variable[TN]
def Yl:Ty→String
 | .int => "int" | .bool => "bool" | .str => "str" | .tuple => "tuple" | .list => "list" | .dict => "dict"
def tyN:Dat→String
 | .non => "NoneType" | .bl _ => "bool" | .int _ => "int" | .str _ => "str" | .tup _ => "tuple" | .lst _ => "list" | .dic _ => "dict" | _ => ""
theorem Am9(K:KW)(d:Dat)(t:Ty)(h:Gv d=true):PySem.W.kitOne K (.type (tyN d)) (.type (Yl t))=some (Q7 d t):=by
 cases d<;>cases t<;>first|(simp[Gv]at h;done)|exact kit_ty (by simp only[tyN,Yl,Q7];decide +kernel)
theorem Rep.tyX{K:KW}{H:Hp}{v:V}{d:Dat}(h:Rep K H v d)(ok:Gv d=true):TyX K H v (.type (tyN d)):=by
 cases d with
 | non=>rw[Rep]at h;subst h;exact .base .non
 | bl b=>rw[Rep]at h;subst h;exact .base (.bl b)
 | int b=>rw[Rep]at h;subst h;exact .base (.int b)
 | str b=>rw[Rep]at h;obtain⟨rfl,_⟩:=h;exact .base (.str _)
 | tup l=>
  rw[Rep]at h;obtain⟨a,vs,rfl,⟨o,h2,_⟩|⟨o,its,n,h2,h3,_⟩,_⟩:=h
  ·exact .fTuple h2
  ·exact .kTuple h2 h3
 | lst l=>
  rw[Rep]at h;obtain⟨a,vs,rfl,⟨o,h2⟩,_⟩:=h;exact .base (.frz h2)
 | dic l=>
  rw[Rep]at h;obtain⟨a,vs,rfl,⟨o,h2⟩,_⟩:=h;exact .fDict h2
 | obj c l=>simp[Gv]at ok
 | pot=>simp[Gv]at ok
 | scr l=>simp[Gv]at ok
 | kd l=>simp[Gv]at ok
section
variable{X:Cx}
theorem Arm(t:Ty):CallR X (.builtin "isinstance") (λvs H Q=>∃v d,vs=[v,.ty (Yl t)]∧Rep X.kw H v d∧Gv d=true∧Q (.bl (Q7 d t)) H):=by
 intro pins s σ H xs us Q I r ⟨v,d,e,hv,ok,q⟩;exact call_isi pins s σ H xs us Q I r ⟨v,_,_,_,_,e,.ty _,hv.tyX ok,Am9 X.kw d t ok,q⟩
theorem Ue{l:List Dat}{p:Dat→Bool}(h:l.any p=true):l.findIdx p < l.length:=by
 obtain⟨x,hx,hp⟩:=Ei.mp h;exact List.findIdx_lt_length_of_exists ⟨x,hx,hp⟩
theorem Anc{A:Around}{s:Shared}{its:List Value}{xs:List Dat}{x:Value}{d:Dat}{as bs:List Addr}(hu:A.units+200 < cLine)(rs:ReadsAll s.heap its (toPys xs) as)(rx:Reads s.heap x (Ar d) bs)(hd:okd 60 d)(hx:∀z∈xs,okd 60 z) :
  ∀(j:Nat) (hj:j < its.length),∃z,xs[j]? = some z∧SeqAt.EqAt A s its[j] x (eqD z d):=by
 intro j hj;have hl:its.length=xs.length:=by
  have:=SeqAt.ReadsAll.length (toPys xs) its as rs;rw[this,Hr,Yzi]
 have hj2:j < xs.length:=by omega
 refine⟨xs[j],Ab hj2,?_⟩;obtain⟨cs,r⟩:=each_nth rs j hj (by rw[Hr,Yzi];exact hj2);have e:(toPys xs)[j]'(by rw[Hr,Yzi];exact hj2)=Ar xs[j]:=by
  simp only[Hr,Wl]
 rw[e]at r;have o:=hx xs[j] (Np hj2);rw[Ml _ _ 60 o hd];exact SeqAt.eqAt_plain _ _ A s _ _ _ _ r rx (Dg 60 _ o).1 (Dg 60 _ hd).1 (by have:=(Dg 60 _ o).2;omega)
where
 each_nth {s:Shared}:∀{vs:List Value} {ds:List PyData} {as:List Addr},ReadsAll s.heap vs ds as→∀(j:Nat) (h1:j < vs.length) (h2:j < ds.length),∃cs,Reads s.heap vs[j] ds[j] cs:=by
  intro vs ds as r
  induction vs generalizing ds as with
  | nil=>intro j h1;simp at h1
  | cons v vs ih=>
   intro j h1 h2
   cases r with
   | cons a b=>
    cases j with
    | zero=>exact⟨_,a⟩
    | succ j=>exact ih b j (by simpa using h1) (by simpa using h2)
def rM1(K:KW)(m:M1):V→List V→Hp→VK→Prop:=λx xs H Q=>∃dx ds,BRep K H x dx∧BReps K H xs ds∧meW m dx ds (Res K H Q)
theorem Vz{s:Shared}{its:List Value}{xs:List Dat}{x:Value}{d:Dat}{as bs:List Addr}{A:Around}(hu:A.units+200 < cLine)(rs:ReadsAll s.heap its (toPys xs) as)(rx:Reads s.heap x (Ar d) bs)(hd:okd 60 d)(hx:∀z∈xs,okd 60 z)
  (ha:(xs.any λz=>eqD z d)=true):∃e:Nat→Bool,(xs.findIdx λz=>eqD z d) < its.toArray.size∧e (xs.findIdx λz=>eqD z d)=true∧(∀m,m < (xs.findIdx λz=>eqD z d)→e m=false)∧∀(j:Nat) (hj:j < its.toArray.size),SeqAt.EqAt A s its.toArray[j] x (e j):=by
 have hl:its.length=xs.length:=by
  have:=SeqAt.ReadsAll.length (toPys xs) its as rs;rw[this,Hr,Yzi]
 have hj:=Ue ha;refine⟨λj=>match xs[j]? with|some z=>eqD z d|none=>false,by rw[Ao];omega,?_,λm hm=>?_,λj hj2=>?_⟩
 ·simp only[Ab hj]
  exact List.findIdx_getElem (w:=hj)
 ·have h2:m < xs.length:=by omega
  simp only[Ab h2]
  simpa using List.not_of_lt_findIdx hm
 ·obtain⟨z,e1,e2⟩:=Anc hu rs rx hd hx j (by simpa using hj2)
  simp only[e1]
  simpa using e2
theorem Agh(hu:X.A.units+300 < cLine):MtR X "tuple.index" (λx xs H Q=>∃l d,BRep X.kw H x (.tup l)∧BReps X.kw H xs [d]∧R8 (.tup l) [d] (Res X.kw H Q)):=by
 intro pins s σ H x xs v us Q I rx rxs ⟨l,d,hx,hxs,h⟩;obtain⟨h1,h2,h3,h4⟩:=h;obtain⟨y,rfl,hy⟩:=hxs.one;obtain⟨a,vs,rfl,k1,k2,k3⟩:=hx.tupAt
 cases rx
 match us,rxs with
 | [u],.cons ru .nil=>
  obtain⟨its,rv,⟨⟨cls,dd,data,sl⟩,ho,hc,n,hdt⟩,_⟩:=I.tuple k1.sq;simp only at hc hdt
  subst hc hdt;obtain⟨as,rs⟩:=Reps.reads I l 60 vs its h2 k2 rv;obtain⟨bs,rb⟩:=hy.reads I h1 ru;obtain⟨e,e1,e2,e3,e4⟩:=Vz (A:=X.A.in1) (by show X.A.units+1+200 < cLine;omega) rs rb h1 h2 h3;exact call_meets F.slot_tuple_index ⟨_,ho,rfl⟩ F.entry_tuple_index (F.args_tuple_index_2 _ _)
   (SeqAt.tuple_index2_found a its.toArray n dd sl u e _ e1 (Am _) e1 e2 λm _ _ hm=>e3 m hm) ⟨ho,e4,⟨.int _,H,I.tok _,⟨_,rfl⟩,h4.rep (De _)⟩⟩
theorem Agi(hu:X.A.units+300 < cLine):MtR X "list.index" (λx xs H Q=>∃l d,BRep X.kw H x (.lst l)∧BReps X.kw H xs [d]∧R8 (.lst l) [d] (Res X.kw H Q)):=by
 intro pins s σ H x xs v us Q I rx rxs ⟨l,d,hx,hxs,h⟩;obtain⟨h1,h2,h3,h4⟩:=h;obtain⟨y,rfl,hy⟩:=hxs.one;obtain⟨a,vs,rfl,k1,k2,k3⟩:=hx.lstAt
 cases rx
 match us,rxs with
 | [u],.cons ru .nil=>
  obtain⟨_,its,n,rv,ho⟩:=k1.ok I.hok;obtain⟨as,rs⟩:=Reps.reads I l 60 vs its h2 k2 rv;obtain⟨bs,rb⟩:=hy.reads I h1 ru;obtain⟨e,e1,e2,e3,e4⟩:=Vz (A:=X.A.in1) (by show X.A.units+1+200 < cLine;omega) rs rb h1 h2 h3;have hb:((l.findIdx λz=>eqD z d:Nat):Int) < 2 ^ 63 - 1:=by
   have:=Ue h3;rw[sizeLine_eq]at k3;omega
  exact call_meets F.slot_list_index ⟨_,ho,rfl⟩ F.entry_list_index (F.args_list_index_2 _ _)
   (SeqAt.list_index2_found a its.toArray n none #[] u e _ e1 (Am _) hb e2 λm _ _ hm=>e3 m hm) ⟨ho,e4,⟨.int _,H,I.tok _,⟨_,rfl⟩,h4.rep (De _)⟩⟩
theorem Abn{l:List Dat}{d:Dat}(h1:okd 60 d):(∀z∈l,okd 60 z)→((toPys l).countP λy=>PyData.eqv y (Ar d))=l.countP λz=>eqD z d:=by
 rw[Hr]
 induction l with
 | nil=>intro _;rfl
 | cons a l ih=>
  intro h2;rw[Yzs,List.countP_cons,List.countP_cons,ih λz hz=>h2 z (by simp[hz]),Ml a d 60 (h2 a (by simp)) h1]
theorem Aau{l:List Dat}:(∀z∈l,okd 60 z)→PyData.plainAll (toPys l)=true∧PyData.depthAll (toPys l)≤60:=by
 rw[Hr]
 induction l with
 | nil=>intro _;exact⟨rfl,by simp[PyData.depthAll]⟩
 | cons a l ih=>
  intro h2;obtain⟨q1,q2⟩:=ih λz hz=>h2 z (by simp[hz])
  obtain⟨p1,p2⟩:=Dg 60 a (h2 a (by simp));rw[Yzs];refine⟨by simp[PyData.plainAll,p1,q1],?_⟩;simp only[PyData.depthAll];omega
theorem Agj(hu:X.A.units+300 < cLine):MtR X "list.count" (λx xs H Q=>∃l d,BRep X.kw H x (.lst l)∧BReps X.kw H xs [d]∧Zm (.lst l) [d] (Res X.kw H Q)):=by
 intro pins s σ H x xs v us Q I rx rxs ⟨l,d,hx,hxs,h⟩;obtain⟨h1,h2,h3⟩:=h;obtain⟨y,rfl,hy⟩:=hxs.one;obtain⟨a,vs,rfl,k1,k2,k3⟩:=hx.lstAt
 cases rx
 match us,rxs with
 | [u],.cons ru .nil=>
  obtain⟨_,its,n,rv,ho⟩:=k1.ok I.hok;obtain⟨as,rs⟩:=Reps.reads I l 60 vs its h2 k2 rv;obtain⟨bs,rb⟩:=hy.reads I h1 ru;obtain⟨p1,p2⟩:=Aau h2;obtain⟨p3,p4⟩:=Dg 60 d h1;refine PySem.SeqAt.count_list_data (vs:=its.toArray) ⟨_,ho,rfl,n,rfl⟩ rs rb p1 p3 (by omega) ?_;rw[Abn h1 h2];exact⟨.int _,H,I.tok _,⟨_,rfl⟩,h3.rep (De _)⟩
theorem Reps.strs{K:KW}{H:Hp}:∀{vs:List V} {ss:List (List Nat)},Reps K H vs (ss.map Dat.str)→vs=(ss.map λs=>(⟨s.toArray⟩:Str)).map V.str
 | [],[],_=>rfl
 | [],_::_,h=>by simp[Reps]at h
 | _::_,[],h=>by simp[Reps]at h
 | v::vs,b::bs,h=>by
  rw[Yzs,Reps,Rep]at h;rw[Yzs,Yzs,← h.1.1,← Reps.strs h.2]
theorem Aa9(sep:List Nat):∀ss:List (List Nat),Str.join ⟨sep.toArray⟩ (ss.map λs=>(⟨s.toArray⟩:Str))=⟨(M7 sep ss).toArray⟩
 | []=>rfl
 | [x]=>rfl
 | x::y::r=>by
  have ih:=Aa9 sep (y::r);show(⟨x.toArray⟩:Str)++⟨sep.toArray⟩++Str.join ⟨sep.toArray⟩ ((y::r).map λs=>(⟨s.toArray⟩:Str))=_
  rw[ih,Yr,Yr];rfl
theorem join_eq(sep:List Nat)(ss:List (List Nat)):Txt.join ⟨sep.toArray⟩ (ss.map λs=>(⟨s.toArray⟩:Str))=⟨(M7 sep ss).toArray⟩:=(TL.join_eq _ _).trans (Aa9 sep ss)
theorem R4(sep:List Nat):∀ss:List (List Nat),(M7 sep ss).length≤(ss.map Dh).sum+ss.length*sep.length
 | []=>by simp[M7]
 | [x]=>by simp[M7]
 | x::y::r=>by
  have ih:=R4 sep (y::r);simp only[M7,Yzj,Yzs,List.sum_cons,Yzk,Ay]at ih ⊢;omega
theorem Ajk:MtR X "str.join" (rM1 X.kw .join):=by
 intro pins s σ H x xs v us Q I rx rxs ⟨dx,ds,hx,hxs,h⟩;simp only[meW]at h;unfold Aep at h;have len (ss:List (List Nat)):(((ss.map λs=>(⟨s.toArray⟩:Str))).map (·.length)).sum=(ss.map Dh).sum:=by
  rw[Dk];refine congrArg _ (List.map_congr_left λs _=>Ez s)
 split at h
 ·rename_i sep l
  obtain⟨ss,rfl,hz,q⟩:=h;obtain⟨y,rfl,hy⟩:=hxs.one;obtain⟨rfl,_⟩:=hx.strAt;obtain⟨a,vs,rfl,k1,k2,k3⟩:=hy.lstAt;have e:=k2.strs;subst e;refine mt_join pins s σ H _ _ v us Q I rx rxs ⟨_,a,_,rfl,rfl,.inl (.inl k1),by rw[len,Yzi,Ez];exact hz,?_⟩;rw[join_eq];exact q.rep (G8 (Bo (R4 _ _) hz))
 ·rename_i sep l
  obtain⟨ss,rfl,hz,q⟩:=h;obtain⟨y,rfl,hy⟩:=hxs.one;obtain⟨rfl,_⟩:=hx.strAt;obtain⟨a,vs,rfl,k1,k2,k3⟩:=hy.tupAt;have e:=k2.strs;subst e;refine mt_join pins s σ H _ _ v us Q I rx rxs ⟨_,a,_,rfl,rfl,.inr k1.sq,by rw[len,Yzi,Ez];exact hz,?_⟩;rw[join_eq];exact q.rep (G8 (Bo (R4 _ _) hz))
 ·exact h.elim
theorem Ke{α:Type}(p:α→Bool):∀l:List α,l.drop (l.takeWhile p).length=l.dropWhile p
 | []=>rfl
 | a::l=>by
  cases h:p a
  ·rw[List.takeWhile_cons,Kl,h];rfl
  ·rw[List.takeWhile_cons,Kl,h];exact Ke p l
theorem Agm(s t:List Nat):Txt.lstripChars ⟨s.toArray⟩ ⟨t.toArray⟩=⟨(s.dropWhile λc=>t.contains c).toArray⟩:=by
 rw[Txt.lstripChars,PySem.W.stripBy_eq];show Builtin.Str.strSub _ (s.takeWhile λc=>t.toArray.contains c).length (Str.length ⟨s.toArray⟩)=_
 have e:(λc=>t.toArray.contains c)=λc=>t.contains c:=by funext c;simp
 rw[e,Ez];unfold Builtin.Str.strSub
 congr 1
 rw[← Ke];simp only[List.extract_toArray,List.extract_eq_drop_take,Array.toArray_toList]
 congr 1
 exact Ou (by rw[Fv];omega)
theorem Ac7:MtR X "str.lstrip" (rM1 X.kw .lstrip):=by
 intro pins s σ H x xs v us Q I rx rxs ⟨dx,ds,hx,hxs,h⟩;simp only[meW]at h;unfold Zd at h
 split at h
 ·rename_i a b
  obtain⟨y,rfl,hy⟩:=hxs.one;obtain⟨rfl,h1⟩:=hx.strAt;obtain⟨rfl,_⟩:=hy.strAt;refine mt_lstripChars pins s σ H _ _ v us Q I rx rxs ⟨_,_,rfl,rfl,by rw[Ez];exact h1,?_⟩;rw[Agm];refine h.rep (G8 (Bo ?_ h1));rw[← Ke,Fv];omega
 ·exact h.elim
end
end SF
namespace SF
open PySem PySem.Spec PyProof.Rows L2
variable[TN]
def Kw(K:PySem.W.Frag):Prop:=∃o,K.lookup sysModules=some o∧o.cls = .type "dict"
section
variable{X:Cx}{pins:List (Addr×Obj)}{σ:L2.St}{H:Hp}{s:Shared}
theorem Aje(hS:Kw X.kw)(I:L2.Inv X pins σ H s){a:Addr}{o:Obj}{T:String}(h:s.heap.get? a=some o)(hc:o.cls = .type T)(ne:T ≠ "dict"):sysModules≠a:=λe=>by
 subst e;obtain⟨o',q1,q2⟩:=hS;have q:=I.kIn _ _ q1;rw[h]at q
 cases q
 rw[hc]at q2;injection q2 with q2;exact ne q2
theorem Aa8{h:Heap}{es:List DictEntry}{vs:List (Key×Value)}{kvs:List (Key×V)}{l:List (Dat×Dat)}{K:KW}{H:Hp}{P:Program}{w:World}(rd:∀p∈l,∀v u,Rep K H v p.2→L2.RelV v u→∃as,Reads h u (Ar p.2) as∧sysModules∉as) :
  Pairs (mixKind P w) es vs→KV kvs vs→RepKv K H kvs l→(∃as,ReadsAll h (es.map (·.key)) ((toPyKv l).map (·.1)) as∧sysModules∉as)∧∃bs,ReadsAll h (es.map (·.val)) ((toPyKv l).map (·.2)) bs∧sysModules∉bs:=by
 intro p
 induction p generalizing kvs l with
 | nil=>
  intro r q
  cases r
  match l,q with
  | [],_=>exact⟨⟨[],.nil,by simp⟩,[],.nil,by simp⟩
 | @cons e kv es vs h1 h2 t ih=>
  intro r q
  cases r with
  | @cons a b as bs r1 r2=>
   match l,q with
   | (c,d)::l,q=>
    rw[RepKv]at q;obtain⟨q1,q2,q3⟩:=q;obtain⟨⟨as,i1,i2⟩,bs,i3,i4⟩:=ih (λp hp=>rd p (by simp[hp])) r2 q3;obtain⟨cs,j1,j2⟩:=rd (c,d) (by simp) _ _ q2 r1.2;rw[← h2]at j1;have key:Reads h e.key (Ar c) []:=by
     have k1:keyIs kv.1 e.key=true:=h1;obtain⟨e1,e2⟩:=r1;obtain⟨a1,a2⟩:=a;simp only at e1 q1
     subst e1;subst q1
     rcases keyIs_shape k1 with⟨i,t,x1,x2⟩|⟨x,t,x1,x2⟩
     ·rw[x1,x2]
      simp only[kD,Ar];exact .int i t
     ·rw[x1,x2]
      simp only[kD,Ar];exact .str x t
    refine⟨⟨[]++as,?_,by simpa using i2⟩,cs++bs,?_,by simp[j2,i4]⟩
    ·simp only[Yzs,toPyKv]
     exact .cons key i1
    ·simp only[Yzs,toPyKv]
     exact .cons j1 i3
mutual
theorem Rep.readsK(hS:Kw X.kw)(I:L2.Inv X pins σ H s):∀(d:Dat) (n:Nat) (v:V) (u:Value),okr n d→Rep X.kw H v d→L2.RelV v u→∃as,Reads s.heap u (Ar d) as∧sysModules∉as
 | .non,n,v,u,_,h,r=>by rw[Rep]at h;subst h;cases r;exact⟨_,Reads.none,by simp⟩
 | .bl b,n,v,u,_,h,r=>by rw[Rep]at h;subst h;cases r;exact⟨_,Reads.bool b,by simp⟩
 | .int i,n,v,u,_,h,r=>by rw[Rep]at h;subst h;obtain⟨t,rfl⟩:=r;exact⟨_,Reads.int i t,by simp⟩
 | .str x,n,v,u,_,h,r=>by rw[Rep]at h;obtain⟨rfl,_⟩:=h;obtain⟨t,rfl⟩:=r;exact⟨_,Reads.str _ t,by simp⟩
 | .tup l,0,v,u,o,h,r=>by simp[okr]at o
 | .tup l,n+1,v,u,o,h,r=>by
  rw[Rep]at h;obtain⟨a,vs,rfl,h2,h3,h4⟩:=h
  cases r
  obtain⟨its,rv,⟨ob,ho,hc,k,hd⟩,_⟩:=I.tuple h2.sq;obtain⟨as,hr,hn⟩:=Reps.readsK hS I l n vs its (by simpa only[okr]using o) h4 rv;exact⟨_,Reads.tuple ho hc hd hr,hn⟩
 | .lst l,0,v,u,o,h,r=>by simp[okr]at o
 | .lst l,n+1,v,u,o,h,r=>by
  rw[Rep]at h;obtain⟨a,vs,rfl,h2,h3,h4⟩:=h
  cases r
  obtain⟨its,rv,⟨ob,k,ho,hc,_,hd⟩,_⟩:=I.list h2.sq;obtain⟨as,hr,hn⟩:=Reps.readsK hS I l n vs its (by simpa only[okr]using o) h4 rv;exact⟨_,Reads.list ho hc hd hr,by simp only[Ad,not_or];exact⟨Aje hS I ho hc (by decide),hn⟩⟩
 | .dic l,0,v,u,o,h,r=>by simp[okr]at o
 | .dic l,n+1,v,u,o,h,r=>by
  rw[Rep]at h;obtain⟨a,kvs,rfl,⟨ob,h2⟩,h3,h4⟩:=h
  cases r
  obtain⟨_,h5⟩:=I.hok a _ h2;obtain⟨_,hs,vs,kv,o1,es,ep,g1,g2,g3,_,g5,_⟩:=h5;obtain⟨⟨as,i1,i2⟩,bs,i3,i4⟩:=Aa8 (RepKv.readsK hS I l n (by simpa only[okr]using o)) g5 kv h4;refine⟨_,by rw[Ar];exact Reads.dict g1 g2.1 g3 i1 i3,?_⟩;simp only[Bh,Ad,Bl,not_or];exact⟨λe=>by rw[← e]at hs;simp at hs,i2,i4⟩
 | .obj c l,n,v,u,o,h,r=>by cases n<;>simp[okr]at o
 | .pot,n,v,u,o,h,r=>by cases n<;>simp[okr]at o
 | .scr l,n,v,u,o,h,r=>by cases n<;>simp[okr]at o
 | .kd l,n,v,u,o,h,r=>by cases n<;>simp[okr]at o
theorem Reps.readsK(hS:Kw X.kw)(I:L2.Inv X pins σ H s):∀(l:List Dat) (n:Nat) (vs:List V) (us:List Value),okrs n l→Reps X.kw H vs l→L2.Vals vs us→∃as,ReadsAll s.heap us (toPys l) as∧sysModules∉as
 | [],n,[],us,_,_,r=>by cases r;exact⟨_,ReadsAll.nil,by simp⟩
 | [],n,_::_,us,_,h,_=>by simp[Reps]at h
 | _::_,n,[],us,_,h,_=>by simp[Reps]at h
 | d::ds,n,v::vs,us,o,h,r=>by
  rw[Reps]at h;rw[okrs]at o
  cases r with
  | cons r1 r2=>
   obtain⟨as,q1,n1⟩:=Rep.readsK hS I d n v _ o.1 h.1 r1;obtain⟨bs,q2,n2⟩:=Reps.readsK hS I ds n vs _ o.2 h.2 r2;exact⟨_,ReadsAll.cons q1 q2,by simp[n1,n2]⟩
theorem RepKv.readsK(hS:Kw X.kw)(I:L2.Inv X pins σ H s):∀(l:List (Dat×Dat)) (n:Nat),okrKv n l→∀p∈l,∀v u,Rep X.kw H v p.2→L2.RelV v u→∃as,Reads s.heap u (Ar p.2) as∧sysModules∉as
 | [],n,_,p,hp=>by simp at hp
 | (c,d)::l,n,o,p,hp=>by
  rw[okrKv]at o;intro v u hv r;by_cases e:p=(c,d)
  ·subst e
   exact Rep.readsK hS I d n v u o.2.1 hv r
  ·exact RepKv.readsK hS I l n o.2.2 p (by simpa [e]using hp) v u hv r
end
theorem BRep.readsK(hS:Kw X.kw)(I:L2.Inv X pins σ H s){d:Dat}{n:Nat}{v:V}{u:Value}(o:okr n d)(h:BRep X.kw H v d)(r:L2.RelV v u):∃as,Reads s.heap u (Ar d) as∧sysModules∉as:=by
 rcases h with h|⟨a,rfl,h⟩
 ·exact Rep.readsK hS I d n v u o h r
 ·cases d with
  | lst l=>
   obtain⟨vs,h1,h2,h3⟩:=h
   cases r
   obtain⟨its,rv,⟨ob,k,ho,hc,_,hd⟩,_⟩:=I.list (SqL.of (K:=X.kw) h1)
   cases n with
   | zero=>simp[okr]at o
   | succ n=>
    obtain⟨as,hr,hn⟩:=Reps.readsK hS I l n vs its (by simpa only[okr]using o) h3 rv;exact⟨_,Reads.list ho hc hd hr,by simp only[Ad,not_or];exact⟨Aje hS I ho hc (by decide),hn⟩⟩
  | dic l=>
   obtain⟨kvs,h2,h3,h4⟩:=h
   cases r
   cases n with
   | zero=>simp[okr]at o
   | succ n=>
    obtain⟨_,hs,vs,kv,o1,es,ep,g1,g2,g3,_,g5,_⟩:=I.hok a _ h2;obtain⟨⟨as,i1,i2⟩,bs,i3,i4⟩:=Aa8 (RepKv.readsK hS I l n (by simpa only[okr]using o)) g5 kv h4;refine⟨_,by rw[Ar];exact Reads.dict g1 g2.1 g3 i1 i3,?_⟩;simp only[Bh,Ad,Bl,not_or];exact⟨λe=>by rw[← e]at hs;simp at hs,i2,i4⟩
  | kd l=>cases n<;>simp[okr]at o
  | _=>exact h.elim
end
theorem Ze(ts:List Str):(dictText ts).length≤piled ts+2:=by
 unfold dictText;rw[strLen_append,strLen_append];have e1:(("{" : String):Str).length=1:=rfl
 have e2:(("}" : String):Str).length=1:=rfl
 have e3:(Str.join ", " ts).length≤piled ts:=by
  by_cases h:ts=[]
  ·subst h;exact Am _
  ·have:=join_length_add ts h;omega
 omega
mutual
theorem Lk:∀(d:Dat) (n:Nat),okr n d→(Ar d).showable=true∧(Ar d).shown.length≤szD d∧(Ar d).depth≤n
 | .non,n,_=>⟨by simp[Ar,PyData.showable],by simp only[Ar,PyData.shown,szD];decide,by simp[Ar,PyData.depth]⟩
 | .bl b,n,_=>⟨by simp[Ar,PyData.showable],by simp only[Ar,PyData.shown,szD];cases b<;>decide,by simp[Ar,PyData.depth]⟩
 | .int i,n,h=>by
  have h:i.natAbs < 2 ^ 1900:=by cases n<;>simpa only[okr]using h
  refine⟨by simpa [Ar,PyData.showable]using Ry h,?_,by simp[Ar,PyData.depth]⟩;simp only[Ar,PyData.shown,szD];show(Str.ofString (toString i)).length≤_
  rw[PySem.ofString_length];exact Aa _
 | .str s,n,h=>by
  have h:∀c∈s,c < 128:=by cases n<;>simpa only[okr]using h
  refine⟨by simp[Ar,PyData.showable],?_,by simp[Ar,PyData.depth]⟩;simp only[Ar,PyData.shown,szD];have h1:=StrLaws.reprText_len (⟨s.toArray⟩:Str) λc hc=>Nat.lt_trans (h c (by simpa using hc)) (by decide)
  rw[Ez s]at h1;omega
 | .tup l,0,h=>by simp[okr]at h
 | .tup l,n+1,h=>by
  obtain⟨h1,h2,h3⟩:=okrs_shown l n (by simpa only[okr]using h);refine⟨by simpa only[Ar,PyData.showable]using h1,?_,by simp only[Ar,PyData.depth];omega⟩;have b2:=Mz (PyData.shownAll (toPys l));simp only[Ar,PyData.shown,szD];omega
 | .lst l,0,h=>by simp[okr]at h
 | .lst l,n+1,h=>by
  obtain⟨h1,h2,h3⟩:=okrs_shown l n (by simpa only[okr]using h);refine⟨by simpa only[Ar,PyData.showable]using h1,?_,by simp only[Ar,PyData.depth];omega⟩;have b2:=Ol (PyData.shownAll (toPys l));simp only[Ar,PyData.shown,szD];omega
 | .dic l,0,h=>by simp[okr]at h
 | .dic l,n+1,h=>by
  obtain⟨h1,h2,h3⟩:=okrKv_shown l n (by simpa only[okr]using h);refine⟨by simpa only[Ar,PyData.showable]using h1,?_,by simp only[Ar,PyData.depth];omega⟩;have b2:=Ze (PyData.shownKv (toPyKv l));simp only[Ar,PyData.shown,szD];omega
 | .obj c l,n,h=>by cases n<;>simp[okr]at h
 | .pot,n,h=>by cases n<;>simp[okr]at h
 | .scr l,n,h=>by cases n<;>simp[okr]at h
 | .kd l,n,h=>by cases n<;>simp[okr]at h
theorem okrs_shown:∀(l:List Dat) (n:Nat),okrs n l→PyData.showableAll (toPys l)=true∧piled (PyData.shownAll (toPys l))≤szDs l∧PyData.depthAll (toPys l)≤n
 | [],n,_=>⟨by simp[toPys,PyData.showableAll],by simp[toPys,PyData.shownAll,piled],by simp[toPys,PyData.depthAll]⟩
 | x::r,n,h=>by
  rw[okrs]at h;obtain⟨a1,a2,a3⟩:=Lk x n h.1;obtain⟨b1,b2,b3⟩:=okrs_shown r n h.2;refine⟨by simp only[toPys,PyData.showableAll,Yzh];exact⟨a1,b1⟩,?_,by simp only[toPys,PyData.depthAll];omega⟩;simp only[toPys,PyData.shownAll,piled_cons,szDs];omega
theorem okrKv_shown:∀(l:List (Dat×Dat)) (n:Nat),okrKv n l→PyData.showableKv (toPyKv l)=true∧piled (PyData.shownKv (toPyKv l))≤szKv l∧PyData.depthKv (toPyKv l)≤n
 | [],n,_=>⟨by simp[toPyKv,PyData.showableKv],by simp[toPyKv,PyData.shownKv,piled],by simp[toPyKv,PyData.depthKv]⟩
 | (k,v)::r,n,h=>by
  rw[okrKv]at h;obtain⟨a1,a2,a3⟩:=Lk k n h.1;obtain⟨c1,c2,c3⟩:=Lk v n h.2.1;obtain⟨b1,b2,b3⟩:=okrKv_shown r n h.2.2;refine⟨by simp only[toPyKv,PyData.showableKv,Yzh];exact⟨⟨a1,c1⟩,b1⟩,?_,by simp only[toPyKv,PyData.depthKv];omega⟩;simp only[toPyKv,PyData.shownKv,piled_cons,szKv,strLen_append];have e:((": " : String):Str).length=2:=rfl;omega
end
section
variable{X:Cx}
theorem Akd(hS:Kw X.kw)(hu:X.A.units+200 < cLine)(hg:X.A.guards=some []):CallR X (.builtin "repr") (rB1 X.kw .reprS):=by
 intro pins s σ H xs us Q I r ⟨ds,hd,h⟩;simp only[biW]at h;unfold Ru at h
 split at h
 ·rename_i d
  obtain⟨⟨h1,hb⟩,h2⟩:=h;obtain⟨v,rfl,hv⟩:=hd.one;obtain⟨q1,q2,hdp⟩:=Lk _ _ h1;have hz:(Ar d).shown.length≤sizeLine:=Bo q2 hb;have fin:Q (.str (Ar d).shown) H:=h2.rep (K:=X.kw) (H:=H) (d:=.str (Nz d)) (v:=.str (Ar d).shown) (by
   unfold Nz;rw[Rep];exact⟨by congr 1,by rw[Array.length_toList];exact hz⟩)
  match us,r with
  | [u],.cons r1 .nil=>
   obtain⟨as,rd,hn⟩:=hv.readsK hS I h1 r1;generalize Ar d=pd at rd q1 hz fin hdp;have heap:∀a,u = .ref a→wpAny (model X.prog X.w) X.A (call (.builtin "repr") [u]) (EP X pins σ Q) X.xe s:=λa e=>by
    subst e;exact repr_of_reads' rd q1 (λ_=>hn) hg (by omega) (λ_ _ z=>z) (λh' w tk hk=>⟨.str _,H,I.kept hk,⟨w,rfl⟩,fin⟩) hz
   cases rd with
   | none=>exact PySem.P.repr_of_none ⟨.str _,H,I.tok _,⟨_,rfl⟩,by simpa [PyData.shown]using fin⟩
   | bool b=>exact PySem.P.repr_of_bool ⟨.str _,H,I.tok _,⟨_,rfl⟩,by simpa [PyData.shown]using fin⟩
   | int i t=>exact PySem.P.repr_of_int (by simpa [PyData.showable]using q1) ⟨.str _,H,I.tok _,⟨_,rfl⟩,by simpa [PyData.shown]using fin⟩
   | str x t=>exact PySem.P.repr_of_str ⟨.str _,H,I.tok _,⟨_,rfl⟩,by simpa [PyData.shown]using fin⟩ (by simpa [PyData.shown]using hz)
   | list a b c e=>exact heap _ rfl
   | tuple a b c e=>exact heap _ rfl
   | dict=>exact heap _ rfl
 ·exact h.elim
theorem Anp:CallR X (.type "str") (rB1 X.kw .str):=by
 intro pins s σ H xs us Q I r ⟨ds,hd,h⟩;simp only[biW]at h;unfold Afm at h
 split at h
 ·rename_i i
  obtain⟨h1,h2⟩:=h;obtain⟨v,rfl,hv⟩:=hd.one;have ev:=hv.intAt;subst ev;refine call_str_int pins s σ H _ us Q I r ⟨i,rfl,Ry h1,?_⟩;have q:=Lk (.int i) 0 (by simpa only[okr]using h1);have b:(Ar (.int i)).shown.length≤sizeLine:=by
   refine Bo q.2.1 ?_;simp only[szD];have h3:=int_text_length_le10 (a:=i) (k:=600) (by decide) (Ax h1 (by decide +kernel));rw[sizeLine_eq];omega
  refine h2.rep (d:=.str (Nz (.int i))) ?_;rw[Rep];unfold Nz;refine⟨?_,by rw[Array.length_toList];exact b⟩;simp only[Ar,PyData.shown]
 ·rename_i b
  obtain⟨v,rfl,hv⟩:=hd.one;have ev:=hv.blAt;subst ev
  cases r with
  | cons r1 r2=>
   cases r2
   cases r1
   refine PySem.P.str_of_bool ⟨.str (if b=true then "True" else "False"),H,I.tok _,⟨_,rfl⟩,h.2.rep (d:=.str (Nz (.bl b))) ?_⟩;rw[Rep]
   cases b
   ·exact⟨rfl,by decide⟩
   ·exact⟨rfl,by decide⟩
 ·exact h.elim
theorem Ah1(S:List Nat):∀(l:List Nat) (k:Nat) (acc:List Nat),∀p∈TL.spl S k acc l,p.length≤acc.length+l.length:=by
 intro l
 induction l with
 | nil=>
  intro k acc p hp;rw[TL.spl_nil]at hp;rw[Aq.mp hp];exact El _ _
 | cons c r ih=>
  intro k acc p hp;rw[Yzk]
  cases k with
  | succ k=>
   have:=ih k acc p hp;omega
  | zero=>
   cases h:TL.pre S (c::r)with
   | true=>
    rw[TL.spl_hit h]at hp
    rcases Ad.mp hp with e|e
    ·rw[e];omega
    ·have:=ih _ [] p e
     simp only[Az]at this;omega
   | false=>
    rw[TL.spl_miss h]at hp;have:=ih 0 (acc++[c]) p hp;rw[Yzj,Ph]at this;omega
theorem Aaw(S:List Nat):∀(l acc:List Nat) (p:List Nat×List Nat),TL.par S acc l=some p→p.1.length≤acc.length+l.length∧p.2.length≤l.length:=by
 intro l
 induction l with
 | nil=>intro acc p hp;cases hp
 | cons c r ih=>
  intro acc p hp
  cases h:TL.pre S (c::r)with
  | true=>
   rw[TL.par_hit h]at hp
   cases hp
   exact⟨El _ _,by rw[Fv];omega⟩
  | false=>
   rw[TL.par_miss h]at hp;have:=ih _ _ hp;rw[Yzj,Ph]at this;rw[Yzk];omega
theorem Pj{K:KW}{H:Hp}:∀{l:List (List Nat)},(∀p∈l,p.length≤sizeLine)→Reps K H (l.map λp=>V.str ⟨p.toArray⟩) (l.map .str)
 | [],_=>trivial
 | p::l,h=>⟨G8 (h p (Dd ..)),Pj λq hq=>h q (Eh _ hq)⟩
theorem Agg:MtR X "str.split" (rM1 X.kw .split):=by
 intro pins s σ H x xs v us Q I rx rxs ⟨dx,ds,h1,h2,h3⟩;have h3:Ys dx ds (Res X.kw H Q):=h3;unfold Ys at h3
 split at h3
 ·rename_i l t _
  obtain⟨rfl,hl⟩:=h1.strAt;obtain⟨w,rfl,hw⟩:=h2.one;obtain⟨rfl,ht⟩:=hw.strAt;obtain⟨⟨q1,q2,q3⟩,q4⟩:=h3;have hz:(⟨l.toArray⟩:Str).length+2≤sizeLine:=by rw[Ez,sizeLine_eq];exact q3
  have hk:=TL.kind_ok (x:=(⟨l.toArray⟩:Str)) (y:=(⟨t.toArray⟩:Str)) (by
   rw[Array.all_eq_true];intro i hi;exact decide_eq_true (q2 _ (by simp)))
  have e:=TL.split_spl ⟨l.toArray⟩ ⟨t.toArray⟩ q1 hk;have e2:(Txt.split ⟨l.toArray⟩ ⟨t.toArray⟩).map V.str=(TL.spl t 0 [] l).map λp=>V.str ⟨p.toArray⟩:=by
   have e3:TL.spl t 0 [] l=(Txt.split ⟨l.toArray⟩ ⟨t.toArray⟩).map TL.tl:=e.symm;rw[e3,Dk];exact List.map_congr_left λy _=>congrArg V.str (TL.mk_tl y).symm
  have n1:=Bo (PyProof.Rows.split_le (⟨l.toArray⟩:Str) ⟨t.toArray⟩) hz;have n2:(TL.spl t 0 [] l).length=(Txt.split ⟨l.toArray⟩ ⟨t.toArray⟩).length:=by
   rw[← Pg (f:=TL.tl) (as:=Txt.split ⟨l.toArray⟩ ⟨t.toArray⟩),e]
  refine mt_split pins s σ H _ _ v us Q I rx rxs ⟨_,_,rfl,rfl,?_,hz,λp hp=>?_⟩
  ·rw[Ez]
   cases t with
   | nil=>exact absurd rfl q1
   | cons a b=>rfl
  ·rw[e2]
   refine q4.lst (Pj λp hp=>?_) (by rw[Yzi,n2];exact n1) hp;have:=Ah1 t l 0 [] p hp;simp only[Az]at this;omega
 ·exact h3.elim
theorem Q6{x y z:Str}{t u v:Tok}{pins:List (Addr×Obj)}{s:Shared}{σ:L2.St}{H:Hp}{Q:VK}{a b c:List Nat}{k:Nat}(I:L2.Inv X pins σ H s)(ea:TL.tl x=a)(eb:TL.tl y=b)(ec:TL.tl z=c)(ha:a.length≤sizeLine)(hb:b.length≤sizeLine)(hc:c.length≤sizeLine)(q:Res X.kw H Q (.tup [.str a,.str b,.str c])) :
  EP X pins σ Q (.ref s.heap.objs.size) { s with toks:=k,heap:=s.heap.push { cls:=.type "tuple", data:=.seq [Value.str x t,.str y u,.str z v].toArray } }:=by
 have hp:=I.hok.fresh (Aa _);refine⟨.ref s.heap.objs.size,_,Kf (ys:=[.str x,.str y,.str z]) (t':=k) I (.cons ⟨t,rfl⟩ (.cons ⟨u,rfl⟩ (.cons ⟨v,rfl⟩ .nil))) (by show 3≤sizeLine;decide),rfl,q.tup ?_ (by show 3≤sizeLine;decide) hp rfl⟩;have e1:x=⟨a.toArray⟩:=ea ▸ (TL.mk_tl x).symm;have e2:y=⟨b.toArray⟩:=eb ▸ (TL.mk_tl y).symm;have e3:z=⟨c.toArray⟩:=ec ▸ (TL.mk_tl z).symm;rw[e1,e2,e3];exact⟨G8 ha,G8 hb,G8 hc,trivial⟩
theorem Wt:MtR X "str.partition" (rM1 X.kw .partition):=by
 intro pins s σ H x xs v us Q I rx rxs ⟨dx,ds,h1,h2,h3⟩;have h3:Mg dx ds (Res X.kw H Q):=h3;unfold Mg at h3
 split at h3
 ·rename_i l t _
  obtain⟨rfl,hl⟩:=h1.strAt;obtain⟨w,rfl,hw⟩:=h2.one;obtain⟨rfl,ht⟩:=hw.strAt;obtain⟨q1,q2⟩:=h3;obtain⟨t1,rfl⟩:=rx
  match us,rxs with
  | [u],.cons r1 .nil=>
   obtain⟨t2,rfl⟩:=r1;have hy:((⟨t.toArray⟩:Str).length == 0)=false:=by
    rw[Ez]
    cases t with
    | nil=>exact absurd rfl q1
    | cons a b=>rfl
   have e:=TL.partition_par ⟨l.toArray⟩ ⟨t.toArray⟩ q1;refine call_meets PySem.F.slot_str_partition (typeIs_str _ _ _) PySem.F.entry_str_partition (PySem.F.args_str_partition_2 _ _) (meets_str_partition ⟨l.toArray⟩ ⟨t.toArray⟩ t1 t2 hy (by rw[Ez];exact hl)) ?_;unfold Txt.partition at e;unfold Aoi at q2;have er:TL.tl (⟨t.toArray⟩:Str)=t:=rfl;have el:TL.tl (⟨l.toArray⟩:Str)=l:=rfl;rw[er,el]at e
   revert e
   cases Builtin.Str.occurrences (⟨l.toArray⟩:Str) ⟨t.toArray⟩ 0 (⟨l.toArray⟩:Str).length 1 with
   | nil=>
    intro e
    cases hq:TL.par t [] l with
    | none=>
     rw[hq]at q2;exact Q6 (a:=l) (b:=[]) (c:=[]) I rfl rfl rfl hl (Am _) (Am _) q2
    | some p=>
     rw[hq]at q2 e;have hs:=Aaw t l [] p hq;simp only[Az,Fq]at hs;dsimp only at e;exact Q6 (a:=p.1) (b:=t) (c:=p.2) I (congrArg (λz:Str×Str×Str=>TL.tl z.1) e) (congrArg (λz:Str×Str×Str=>TL.tl z.2.1) e) (congrArg (λz:Str×Str×Str=>TL.tl z.2.2) e) (by omega) ht (by omega) q2
   | cons i r=>
    intro e
    cases hq:TL.par t [] l with
    | none=>
     rw[hq]at q2 e;dsimp only at e;exact Q6 (a:=l) (b:=[]) (c:=[]) I (congrArg (λz:Str×Str×Str=>TL.tl z.1) e) (congrArg (λz:Str×Str×Str=>TL.tl z.2.1) e) (congrArg (λz:Str×Str×Str=>TL.tl z.2.2) e) hl (Am _) (Am _) q2
    | some p=>
     rw[hq]at q2 e;have hs:=Aaw t l [] p hq;simp only[Az,Fq]at hs;dsimp only at e;exact Q6 (a:=p.1) (b:=t) (c:=p.2) I (congrArg (λz:Str×Str×Str=>TL.tl z.1) e) (congrArg (λz:Str×Str×Str=>TL.tl z.2.1) e) (congrArg (λz:Str×Str×Str=>TL.tl z.2.2) e) (by omega) ht (by omega) q2
 ·exact h3.elim
theorem Ach(l t:List Nat):Txt.startswith ⟨l.toArray⟩ ⟨t.toArray⟩=TL.pre t l:=by
 have h1:(⟨l.toArray⟩:Str).length=l.length:=by simp[Str.length]
 have h2:(⟨t.toArray⟩:Str).length=t.length:=by simp[Str.length]
 unfold Txt.startswith TL.pre Builtin.Str.subAt;rw[h1,h2,Fq];have e:((⟨l.toArray⟩:Str).cps.extract 0 (t.length) == (⟨t.toArray⟩:Str).cps)=(l.take t.length == t):=by
  simp
 rw[e];by_cases hc:l.take t.length=t
 ·have:t.length≤l.length:=by
   have:=congrArg Dh hc;rw[Br]at this;omega
  simp[this]
 ·have e3:(l.take t.length == t)=false:=by simpa using hc
  rw[e3,Qt]
theorem Ac6:MtR X "str.startswith" (rM1 X.kw .startswith):=by
 intro pins s σ H x xs v us Q I rx rxs ⟨dx,ds,h1,h2,h3⟩;have h3:Uq dx ds (Res X.kw H Q):=h3;unfold Uq at h3
 split at h3
 ·rename_i l t _
  obtain⟨rfl,hl⟩:=h1.strAt;obtain⟨w,rfl,hw⟩:=h2.one;obtain⟨rfl,ht⟩:=hw.strAt;refine mt_startswith pins s σ H _ _ v us Q I rx rxs ⟨_,_,rfl,rfl,?_⟩;rw[Ach];exact h3.rep (Hm _)
 ·exact h3.elim
end
end SF
namespace SF
open PySem PySem.Spec PyProof.Rows L2
variable[TN]
section
variable{prog:Program}{w:World}{A:Around}{E:Value→Shared→Prop}{s:Shared}
def NilAt(h:Heap)(v:Value):Prop:=∃a,v = .ref a∧h.IsTuple a #[]
theorem NilAt.type{v:Value}{M:Model}(t:NilAt s.heap v){Q:Value→Shared→Prop}(q:Q (.type "tuple") s):wpAny M A (typeOf v) Q E s:=by
 obtain⟨a,rfl,o,ho,hc,n,hd⟩:=t;refine wpAny_typeOf_ref ho ?_;rw[hc];exact q
theorem NilAt.first{v:Value}{M:Model}(t:NilAt s.heap v){Q:Option Value→Shared→Prop}(q:Q none s):wpAny M A (firstOfTuple' v) Q E s:=by
 rw[PySem.W.kas_first_eq];refine wpAny_bind (t.type ?_);obtain⟨a,rfl,o,ho,hc,n,hd⟩:=t;rw[if_neg (by simp)];exact wpAny_bind (PyProof.Rows.listItems_at ho hd (wpAny_pure q))
theorem Ajv{M:Model}{v:Value}{vs:List Value}(t:∀x∈v::vs,NilAt s.heap x){Q:SortKind→Shared→Prop}(q:Q oneType' s):wpAny M A (keyKind' (v::vs).toArray) Q E s:=by
 have f:wpAny M A ((v::vs).mapM firstOfTuple') (λl s'=>l=(v::vs).map (λ_=>none)∧s'=s) E s:=PySem.W.kas_mapM _ (λx hx Q' hq=>(t x hx).first hq) ⟨rfl,rfl⟩;have g:wpAny M A ((v::vs).mapM typeOf) (λl s'=>l=(v::vs).map (λ_=>Value.type "tuple")∧s'=s) E s:=PySem.W.kas_mapM _ (λx hx Q' hq=>(t x hx).type hq) ⟨rfl,rfl⟩;rw[keyKind'_eq,List.mapM_toArray,map_eq_pure_bind];refine wpAny_bind (wpAny_bind (wpAny_mono f (λl s' h=>wpAny_pure ?_) λ_ _ e=>e));obtain⟨rfl,rfl⟩:=h;have n1:(Bx (λ_=>(none:Option Value)) (v::vs)).toArray.all (λx=>x.isSome)=false:=by simp
 have n2:((Bx (λ_=>(none:Option Value)) (v::vs)).toArray[0]?.bind id).isSome=false:=by simp
 rw[n1,n2];simp only[Yzg,if_false];refine wpAny_bind ?_;rw[oneTypeOnly'_eq,List.mapM_toArray,map_eq_pure_bind];refine wpAny_bind (wpAny_bind (wpAny_mono g (λl s' h=>wpAny_pure ?_) λ_ _ e=>e));obtain⟨rfl,rfl⟩:=h;have n3:(Bx (λ_=>Value.type "tuple") (v::vs)).toArray[0]? = some (.type "tuple"):=by simp
 have n4:((Bx (λ_=>Value.type "tuple") (v::vs)).toArray.all λx=>x == Value.type "tuple")=true:=by simp
 rw[n3];simp only[n4,if_true];exact wpAny_pure (wpAny_pure q)
theorem Aq0{x y:Value}(hx:NilAt s.heap x)(hy:NilAt s.heap y)(hu:A.units < cLine):wpAny (model prog w) A (keyLt' oneType' x y) (λr s'=>s'=s∧r=false) (λ_ _=>False) s:=by
 obtain⟨a,rfl,⟨cls,dd,data,sl⟩,ho,hc,n,hd⟩:=hx;obtain⟨b,rfl,⟨cls2,dd2,data2,sl2⟩,ho2,hc2,n2,hd2⟩:=hy;simp only at hc hd hc2 hd2
 subst hc hd hc2 hd2;rw[keyLt'_oneType,oneLt'_eq];simp only[if_true];refine wpAny_bind (wpAny_cRoomFor hu ?_);refine wpAny_bind (wpAny_callSpecialIfBound?_slot (T := "tuple") ⟨_,ho,rfl⟩ PySem.F.slot_tuple_lt (call_meets PySem.F.slot_tuple_lt ⟨_,ho,rfl⟩ PySem.F.entry_tuple_lt (PySem.F.args_tuple_lt_2 _ _) (PySem.SeqAt.tuple_ltAt a b #[] #[] n n2 dd dd2 sl sl2 (λ_=>true) (λ_=>false))
  ⟨ho,ho2,(λj h=>by simp at h),(λj h=>by simp at h),?_⟩))
 exact wpAny_truthy_bool ⟨rfl,rfl⟩
theorem Yu{a:Addr}{vs:List Value}(hu:A.units < cLine)(h2:2≤vs.length)(t:∀v∈vs,∃b,v = .ref b∧b≠a∧s.heap.IsTuple b #[]):Srt.Sortable prog w A s a vs:=by
 intro h' keep;have t':∀v∈vs,NilAt h' v:=λv hv=>by
  obtain⟨b,e,nb,o,ho,r⟩:=t v hv;exact⟨b,e,o,keep b o nb ho,r⟩
 refine⟨oneType',λQ E q=>?_,λp q hp hq=>⟨false,Aq0 (t' _ hp) (t' _ hq) hu⟩⟩
 match vs,h2,t' with
 | v::r,_,t'=>exact Ajv t' q
end
theorem V5{R:Value→Dat→Prop}{d:Dat}:∀{out:List Value},(∀u∈out,R u d)→PySem.W.EachIs R out (Bw out.length d)
 | [],_=>.nil
 | u::r,h=>.cons (h u (by simp)) (V5 λx hx=>h x (by simp[hx]))
theorem We:∀a b:List Int,alikeDs (a.map .int) (b.map .int)=true
 | [],[]=>rfl
 | [],_::_=>rfl
 | _::_,[]=>rfl
 | x::a,y::b=>by
  rw[Yzs,Yzs,alikeDs];simp only[Av,We a b,Bool.and_self]
theorem Vj{h:Heap}:∀{r:List Int} {vs:List Value} {as:List Addr},ReadsAll h vs (toPys (r.map .int)) as→as=[]
 | [],_,_,q=>by
  rw[Cy,toPys]at q
  cases q
  rfl
 | i::r,_,_,q=>by
  rw[Yzs,toPys,Ar]at q
  cases q with
  | cons a b=>
   cases a
   rw[Vj b];rfl
theorem Xf{h:Heap}:∀{us:List Value} {rs:List (List Int)},PySem.W.EachIs (λu d=>∃as,Reads h u (Ar d) as) us (rs.map λr=>.tup (r.map .int))→PySem.W.EachIs (λv d=>∀h':Heap,(∀b o,h.get? b=some o→h'.get? b=some o)→Reads h' v (Ar d) []) us (rs.map λr=>.tup (r.map .int))
 | [],[],_=>.nil
 | [],_::_,q=>nomatch q
 | _::_,[],q=>nomatch q
 | u::us,r::rs,q=>by
  rw[Yzs]at q ⊢
  cases q with
  | cons a b=>
   refine .cons (λh' k=>?_) (Xf b);obtain⟨as,e⟩:=a;have e':=Reads.keeps k e;rw[Ar]at e e' ⊢
   cases e' with
   | tuple _ _ _ z=>
    have:=Vj z;subst this;exact .tuple (by assumption) (by assumption) (by assumption) z
theorem Aaf{l:List Dat}{d:Dat}(h:∀z∈l,z=d):Df l=Bw l.length d:=by
 refine Afg.mpr ⟨?_,λz hz=>?_⟩
 ·unfold Df
  rw[Cv]
 ·unfold Df at hz
  exact h z (Tp.mp hz)
section
variable{X:Cx}
theorem Akc(hu:X.A.units+200 < cLine):CallR X (.builtin "sorted") (rB1 X.kw .sortE):=by
 intro pins s σ H xs us Q I r ⟨ds,hd,h⟩;simp only[biW]at h;unfold Acn at h
 split at h
 ·rename_i l
  obtain⟨q1|q1,q3⟩:=h
  ·exact V8 hu pins s σ H xs us Q I r ⟨[.lst l],hd,by simp only[biW];unfold Qy;exact⟨q1.1,q1.2,q3⟩⟩
  ·obtain⟨v,rfl,hv⟩:=hd.one
   obtain⟨a,vs,rfl,h1,h2,h3⟩:=hv.lstAt;obtain⟨its,rv,hl,_⟩:=I.list (.inl h1);rw[Vals.ref1 r];have len:its.length=l.length:=by rw[← rv.length,h2.length]
   have el:l=Bw l.length (.tup []):=Afg.mpr ⟨rfl,q1⟩;have each:∀u∈its,∃v,L2.RelV v u∧Rep X.kw H v (.tup []):=by
    have eR:=h2.each rv;rw[el]at eR;generalize l.length=n at eR;clear rv hl len;intro u hu
    induction its generalizing n with
    | nil=>cases hu
    | cons x r ih=>
     cases n with
     | zero=>cases eR
     | succ n=>
      cases eR with
      | cons e t=>
       rcases Ad.mp hu with rfl|q
       ·exact e
       ·exact ih n t q
   have nils:∀u∈its,∃b,u = .ref b∧s.heap.IsTuple b #[]:=λu hm=>by
    obtain⟨v,rel,rep⟩:=each u hm;rw[Rep]at rep;obtain⟨b,ws,rfl,t1,t2,t3⟩:=rep;have ew:ws=[]:=by
     cases ws with
     | nil=>rfl
     | cons _ _=>simp[Reps]at t3
    subst ew;obtain⟨jts,rj,p1,_⟩:=I.tuple t1.sq
    cases rj
    exact⟨b,rel,p1⟩
   refine Srt.sorted_any hl.isList (by rw[len];exact h3) (λh2 h₁ c ho keep=>Yu (by show X.A.units+1+1 < cLine;omega) h2 λv hm=>?_) λout hp=>?_
   ·obtain⟨b,e,o,ho2,r⟩:=nils v hm
    exact⟨b,e,(keep b o ho2).1,o,(keep b o ho2).2,r⟩
   ·have eo:PySem.W.EachIs (λu d=>∃v,L2.RelV v u∧Rep X.kw H v d) out (Df l):=by
     rw[Aaf q1,← len,← hp.length_eq];exact V5 λu hu=>each u (hp.mem_iff.mp hu)
    obtain⟨vs',rv',h2'⟩:=Ie eo;obtain⟨ep,he'⟩:=PyProof.Rows.sortedAll_at s.heap its out.toArray;have hln:(Df l).length≤sizeLine:=by unfold Df;rw[Cv];exact h3
    have hf:H (s.heap.objs.size+1)=none:=I.hok.fresh (Mv _);exact⟨.ref _,upd H (s.heap.objs.size+1) (.lst vs'),I.laid (t':=s.toks) (λ_ _=>PyProof.Rows.sortedAll_old) (Mv _) ⟨by rw[h2'.length];exact hln,out,ep,rv',he'⟩,rfl,q3.lst h2' hln hf⟩
 ·obtain⟨⟨rs,hne,rfl⟩,q3⟩:=h
  obtain⟨v,rfl,hv⟩:=hd.one;obtain⟨a,vs,rfl,h1,h2,h3⟩:=hv.tupAt;obtain⟨its,rv,p1,_⟩:=I.tuple h1.sq;rw[Vals.ref1 r];have ok:∀z∈rs.map (λr=>Dat.tup (r.map .int)),okd 60 z:=λz hz=>by
   obtain⟨r,_,rfl⟩:=Ac.mp hz;rw[okd];intro y hy;obtain⟨i,_,rfl⟩:=Ac.mp hy;simp[okd]
  have q1:alikeAll (rs.map λr=>Dat.tup (r.map .int)):=λx hx y hy=>by
   obtain⟨p,_,rfl⟩:=Ac.mp hx;obtain⟨q,_,rfl⟩:=Ac.mp hy;rw[Av];exact We p q
  have q2:∀z∈rs.map (λr=>Dat.tup (r.map .int)),okd 60 z∧Gj z=true:=λz hz=>by
   refine⟨ok z hz,?_⟩;obtain⟨r,hr,rfl⟩:=Ac.mp hz
   cases r with
   | nil=>exact absurd rfl (hne _ hr)
   | cons x r=>rfl
  refine Va p1 (by rw[← rv.length,h2.length];exact h3) hu q1 q2 (h2.each rv) (Xf (Qh I ok (h2.each rv))) λg1 g2 out c k1 k2 at_ eo=>?_
  obtain⟨vs',rv',h2'⟩:=Ie eo;have hln:(Df (rs.map λr=>Dat.tup (r.map .int))).length≤sizeLine:=by unfold Df;rw[Cv];exact h3
  have I1:=I.kept (h':=g1) (t':=s.toks) k1;have hf:H g1.objs.size=none:=I1.hok.fresh (Aa _);exact⟨.ref _,upd H g1.objs.size (.lst vs'),I1.laid (t':=s.toks) k2 (Aa _) ⟨by rw[h2'.length];exact hln,out,c,rv',at_⟩,rfl,q3.lst h2' hln hf⟩
 ·exact h.elim
end
end SF
namespace SF
open PySem PySem.Spec PyProof.Rows L2
variable[TN]
abbrev Km:=Hp→Hp→V→Dat→Prop
def RV(K:KW):Km:=λ_ H' v d=>Rep K H' v d
def RB(K:KW):Km:=λ_ H' v d=>BRep K H' v d
def ROw(K:KW):Km:=λH H' v d=>RO K H H' v d
def PX(X:Cx)(pins:List (Addr×Obj))(σ:L2.St)(n:Nat)(H:Hp)(R:Km)(Φ:Dat→Prop)(u:Value)(s':Shared):Prop:=
 0 < s'.toks∧∃v H' d,L2.Inv X pins σ H' s'∧L2.RelV v u∧Step n H H'∧R H H' v d∧Φ d
def QE(X:Cx)(ex:Expr)(n:Nat)(R:Km)(f:Env→(Dat→Prop)→Prop):Prop:=
 ∀(E:Value→Shared→Prop) (pins:List (Addr×Obj)) (s:Shared) (σ:L2.St) (H:Hp) (δ:Env) (m:Nat) (Φ:Dat→Prop),0 < s.toks→L2.Inv X pins σ H s→EnvRep X.kw σ H δ→PotLe (n+m) H→f δ Φ →
  wpAny (model X.prog X.w) X.A (eval ex X.env) (PX X pins σ n H R Φ) E s
def PXs(X:Cx)(pins:List (Addr×Obj))(σ:L2.St)(n:Nat)(H:Hp)(RL:Hp→List V→List Dat→Prop)(Φ:List Dat→Prop)(us:List Value)(s':Shared):Prop:=
 0 < s'.toks∧∃vs H' ds,L2.Inv X pins σ H' s'∧L2.Vals vs us∧Step n H H'∧RL H' vs ds∧Φ ds
def QA(X:Cx)(es:List Expr)(n:Nat)(RL:Hp→List V→List Dat→Prop)(f:Env→(List Dat→Prop)→Prop):Prop:=
 ∀(pos:Pos) (E:Value→Shared→Prop) (pins:List (Addr×Obj)) (s:Shared) (σ:L2.St) (H:Hp) (δ:Env) (m:Nat) (Φ:List Dat→Prop),0 < s.toks→L2.Inv X pins σ H s→EnvRep X.kw σ H δ→PotLe (n+m) H→f δ Φ →
  wpAny (model X.prog X.w) X.A (spliced (backTo pos (starEach es X.env))) (PXs X pins σ n H RL Φ) E s
def PXb(X:Cx)(pins:List (Addr×Obj))(σ:L2.St)(n:Nat)(H:Hp)(Φ:Bool→Prop)(b:Bool)(s':Shared):Prop:=
 0 < s'.toks∧∃H',L2.Inv X pins σ H' s'∧Step n H H'∧Φ b
def QW(X:Cx)(ex:Expr)(n:Nat)(f:Env→(Bool→Prop)→Prop):Prop:=
 ∀(whole:Sem Value) (E:Value→Shared→Prop) (pins:List (Addr×Obj)) (s:Shared) (σ:L2.St) (H:Hp) (δ:Env) (m:Nat) (Φ:Bool→Prop),0 < s.toks→L2.Inv X pins σ H s→EnvRep X.kw σ H δ→PotLe (n+m) H→f δ Φ →
  wpAny (model X.prog X.w) X.A (isTrue ex X.env whole) (PXb X pins σ n H Φ) E s
def QT(X:Cx)(ex:Expr)(n:Nat)(f:Env→(Bool→Prop)→Prop):Prop:=
 ∀(E:Value→Shared→Prop) (pins:List (Addr×Obj)) (s:Shared) (σ:L2.St) (H:Hp) (δ:Env) (m:Nat) (Φ:Bool→Prop),0 < s.toks→L2.Inv X pins σ H s→EnvRep X.kw σ H δ→PotLe (n+m) H→f δ Φ →
  wpAny (model X.prog X.w) X.A (isTrue ex X.env (eval ex X.env)) (PXb X pins σ n H Φ) E s
theorem QW.t{X:Cx}{ex:Expr}{n:Nat}{f:Env→(Bool→Prop)→Prop}(h:QW X ex n f):QT X ex n f:=h _
section
variable{X:Cx}
theorem Cr{α:Type}{t:Sem α}{E:Value→Shared→Prop}{s:Shared}{Q Q':α→Shared→Prop}{A:Around}(ht:0 < s.toks)(h:wpAny (model X.prog X.w) A t Q E s)(k:∀a s',0 < s'.toks→Q a s'→Q' a s'):wpAny (model X.prog X.w) A t Q' E s:=
 wpAny_mono (wpAny_toks h) (λa s' q=>k a s' (Ax ht q.1) q.2) λ_ _ q=>q.2
theorem X8{pins:List (Addr×Obj)}{σ:L2.St}{H H1:Hp}{E':Value→Shared→Prop}{n n':Nat}{Φ:Dat→Prop}{u:Value}{s':Shared}(ht:0 < s'.toks)(st:Step n H H1)(hn:n≤n')
  (h:EP (X.wish E') pins σ (λv H'=>∃d,Step 0 H1 H'∧RO X.kw H1 H' v d∧Φ d) u s'):PX X pins σ n' H (ROw X.kw) Φ u s':=by
 obtain⟨v,H',I,r,d,st',ro,hΦ⟩:=h;refine⟨ht,v,H',d,I.unwish,r,(st.trans st').mono hn,?_,hΦ⟩
 rcases ro with⟨a,e,hn,ow⟩|q
 ·refine .inl ⟨a,e,?_,ow⟩
  cases q:H a with
  | none=>rfl
  | some o=>rcases st.ext a o q with z|⟨_,z,y⟩|⟨_,z,y⟩<;>simp_all
 ·exact .inr q
theorem Alw{K:KW}{H:Hp}{Φ:Dat→Prop}{d:Dat}(h:Φ d):ResV K H (λv H'=>H'=H∧∃d,Rep K H v d∧Φ d) d:=λv r=>⟨rfl,d,r,h⟩
theorem Vg{K:KW}{H:Hp}{Φ:Dat→Prop}{d:Dat}(h:Φ d):Res K H (λv H'=>∃d,Step 0 H H'∧RO K H H' v d∧Φ d) d:=λ_ _ st ro=>⟨d,st,ro,h⟩
theorem PX.step{pins:List (Addr×Obj)}{σ:L2.St}{n n' k:Nat}{H H1:Hp}{R:Km}{Φ:Dat→Prop}{u:Value}{s':Shared}(st:Step n H H1)(hk:n+n'≤k)(hR:∀H' v d,R H1 H' v d→R H H' v d)(h:PX X pins σ n' H1 R Φ u s'):PX X pins σ k H R Φ u s':=by
 obtain⟨h0,v,H',d,h1,h2,h3,h4,h5⟩:=h;exact⟨h0,v,H',d,h1,h2,(st.trans h3).mono hk,hR _ _ _ h4,h5⟩
theorem QE.le{ex:Expr}{n n':Nat}{R:Km}{f:Env→(Dat→Prop)→Prop}(h:QE X ex n R f)(hn:n≤n'):QE X ex n' R f:=λE pins s σ H δ m Φ ht I er pl hf=>
 thn (h E pins s σ H δ m Φ ht I er (pl.mono (by omega)) hf) λu s' q=>q.step (Step.refl H) (by omega) λ_ _ _ z=>z
theorem QE.b{ex:Expr}{n:Nat}{f:Env→(Dat→Prop)→Prop}(h:QE X ex n (RV X.kw) f):QE X ex n (RB X.kw) f:=λE pins s σ H δ m Φ ht I er pl hf=>
 thn (h E pins s σ H δ m Φ ht I er pl hf) λu s' ⟨h0,v,H',d,h1,h2,h3,h4,h5⟩=>⟨h0,v,H',d,h1,h2,h3,.inl h4,h5⟩
theorem PX.frz{pins:List (Addr×Obj)}{σ:L2.St}{n:Nat}{H:Hp}{Φ:Dat→Prop}{u:Value}{s':Shared}(h:PX X pins σ n H (ROw X.kw) Φ u s'):PX X pins σ n H (RV X.kw) Φ u s':=by
 obtain⟨h0,v,H',d,I,r,st,ro,h5⟩:=h
 rcases ro with⟨a,rfl,hn,ow⟩|q
 ·have kept:∀{w:HO},H' a=some w→Chg w→(∀o:Obj,Rep X.kw (upd H' a (.frz o w)) (.ref a) d)→PX X pins σ n H (RV X.kw) Φ u s':=λ{w} e1 hw hr=>by
   obtain⟨o,I'⟩:=Wg hw I e1;refine⟨h0,.ref a,_,d,I',r,⟨λb ob hb=>?_,λm hm=>?_⟩,hr o,h5⟩
   ·have nb:b≠a:=λz=>by subst z;rw[hn]at hb;cases hb
    rw[upd_ne nb];exact st.ext b ob hb
   ·have p:=st.pot m hm
    refine⟨p.1,λb z hb=>?_,p.3.put (.chg e1 hw)⟩;by_cases nb:b=a
    ·subst nb;rw[upd_same]at hb;exact absurd (Aj.inj hb) (λq=>nomatch q)
    ·rw[upd_ne nb]at hb;exact p.2 b z hb
  cases d with
  | lst l=>
   obtain⟨vs,e1,e2,e3⟩:=ow;refine kept e1 (.inl ⟨_,rfl⟩) λo=>?_
   rw[Rep];exact⟨a,vs,rfl,⟨o,upd_same⟩,e2,Reps.wr (.inl ⟨_,rfl⟩) _ e1 l vs e3⟩
  | dic l=>
   obtain⟨vs,e1,e2,e3⟩:=ow;refine kept e1 (.inr (.inl ⟨_,rfl⟩)) λo=>?_
   rw[Rep];exact⟨a,vs,rfl,⟨o,upd_same⟩,e2,RepKv.wr (.inr (.inl ⟨_,rfl⟩)) _ e1 l vs e3⟩
  | kd l=>
   obtain⟨xs,⟨hm,e1⟩,e2,nd,e3⟩:=ow;refine kept e1 (Chg.kd nd) λo=>?_
   rw[Rep];exact⟨a,xs,rfl,⟨hm,o,upd_same⟩,e2,nd,RepKd.wr (Chg.kd nd) _ e1 l xs e3⟩
  | _=>exact ow.elim
 ·exact⟨h0,v,H',d,I,r,st,q.2,h5⟩
theorem QE.frz{ex:Expr}{n:Nat}{f:Env→(Dat→Prop)→Prop}(h:QE X ex n (ROw X.kw) f):QE X ex n (RV X.kw) f:=λE pins s σ H δ m Φ ht I er pl hf=>
 thn (h E pins s σ H δ m Φ ht I er pl hf) λu s' q=>q.frz
theorem Q3{ex:Expr}{v:V}{d:Dat}(h:∀X',PE X' ex (tC v)∨X'.env≠X.env)(hr:∀H,Rep X.kw H v d):QE X ex 0 (RV X.kw) (λ_ Q=>Q d):=λE pins s σ H δ m Φ ht I er pl hf=>by
 rcases h (X.wish E)with h|h
 ·exact Cr ht (h.run pins s σ H (λw H'=>H'=H∧w=v) (I.wish E) ⟨rfl,rfl⟩) λu s' t ⟨w,H',I',r,e1,e2⟩=>by
   subst e1 e2;exact⟨t,_,H',d,I'.unwish,r,Step.refl _,hr _,hf⟩
 ·exact absurd rfl h
theorem qe_int{i:Int}{j:Nat}{pos:Pos}:QE X (.Constant (.int i) j pos) 0 (RV X.kw) (λ_ Q=>Q (.int i)):=Q3 (λX'=>.inl pe_int) λ_=>De i
theorem qe_bl{i:Bool}{j:Nat}{pos:Pos}:QE X (.Constant (.bool i) j pos) 0 (RV X.kw) (λ_ Q=>Q (.bl i)):=Q3 (λX'=>.inl pe_bl) λ_=>Hm i
theorem qe_non{j:Nat}{pos:Pos}:QE X (.Constant .none j pos) 0 (RV X.kw) (λ_ Q=>Q .non):=Q3 (λX'=>.inl pe_non) λ_=>by rw[Rep]
theorem Apt{x:Str}{j:Nat}{pos:Pos}{l:List Nat}(hx:x.cps.toList=l)(hl:l.length≤sizeLine):QE X (.Constant (.str x) j pos) 0 (RV X.kw) (λ_ Q=>Q (.str l)):=by
 have e:x=⟨l.toArray⟩:=by cases x;subst hx;simp
 subst e;exact Q3 (λX'=>.inl pe_str) λ_=>G8 hl
theorem Apq{i:Nat}{x:Str}{pos:Pos}(hN:X.N[i]? = some x)(hv:Vis X.env.scope x)(hd:(x == ("__debug__" : Str))=false)(hcd:(x == ("__classdict__" : Str))=false):QE X (.Name x pos) 0 (RV X.kw) (λδ Q=>Du δ i Q):=λE pins s σ H δ m Φ ht I er pl hf=>by
 have hf:Du δ i Φ:=hf;unfold Du at hf
 split at hf
 ·rename_i d e
  have sr:=er.2 i _ e
  match q:σ[i]?,sr with
  | some (some v),sr=>
   exact Cr ht ((pe_var (X:=X.wish E) (pos:=pos) hN hv hd hcd).run pins s σ H (λw H'=>H'=H∧w=v) (I.wish E) ⟨v,q,rfl,rfl⟩) λu s' t ⟨w,H',I',r,e1,e2⟩=>by
    subst e1 e2;exact⟨t,_,H',d,I'.unwish,r,Step.refl _,sr,hf⟩
 ·exact hf.elim
theorem Apw{i:Nat}{x:Str}{pos:Pos}(hN:X.N[i]? = some x)(hv:Vis X.env.scope x)(hd:(x == ("__debug__" : Str))=false)(hcd:(x == ("__classdict__" : Str))=false):QE X (.Name x pos) 0 (RB X.kw) (λδ Q=>Dy δ i Q):=λE pins s σ H δ m Φ ht I er pl hf=>by
 have hf:Dy δ i Φ:=hf;unfold Dy at hf
 split at hf
 ·rename_i d e
  have no:=Y5 e;have e:=Ja e;have sr:=er.2 i _ e
  match q:σ[i]?,sr with
  | some (some v),⟨a,ea,ow⟩=>
   exact Cr ht ((pe_var (X:=X.wish E) (pos:=pos) hN hv hd hcd).run pins s σ H (λw H'=>H'=H∧w=v) (I.wish E) ⟨v,q,rfl,rfl⟩) λu s' t ⟨w,H',I',r,e1,e2⟩=>by
    subst e1 e2;exact⟨t,_,H',d,I'.unwish,r,Step.refl _,.inr ⟨a,ea,ow.plain no⟩,hf⟩
 ·exact hf.elim
theorem Amc{x:Str}{v:V}{d:Dat}{u:Value}{pos:Pos}(hg:Gl X x)(hm:X.mg x=some u)(r:L2.RelV v u)(hr:∀H,Rep X.kw H v d)(hd:(x == ("__debug__" : Str))=false):QE X (.Name x pos) 0 (RV X.kw) (λ_ Q=>Q d):=λE pins s σ H δ m Φ ht I er pl hf=>
 Cr ht (ld_glob (E:=E) (Q:=λu' s'=>u'=u∧L2.Inv X pins σ H s') I hg hm ⟨rfl,I⟩ hd) λu' s' t ⟨e,I'⟩=>by
  subst e;exact⟨t,v,H,d,I',r,Step.refl _,hr _,hf⟩
variable{a b c:Expr}{n n' n'':Nat}{fa fb fc:Env→(Dat→Prop)→Prop}{pos:Pos}
theorem two{α:Type}(ha:QE X a n (RB X.kw) fa)(hb:QE X b n' (RB X.kw) fb){E:Value→Shared→Prop}{pins:List (Addr×Obj)}{s:Shared}{σ:L2.St}{H:Hp}{δ:Env}{m:Nat}{Ψ:Dat→Dat→Prop}(ht:0 < s.toks)(I:L2.Inv X pins σ H s)(er:EnvRep X.kw σ H δ)(pl:PotLe (n+n'+m) H)
  (hf:fa δ λx=>fb δ λy=>Ψ x y) {Q:α→Shared→Prop} {f:Value→Value→Sem α}
  (k:∀v u s2 x y H2 dx dy,0 < s2.toks→L2.Inv X pins σ H2 s2→L2.RelV x v→L2.RelV y u→BRep X.kw H2 x dx→BRep X.kw H2 y dy→Step (n+n') H H2→Ψ dx dy→wpAny (model X.prog X.w) X.A (f v u) Q E s2) :
  wpAny (model X.prog X.w) X.A (eval a X.env) (λv s₁=>wpAny (model X.prog X.w) X.A (eval b X.env) (λu s₂=>wpAny (model X.prog X.w) X.A (f v u) Q E s₂) E s₁) E s:=by
 refine thn (ha E pins s σ H δ (n'+m) _ ht I er (pl.mono (by omega)) hf) λv s1 ⟨t1,x,H1,dx,I1,r1,st1,b1,q1⟩=>?_
 refine thn (hb E pins s1 σ H1 δ m _ t1 I1 (er.ext st1.ext) (st1.pot _ (pl.mono (by omega))) q1) λu s2 ⟨t2,y,H2,dy,I2,r2,st2,b2,q2⟩=>?_
 exact k v u s2 x y H2 dx dy t2 I2 r1 r2 (b1.ext st2.ext) b2 (st1.trans st2) q2
theorem Apv(o:O2)(ha:QE X a n (RB X.kw) fa)(hb:QE X b n' (RB X.kw) fb):QE X (.BinOp a (Aqr o) b pos) (n+n') (ROw X.kw) (λδ Q=>fa δ λx=>fb δ λy=>Jm o x y Q):=λE pins s σ H δ m Φ ht I er pl hf=>by
 refine wpAny_BinOp (two ha hb ht I er pl hf λv u s2 x y H2 dx dy t2 I2 r1 r2 b1 b2 st q=>?_);exact Cr t2 (Asr (X:=X.wish E) o pins s2 σ H2 x y v u _ (I2.wish E) r1 r2 ⟨dx,dy,b1,b2,Xm o dx dy _ _ (λd h=>Vg h) q⟩) λw s' t h=>X8 t st (Aa _) h
theorem Ap7(hu:X.A.units+200 < cLine)(o:C2)(ha:QE X a n (RB X.kw) fa)(hb:QE X b n' (RB X.kw) fb)(hm:behindInMarks (Ju o) b=false):QE X (.Compare a [Ju o] [b] pos) (n+n') (RV X.kw) (λδ Q=>fa δ λx=>fb δ λy=>Ij o x y λk=>Q (.bl k)):=λE pins s σ H δ m Φ ht I er pl hf=>by
 refine wpAny_Compare1 (two ha hb ht I er pl hf λv u s2 x y H2 dx dy t2 I2 r1 r2 b1 b2 st q=>?_) hm;exact Cr t2 (Xl (X:=X.wish E) hu o pins s2 σ H2 x y v u (λw H'=>H'=H2∧∃k,w = .bl k∧Φ (.bl k)) (I2.wish E) r1 r2 ⟨dx,dy,b1,b2,Gq o dx dy _ _ (λk h=>⟨rfl,k,rfl,h⟩) q⟩) λw s' t ⟨z,H',I',r',e1,k,e2,h⟩=>by
  subst e1 e2;exact⟨t,_,_,_,I'.unwish,r',st,Hm k,h⟩
theorem Apj(hu:X.A.units+200 < cLine)(o:C2)(ha:QE X a n (RB X.kw) fa)(hb:QE X b n' (RB X.kw) fb)(hm:behindInMarks (Ju o) b=false):QW X (.Compare a [Ju o] [b] pos) (n+n') (λδ Q=>fa δ λx=>fb δ λy=>Ij o x y Q):=λwhole E pins s σ H δ m Φ ht I er pl hf=>by
 refine wpAny_isTrue_Compare1 (two ha hb ht I er pl hf λv u s2 x y H2 dx dy t2 I2 r1 r2 b1 b2 st q=>?_) hm;refine Cr t2 (Xl (X:=X.wish E) hu o pins s2 σ H2 x y v u (λw H'=>H'=H2∧∃k,w = .bl k∧Φ k) (I2.wish E) r1 r2 ⟨dx,dy,b1,b2,Gq o dx dy _ _ (λk h=>⟨rfl,k,rfl,h⟩) q⟩) λw s' t ⟨z,H',I',r',e1,k,e2,h⟩=>?_
 subst e1 e2
 cases r'
 exact wpAny_truthy_bool ⟨t,_,I'.unwish,st,h⟩
end
end SF
namespace SF
open PySem PySem.Spec PyProof.Rows L2
variable[TN]
section
variable{X:Cx}{a b c:Expr}{n n' n'':Nat}{fa fb fc:Env→(Dat→Prop)→Prop}{pos:Pos}
theorem Jw{K:KW}{H:Hp}{v:V}{d:Dat}(h:Rep K H v d):decide (v = .non)=Pn d:=by
 cases d<;>rw[Rep]at h
 ·subst h;rfl
 ·subst h;rfl
 ·subst h;rfl
 ·obtain⟨rfl,_⟩:=h;rfl
 ·obtain⟨_,_,rfl,_⟩:=h;rfl
 ·obtain⟨_,_,rfl,_⟩:=h;rfl
 ·obtain⟨_,_,rfl,_⟩:=h;rfl
 ·rcases h with⟨_,rfl⟩|⟨_,_,_,_,rfl,_⟩|⟨_,_,_,_,_,rfl,_⟩<;>rfl
 ·obtain⟨_,_,rfl,_⟩:=h;rfl
 ·obtain⟨_,rfl,_⟩:=h;rfl
 ·obtain⟨_,_,rfl,_⟩:=h;rfl
theorem Ap3{j:Nat}{p':Pos}(ha:QE X a n (RV X.kw) fa):QE X (.Compare a [.Is] [.Constant .none j p'] pos) n (RV X.kw) (λδ Q=>fa δ λx=>Q (.bl (Pn x))):=λE pins s σ H δ m Φ ht I er pl hf=>by
 refine wpAny_Compare1 (thn (ha E pins s σ H δ m _ ht I er pl hf) λv s1 ⟨t1,x,H1,dx,I1,r1,st1,b1,q1⟩=>?_) (nobehind _ (by decide) (by decide));refine Constant_none (is_none_gen ⟨t1,.bl _,H1,_,I1,?_,st1,Hm _,q1⟩);rw[r1.none_iff,Jw b1];rfl
theorem Al8{j:Nat}{p':Pos}(ha:QE X a n (RV X.kw) fa):QE X (.Compare a [.IsNot] [.Constant .none j p'] pos) n (RV X.kw) (λδ Q=>fa δ λx=>Q (.bl (!Pn x))):=λE pins s σ H δ m Φ ht I er pl hf=>by
 refine wpAny_Compare1 (thn (ha E pins s σ H δ m _ ht I er pl hf) λv s1 ⟨t1,x,H1,dx,I1,r1,st1,b1,q1⟩=>?_) (nobehind _ (by decide) (by decide));refine Constant_none (isnot_none_gen ⟨t1,.bl _,H1,_,I1,?_,st1,Hm _,q1⟩);rw[r1.none_iff,Jw b1];rfl
theorem Aeq{a b:Bool}{E:Value→Shared→Prop}{s:Shared}{Q:Value→Shared→Prop}{M:Model}{A:Around}(h:Q (.bool (a == b)) s):wpAny M A (compareOp .Is (.bool a) (.bool b)) Q E s:=by
 by_cases e:a=b
 ·subst e
  exact wpAny_is_self rfl (by simpa using h)
 ·exact wpAny_is_other rfl (λz=>e (Value.bool.inj z)) (by rw[beq_eq_false_iff_ne.mpr e]at h;exact h)
theorem Vy{a b:Bool}{E:Value→Shared→Prop}{s:Shared}{Q:Value→Shared→Prop}{M:Model}{A:Around}(h:Q (.bool (!(a == b))) s):wpAny M A (compareOp .IsNot (.bool a) (.bool b)) Q E s:=by
 by_cases e:a=b
 ·subst e
  exact wpAny_isNot_self rfl (by simpa using h)
 ·exact wpAny_isNot_other rfl (λz=>e (Value.bool.inj z)) (by rw[beq_eq_false_iff_ne.mpr e]at h;exact h)
theorem Amb{j:Nat}{p':Pos}{k:Bool}(ha:QE X a n (RV X.kw) fa):QE X (.Compare a [.Is] [.Constant (.bool k) j p'] pos) n (RV X.kw) (λδ Q=>fa δ λx=>Bs x λb=>Q (.bl (b == k))):=λE pins s σ H δ m Φ ht I er pl hf=>by
 refine wpAny_Compare1 (thn (ha E pins s σ H δ m _ ht I er pl hf) λv s1 ⟨t1,x,H1,dx,I1,r1,st1,b1,q1⟩=>?_) (nobehind _ (by decide) (by decide));dsimp only at q1;unfold Bs at q1
 split at q1
 ·rename_i b
  have b1:Rep _ _ _ _:=b1;rw[Rep]at b1;subst b1;obtain rfl:v=Value.bool b:=r1;refine Constant_bool (Aeq ⟨t1,.bl _,H1,_,I1,rfl,st1,Hm _,q1⟩)
 ·exact q1.elim
theorem Ama{j:Nat}{p':Pos}{k:Bool}(ha:QE X a n (RV X.kw) fa):QE X (.Compare a [.IsNot] [.Constant (.bool k) j p'] pos) n (RV X.kw) (λδ Q=>fa δ λx=>Bs x λb=>Q (.bl (!(b == k)))):=λE pins s σ H δ m Φ ht I er pl hf=>by
 refine wpAny_Compare1 (thn (ha E pins s σ H δ m _ ht I er pl hf) λv s1 ⟨t1,x,H1,dx,I1,r1,st1,b1,q1⟩=>?_) (nobehind _ (by decide) (by decide));dsimp only at q1;unfold Bs at q1
 split at q1
 ·rename_i b
  have b1:Rep _ _ _ _:=b1;rw[Rep]at b1;subst b1;obtain rfl:v=Value.bool b:=r1;refine Constant_bool (Vy ⟨t1,.bl _,H1,_,I1,rfl,st1,Hm _,q1⟩)
 ·exact q1.elim
theorem Us{pins:List (Addr×Obj)}{σ:L2.St}{H:Hp}{Ψ:Bool→Prop}{u:Value}{s':Shared}(h:PX X pins σ n H (RV X.kw) (λd=>Bs d Ψ) u s'):∃k,u = .bool k∧0 < s'.toks∧∃H',L2.Inv X pins σ H' s'∧Step n H H'∧Ψ k:=by
 obtain⟨t,v,H',d,I,r,st,q,h⟩:=h;unfold Bs at h
 split at h
 ·rename_i k
  have q:Rep _ _ _ _:=q;rw[Rep]at q;subst q
  cases r
  exact⟨k,rfl,t,H',I,st,h⟩
 ·exact h.elim
theorem Acv(h:QE X a n (RV X.kw) fa)(he:∀whole,isTrue a X.env whole=(do let v ← whole;standAt a.pos;holding [v] (truthy v))):QT X a n (λδ Q=>fa δ λx=>Bs x Q):=λE pins s σ H δ m Φ ht I er pl hf=>by
 refine isTrue_plain (thn (h E pins s σ H δ m _ ht I er pl hf) λv s1 q=>?_) (he _);obtain⟨k,rfl,t,H',I',st,q⟩:=Us q;exact wpAny_truthy_bool ⟨t,H',I',st,q⟩
theorem Al2{j:Nat}{p':Pos}{k:Bool}(ha:QE X a n (RV X.kw) fa):QT X (.Compare a [.Is] [.Constant (.bool k) j p'] pos) n (λδ Q=>fa δ λx=>Bs x λb=>Q ((b == k))):=λE pins s σ H δ m Φ ht I er pl hf=>by
 refine wpAny_isTrue_Compare1 (thn (ha E pins s σ H δ m _ ht I er pl hf) λv s1 ⟨t1,x,H1,dx,I1,r1,st1,b1,q1⟩=>?_) (nobehind _ (by decide) (by decide));dsimp only at q1;unfold Bs at q1
 split at q1
 ·rename_i b
  have b1:Rep _ _ _ _:=b1;rw[Rep]at b1;subst b1;obtain rfl:v=Value.bool b:=r1;refine Constant_bool (Aeq (wpAny_truthy_bool ⟨t1,H1,I1,st1,q1⟩))
 ·exact q1.elim
theorem Al1{j:Nat}{p':Pos}{k:Bool}(ha:QE X a n (RV X.kw) fa):QT X (.Compare a [.IsNot] [.Constant (.bool k) j p'] pos) n (λδ Q=>fa δ λx=>Bs x λb=>Q (!(b == k))):=λE pins s σ H δ m Φ ht I er pl hf=>by
 refine wpAny_isTrue_Compare1 (thn (ha E pins s σ H δ m _ ht I er pl hf) λv s1 ⟨t1,x,H1,dx,I1,r1,st1,b1,q1⟩=>?_) (nobehind _ (by decide) (by decide));dsimp only at q1;unfold Bs at q1
 split at q1
 ·rename_i b
  have b1:Rep _ _ _ _:=b1;rw[Rep]at b1;subst b1;obtain rfl:v=Value.bool b:=r1;refine Constant_bool (Vy (wpAny_truthy_bool ⟨t1,H1,I1,st1,q1⟩))
 ·exact q1.elim
theorem Apn{j:Nat}{p':Pos}(ha:QE X a n (RV X.kw) fa):QT X (.Compare a [.Is] [.Constant .none j p'] pos) n (λδ Q=>fa δ λx=>Q (Pn x)):=λE pins s σ H δ m Φ ht I er pl hf=>by
 refine wpAny_isTrue_Compare1 (thn (ha E pins s σ H δ m _ ht I er pl hf) λv s1 ⟨t1,x,H1,dx,I1,r1,st1,b1,q1⟩=>?_) (nobehind _ (by decide) (by decide));refine Constant_none (is_none_gen (wpAny_truthy_bool ⟨t1,H1,I1,st1,?_⟩));rw[r1.none_iff,Jw b1];exact q1
theorem Al0{j:Nat}{p':Pos}(ha:QE X a n (RV X.kw) fa):QT X (.Compare a [.IsNot] [.Constant .none j p'] pos) n (λδ Q=>fa δ λx=>Q (!Pn x)):=λE pins s σ H δ m Φ ht I er pl hf=>by
 refine wpAny_isTrue_Compare1 (thn (ha E pins s σ H δ m _ ht I er pl hf) λv s1 ⟨t1,x,H1,dx,I1,r1,st1,b1,q1⟩=>?_) (nobehind _ (by decide) (by decide));refine Constant_none (isnot_none_gen (wpAny_truthy_bool ⟨t1,H1,I1,st1,?_⟩));rw[r1.none_iff,Jw b1];exact q1
variable{rest:List Expr}{ga gb:Env→(Bool→Prop)→Prop}
theorem Ap8(ha:QE X a n (RV X.kw) fa)(hb:QE X (.BoolOp .And (b::rest) pos) n' (RV X.kw) fb):QE X (.BoolOp .And (a::b::rest) pos) (n+n') (RV X.kw) (λδ Q=>fa δ λx=>Bs x λk=>if k=true then fb δ Q else Q (.bl false)):=λE pins s σ H δ m Φ ht I er pl hf=>by
 refine BoolOp_and (thn (ha E pins s σ H δ (n'+m) _ ht I er (pl.mono (by omega)) hf) λv s1 q=>?_);obtain⟨k,rfl,t,H',I',st,q⟩:=Us q;refine wpAny_truthy_bool ?_
 cases k with
 | true=>exact thn (hb E pins s1 σ H' δ m Φ t I' (er.ext st.ext) (st.pot _ (pl.mono (by omega))) q) λu s2 z=>z.step st (Aa _) λ_ _ _ w=>w
 | false=>exact⟨t,.bl false,H',_,I',rfl,st.mono (by omega),Hm false,q⟩
theorem Asm(ha:QE X a n (RV X.kw) fa)(hb:QE X (.BoolOp .Or (b::rest) pos) n' (RV X.kw) fb):QE X (.BoolOp .Or (a::b::rest) pos) (n+n') (RV X.kw) (λδ Q=>fa δ λx=>Bs x λk=>if k=true then Q (.bl true)else fb δ Q):=λE pins s σ H δ m Φ ht I er pl hf=>by
 refine BoolOp_or (thn (ha E pins s σ H δ (n'+m) _ ht I er (pl.mono (by omega)) hf) λv s1 q=>?_);obtain⟨k,rfl,t,H',I',st,q⟩:=Us q;refine wpAny_truthy_bool ?_
 cases k with
 | false=>exact thn (hb E pins s1 σ H' δ m Φ t I' (er.ext st.ext) (st.pot _ (pl.mono (by omega))) q) λu s2 z=>z.step st (Aa _) λ_ _ _ w=>w
 | true=>exact⟨t,.bl true,H',_,I',rfl,st.mono (by omega),Hm true,q⟩
theorem Aiu{op:BoolOp}(ha:QE X a n (RV X.kw) fa):QE X (.BoolOp op [a] pos) n (RV X.kw) fa:=λE pins s σ H δ m Φ ht I er pl hf=>BoolOp_one (ha E pins s σ H δ m Φ ht I er pl hf)
theorem PXb.step{pins:List (Addr×Obj)}{σ:L2.St}{k:Nat}{H H1:Hp}{Φ:Bool→Prop}{u:Bool}{s':Shared}(st:Step n H H1)(hk:n+n'≤k)(h:PXb X pins σ n' H1 Φ u s'):PXb X pins σ k H Φ u s':=by
 obtain⟨h0,H',h1,h3,h5⟩:=h;exact⟨h0,H',h1,(st.trans h3).mono hk,h5⟩
theorem Apk(ha:QT X a n ga)(hb:QW X (.BoolOp .And (b::rest) pos) n' gb):QW X (.BoolOp .And (a::b::rest) pos) (n+n') (λδ Q=>ga δ λk=>if k=true then gb δ Q else Q false):=λwhole E pins s σ H δ m Φ ht I er pl hf=>by
 refine isTrue_and (thn (ha E pins s σ H δ (n'+m) _ ht I er (pl.mono (by omega)) hf) λk s1 ⟨t,H',I',st,q⟩=>?_)
 cases k with
 | true=>exact thn (hb whole E pins s1 σ H' δ m Φ t I' (er.ext st.ext) (st.pot _ (pl.mono (by omega))) q) λu s2 z=>z.step st (Aa _)
 | false=>exact⟨t,H',I',st.mono (by omega),q⟩
theorem Asi(ha:QT X a n ga)(hb:QW X (.BoolOp .Or (b::rest) pos) n' gb):QW X (.BoolOp .Or (a::b::rest) pos) (n+n') (λδ Q=>ga δ λk=>if k=true then Q true else gb δ Q):=λwhole E pins s σ H δ m Φ ht I er pl hf=>by
 refine isTrue_or (thn (ha E pins s σ H δ (n'+m) _ ht I er (pl.mono (by omega)) hf) λk s1 ⟨t,H',I',st,q⟩=>?_)
 cases k with
 | false=>exact thn (hb whole E pins s1 σ H' δ m Φ t I' (er.ext st.ext) (st.pot _ (pl.mono (by omega))) q) λu s2 z=>z.step st (Aa _)
 | true=>exact⟨t,H',I',st.mono (by omega),q⟩
theorem Alz(ha:QT X a n ga):QW X (.BoolOp .And [a] pos) n ga:=λwhole E pins s σ H δ m Φ ht I er pl hf=>by
 refine isTrue_and (thn (ha E pins s σ H δ m _ ht I er pl hf) λk s1 q=>?_)
 cases k with
 | true=>exact isTrue_and_nil q
 | false=>exact q
theorem Api(ha:QT X a n ga):QW X (.BoolOp .Or [a] pos) n ga:=λwhole E pins s σ H δ m Φ ht I er pl hf=>by
 refine isTrue_or (thn (ha E pins s σ H δ m _ ht I er pl hf) λk s1 q=>?_)
 cases k with
 | false=>exact isTrue_or_nil q
 | true=>exact q
theorem Apl(ha:QT X a n ga):QW X (.UnaryOp .Not a pos) n (λδ Q=>ga δ λk=>Q (!k)):=λwhole E pins s σ H δ m Φ ht I er pl hf=>by
 exact isTrue_not (thn (ha E pins s σ H δ m _ ht I er pl hf) λk s1 ⟨t,H',I',st,q⟩=>⟨t,H',I',st,q⟩)
theorem Apx(ha:QE X a n (RV X.kw) fa):QE X (.UnaryOp .Not a pos) n (RV X.kw) (λδ Q=>fa δ λx=>Bs x λk=>Q (.bl (!k))):=λE pins s σ H δ m Φ ht I er pl hf=>by
 refine UnaryOp_ (thn (ha E pins s σ H δ m _ ht I er pl hf) λv s1 q=>?_);obtain⟨k,rfl,t,H',I',st,q⟩:=Us q;exact not_of (wpAny_truthy_bool ⟨t,.bl (!k),H',_,I',rfl,st,Hm _,q⟩)
theorem Apz(ha:QE X a n (RV X.kw) fa):QE X (.UnaryOp .USub a pos) n (RV X.kw) (λδ Q=>fa δ λx=>Y9 x Q):=λE pins s σ H δ m Φ ht I er pl hf=>by
 refine UnaryOp_ (thn (ha E pins s σ H δ m _ ht I er pl hf) λv s1 ⟨t1,x,H1,dx,I1,r1,st1,b1,q1⟩=>?_)
 replace q1:Y9 dx Φ:=q1
 unfold Y9 at q1
 split at q1
 ·rename_i i
  have b1:Rep _ _ _ _:=b1;rw[Rep]at b1;subst b1;exact Cr t1 (un_neg (X:=X.wish E) pins s1 σ H1 _ v (λw H'=>H'=H1∧w = .int (-i)) (I1.wish E) r1 ⟨i,rfl,rfl,rfl⟩) λw s' t ⟨z,H',I',r',e1,e2⟩=>by
   subst e1 e2;exact⟨t,_,_,_,I'.unwish,r',st1,De _,q1⟩
 ·exact q1.elim
theorem Aiv{R:Km}(hR:∀H H1 H' v d,Ext H H1→R H1 H' v d→R H H' v d)(hc:QT X c n gb)(ha:QE X a n' R fa)(hb:QE X b n'' R fb):QE X (.IfExp c a b pos) (n+(n'+n'')) R (λδ Q=>gb δ λk=>if k=true then fa δ Q else fb δ Q):=λE pins s σ H δ m Φ ht I er pl hf=>by
 refine wpAny_IfExp (thn (hc E pins s σ H δ (n'+n''+m) _ ht I er (pl.mono (by omega)) hf) λk s1 ⟨t,H',I',st,q⟩=>?_)
 cases k with
 | true=>exact thn (ha E pins s1 σ H' δ m Φ t I' (er.ext st.ext) (st.pot _ (pl.mono (by omega))) q) λu s2 z=>z.step st (by omega) λ_ _ _ w=>hR _ _ _ _ _ st.ext w
 | false=>exact thn (hb E pins s1 σ H' δ m Φ t I' (er.ext st.ext) (st.pot _ (pl.mono (by omega))) q) λu s2 z=>z.step st (by omega) λ_ _ _ w=>hR _ _ _ _ _ st.ext w
theorem Aix(hu:X.A.units+200 < cLine)(o o':C2)(ha:QE X a n (RB X.kw) fa)(hb:QE X b n' (RB X.kw) fb)(hc:QE X c n'' (RB X.kw) fc)(hm:lastMarks [Ju o,Ju o'] [b,c]=false) :
  QE X (.Compare a [Ju o,Ju o'] [b,c] pos) (n+n'+n'') (RV X.kw) (λδ Q=>fa δ λx=>fb δ λy=>Ij o x y λk=>if k=true then fc δ λz=>Ij o' y z λk'=>Q (.bl k')else Q (.bl false)):=λE pins s σ H δ m Φ ht I er pl hf=>by
 refine Compare_chain (thn (ha E pins s σ H δ (n'+n''+m) _ ht I er (pl.mono (by omega)) hf) λv s1 ⟨t1,x,H1,dx,I1,r1,st1,b1,q1⟩=>chain_link (thn (hb E pins s1 σ H1 δ (n''+m) _ t1 I1 (er.ext st1.ext) (st1.pot _ (pl.mono (by omega))) q1) λu s2 ⟨t2,y,H2,dy,I2,r2,st2,b2,q2⟩=>?_)) hm;refine Cr t2 (Xl (X:=X.wish E) hu o pins s2 σ H2 x y v u (λw H'=>H'=H2∧∃k,w = .bl k∧(if k=true then fc δ λz=>Ij o' dy z λk'=>Φ (.bl k')else Φ (.bl false))) (I2.wish E) r1 r2 ⟨dx,dy,b1.ext st2.ext,b2,Gq o dx dy _ _ (λk h=>⟨rfl,k,rfl,h⟩) q2⟩) λw s3 t3 ⟨z,H3,I3,r3,e1,k,e2,q3⟩=>?_
 subst e1 e2
 cases r3
 refine wpAny_truthy_bool ?_;have st:=st1.trans st2
 cases k with
 | false=>exact ite_ff ⟨t3,.bl false,_,_,I3.unwish,rfl,st.mono (by omega),Hm false,q3⟩
 | true=>
  refine ite_tt (chain_last (thn (hc E pins s3 σ H3 δ m _ t3 I3.unwish (er.ext st.ext) (st.pot _ (pl.mono (by omega))) q3) λw' s4 ⟨t4,z',H4,dz,I4,r4,st4,b4,q4⟩=>?_));exact Cr t4 (Xl (X:=X.wish E) hu o' pins s4 σ H4 y z' u w' (λw H'=>H'=H4∧∃k,w = .bl k∧Φ (.bl k)) (I4.wish E) r2 r4 ⟨dy,dz,b2.ext st4.ext,b4,Gq o' dy dz _ _ (λk h=>⟨rfl,k,rfl,h⟩) q4⟩) λw s' t ⟨z,H',I',r',e1,k,e2,h⟩=>by
   subst e1 e2;exact⟨t,_,_,_,I'.unwish,r',(st.trans st4).mono (by omega),Hm k,h⟩
variable{es:List Expr}{e:Expr}{fs:Env→(List Dat→Prop)→Prop}{RL:Hp→List V→List Dat→Prop}
theorem Aiy(h0:∀H,RL H [] []):QA X [] 0 RL (λ_ Q=>Q []):=λpos E pins s σ H δ m Φ ht I er pl hf=>Calls.spliced_nil ⟨ht,[],H,[],I,.nil,Step.refl H,h0 H,hf⟩
theorem Ad8{R:Km}(hc:∀H H' H'' v d vs ds,Ext H' H''→R H H' v d→RL H'' vs ds→RL H'' (v::vs) (d::ds))(ha:QE X e n R fa)(hr:QA X es n' RL fs)(hs:starEach (e::es) X.env=(false,eval e X.env)::starEach es X.env) :
  QA X (e::es) (n+n') RL (λδ Q=>fa δ λd=>fs δ λds=>Q (d::ds)):=λpos E pins s σ H δ m Φ ht I er pl hf=>by
 rw[hs];show wpAny _ _ (spliced ((false,eval e X.env)::backTo pos (starEach es X.env))) _ _ s
 refine Calls.spliced_cons (thn (ha E pins s σ H δ (n'+m) _ ht I er (pl.mono (by omega)) hf) λu s1 ⟨t1,x,H1,dx,I1,r1,st1,b1,q1⟩=>?_);exact thn (hr pos E pins s1 σ H1 δ m _ t1 I1 (er.ext st1.ext) (st1.pot _ (pl.mono (by omega))) q1) λus s2 ⟨t2,vs,H2,ds,I2,r2,st2,b2,q2⟩=>⟨t2,x::vs,H2,dx::ds,I2,.cons r1 r2,st1.trans st2,hc _ _ _ _ _ _ _ st2.ext b1 b2,q2⟩
abbrev RLv(K:KW):Hp→List V→List Dat→Prop:=λH vs ds=>Reps K H vs ds
abbrev RLb(K:KW):Hp→List V→List Dat→Prop:=λH vs ds=>BReps K H vs ds
theorem Akg{K:KW}:∀(H H' H'':Hp) (v:V) (d:Dat) (vs:List V) (ds:List Dat),Ext H' H''→RV K H H' v d→RLv K H'' vs ds→RLv K H'' (v::vs) (d::ds):=λ_ _ _ v d vs ds e h t=>by
 show Reps _ _ _ _
 rw[Reps];exact⟨Rep.ext e d v h,t⟩
theorem Aop{K:KW}:∀(H H' H'':Hp) (v:V) (d:Dat) (vs:List V) (ds:List Dat),Ext H' H''→RB K H H' v d→RLb K H'' vs ds→RLb K H'' (v::vs) (d::ds):=λ_ _ _ v d vs ds e h t=>⟨BRep.ext e h,t⟩
theorem Aa2{K:KW}:∀H:Hp,RLv K H [] []:=λH=>by show Reps _ _ _ _;rw[Reps];trivial
theorem Atg{K:KW}:∀H:Hp,RLb K H [] []:=λH=>trivial
theorem Aps{k:Nat}(hn:∀ δ Q,fs δ Q→fs δ λds=>ds.length≤sizeLine∧Q ds)(h:QA X es n (RLv X.kw) fs):QE X (.Tuple es k pos) n (RV X.kw) (λδ Q=>fs δ λds=>Q (.tup ds)):=λE pins s σ H δ m Φ ht I er pl hf=>by
 refine wpAny_Tuple_spliced (thn (h pos E pins s σ H δ m (λds=>ds.length≤sizeLine∧Φ (.tup ds)) ht I er pl (hn _ _ hf)) λus s1 ⟨t1,vs,H1,ds,I1,r1,st1,b1,z,q1⟩=>⟨by rw[← r1.length,b1.length];exact z,?_⟩);have st:Step 0 H1 (upd H1 s1.heap.objs.size (.frz { cls:=.type "tuple", data:=.seq us.toArray } (.tup vs))):=Step.upd (I1.hok.fresh (Aa _)) λz e=>nomatch e
 refine⟨t1,.ref s1.heap.objs.size,_,.tup ds,Kf (t':=s1.toks) I1 r1 (by rw[b1.length];exact z),rfl,(st1.trans st).mono (by omega),?_,q1⟩;show Rep _ _ _ _
 rw[Rep];exact⟨_,vs,rfl,.inl ⟨_,upd_same,rfl⟩,z,Reps.ext st.ext ds vs b1⟩
theorem Ap0(hn:∀ δ Q,fs δ Q→fs δ λds=>ds.length≤sizeLine∧Q ds)(h:QA X es n (RLv X.kw) fs):QE X (.List es pos) n (ROw X.kw) (λδ Q=>fs δ λds=>Q (.lst ds)):=λE pins s σ H δ m Φ ht I er pl hf=>by
 refine wpAny_List_spliced (thn (h pos E pins s σ H δ m (λds=>ds.length≤sizeLine∧Φ (.lst ds)) ht I er pl (hn _ _ hf)) λus s1 ⟨t1,vs,H1,ds,I1,r1,st1,b1,z,q1⟩=>⟨by rw[← r1.length,b1.length];exact z,?_⟩);have hf:H1 s1.heap.objs.size=none:=I1.hok.fresh (Aa _);have st:Step 0 H1 (upd H1 s1.heap.objs.size (.lst vs)):=Step.upd hf λz e=>nomatch e
 refine⟨t1,.ref s1.heap.objs.size,_,.lst ds,I1.lnew (t':=s1.toks) r1 (by rw[b1.length];exact z),rfl,(st1.trans st).mono (by omega),.inl ⟨_,rfl,?_,vs,upd_same,z,Reps.ext st.ext ds vs b1⟩,q1⟩
 cases q:H s1.heap.objs.size with
 | none=>rfl
 | some o=>rcases st1.ext _ o q with y|⟨_,w,y⟩|⟨_,w,y⟩<;>(rw[hf]at y;cases y)
end
end SF
namespace SF
open PySem PySem.Spec PyProof.Rows L2
variable[TN]
section
variable{X:Cx}{a b c:Expr}{n n' n'':Nat}{fa fb fc:Env→(Dat→Prop)→Prop}{pos:Pos}
theorem Ap4(hu:X.A.units+20 < cLine)(hs:PlainIx b)(ha:QE X a n (RB X.kw) fa)(hb:QE X b n' (RB X.kw) fb):QE X (.Subscript a b pos) (n+n') (RV X.kw) (λδ Q=>fa δ λx=>fb δ λy=>Jx x y Q):=λE pins s σ H δ m Φ ht I er pl hf=>by
 refine Subscript_ (two ha hb ht I er pl hf λv u s2 x y H2 dx dy t2 I2 r1 r2 b1 b2 st q=>?_);exact Cr t2 (Ath (X:=X.wish E) (by show X.A.units+20 < cLine;exact hu) a b pins s2 σ H2 x y v u (λw H'=>H'=H2∧∃d,Rep X.kw H2 w d∧Φ d) (I2.wish E) r1 r2 ⟨dx,dy,b1,b2,Xz dx dy _ _ (λd h=>Alw h) q⟩ (hs _ _)) λw s' t ⟨z,H',I',r',e1,d,r,h⟩=>by
  subst e1;exact⟨t,_,_,_,I'.unwish,r',st,r,h⟩
def Arz(u:Value)(d:Dat):Prop:=∀o,Ai9 d=some o→IsPart u o
def QP(X:Cx)(e:Option Expr)(n:Nat)(f:Env→(Dat→Prop)→Prop):Prop:=
 ∀(E:Value→Shared→Prop) (pins:List (Addr×Obj)) (s:Shared) (σ:L2.St) (H:Hp) (δ:Env) (m:Nat) (Φ:Dat→Prop),0 < s.toks→L2.Inv X pins σ H s→EnvRep X.kw σ H δ→PotLe (n+m) H→f δ Φ →
  wpAny (model X.prog X.w) X.A (evalPart e X.env) (λu s'=>0 < s'.toks∧∃H' d,L2.Inv X pins σ H' s'∧Step n H H'∧Arz u d∧Φ d) E s
theorem Al4:QP X none 0 (λ_ Q=>Q .non):=λE pins s σ H δ m Φ ht I er pl hf=>by
 rw[evalPart_none];refine wpAny_pure ⟨ht,H,.non,I,Step.refl H,λo e=>?_,hf⟩
 cases Aj.inj e
 exact .none
theorem Ad6(h:QE X a n (RV X.kw) fa):QP X (some a) n fa:=λE pins s σ H δ m Φ ht I er pl hf=>by
 rw[evalPart_some];refine thn (h E pins s σ H δ m _ ht I er pl hf) λu s1 ⟨t1,x,H1,d,I1,r1,st1,b1,q1⟩=>⟨t1,H1,d,I1,st1,λo e=>?_,q1⟩
 have b1:Rep _ _ _ _:=b1
 cases d with
 | non=>
  rw[Rep]at b1;subst b1
  cases r1
  cases Aj.inj e
  exact .none
 | int i=>
  rw[Rep]at b1;subst b1;obtain⟨t,rfl⟩:=r1
  cases Aj.inj e
  exact .int i t
 | _=>cases e
variable{lo hi:Option Expr}{p2:Pos}
theorem Aah(x:Dat)(l h:Option Int):Bj (Vc x l h):=by
 intro P Q k hp;unfold Vc at hp ⊢
 split at hp<;>first|exact k _ hp|exact hp.elim
theorem Apu(ha:QE X a n (RB X.kw) fa)(hl:QP X lo n' fb)(hu:QP X hi n'' fc):QE X (.Subscript a (.Slice lo hi none p2) pos) (n+n'+n'') (ROw X.kw) (λδ Q=>fa δ λx=>fb δ λl=>fc δ λh=>Hg x l h Q):=λE pins s σ H δ m Φ ht I er pl hf=>by
 refine Subscript_ (thn (ha E pins s σ H δ (n'+n''+m) _ ht I er (pl.mono (by omega)) hf) λv s1 ⟨t1,x,H1,dx,I1,r1,st1,b1,q1⟩=>?_);refine wpAny_Slice (thn (hl E pins s1 σ H1 δ (n''+m) _ t1 I1 (er.ext st1.ext) (st1.pot _ (pl.mono (by omega))) q1) λvl s2 ⟨t2,H2,dl,I2,st2,o2,q2⟩=>thn (hu E pins s2 σ H2 δ m _ t2 I2 (er.ext (st1.trans st2).ext) ((st1.trans st2).pot _ (pl.mono (by omega))) q2) λvu s3 ⟨t3,H3,du,I3,st3,o3,q3⟩=>?_);rw[evalPart_none];refine wpAny_pure ?_;obtain⟨l,h,e1,e2,q⟩:=Yv q3;have I4:L2.Inv X pins σ H3 { s3 with heap:=s3.heap.push { cls:=.type "slice", data:=.fields #[vl,vu,.none] } }:=I3.kept (t':=s3.toks) λb ob q=>Heap.get?_push_of_some _ q
 obtain⟨T,id,hT,hty,hg⟩:=As8 (X:=X.wish E) pins { s3 with heap:=s3.heap.push { cls:=.type "slice", data:=.fields #[vl,vu,.none] } } σ H3 x v vl vu l h s3.heap.objs.size _ (I4.wish E) r1 (Heap.IsSliceOf.new ..) (o2 _ e1) (o3 _ e2) ⟨dx,b1.ext (st2.trans st3).ext,Aah dx l h _ _ (λd h=>Vg h) q⟩;show wpAny (model X.prog X.w) X.A (subscriptTail a (.Slice lo hi none p2) v (.ref s3.heap.objs.size)) _ E { s3 with heap:=s3.heap.push { cls:=.type "slice", data:=.fields #[vl,vu,.none] } }
 refine Cr (s:={ s3 with heap:=s3.heap.push { cls:=.type "slice", data:=.fields #[vl,vu,.none] } }) t3 (tail_any (ops:=[.ref s3.heap.objs.size,v]) hty hT hg (by with_unfolding_all rfl)) λw s' t h=>X8 t ((st1.trans st2).trans st3) (by omega) h
variable{e:Expr}{es:List Expr}{fs:Env→(List Dat→Prop)→Prop}{RL:Hp→List V→List Dat→Prop}{x:Str}{p:Pos}
theorem Oz{u:Value}{r:List V→Hp→VK→Prop}{W:List Dat→(Dat→Prop)→Prop}{R:Km}(hc:∀E,CallR (X.wish E) u r)(hT:(∃id,u = .builtin id)∨∃T,u = .type T)(hg:Gl X x)(hm:X.mg x=none)(hv:bootBuiltins x=some u)
  (hr:∀(pins:List (Addr×Obj)) (σ:L2.St) (E':Value→Shared→Prop) (H H1:Hp) (vs:List V) (ds:List Dat) (Φ:Dat→Prop),Step n H H1→RL H1 vs ds→W ds Φ→∃Q:VK,r vs H1 Q∧∀w s',0 < s'.toks→EP (X.wish E') pins σ Q w s'→PX X pins σ n H R Φ w s')
  (ha:QA X (e::es) n RL fs) (hn:x ≠ "__name__") (hdb:(x == ("__debug__" : Str))=false)
  (he:starEach (e::es) X.env=(false,eval e X.env)::starEach es X.env) (hpl:(backTo pos (starEach es X.env)).any (·.1)=false):QE X (.Call (.Name x p) (e::es) [] pos) n R (λδ Q=>fs δ λds=>W ds Q):=λE pins s σ H δ m Φ ht I er pl hf=>by
 refine wpAny_Call_Name_kw (ld_blt I hg hm hv ?_ hn hdb);have fin:wpAny (model X.prog X.w) X.A (spliced (backTo pos (starEach (e::es) X.env))) (λvs s₁=>wpAny (model X.prog X.w) X.A (call u vs) (PX X pins σ n H R Φ) E s₁) E s:=
  thn (ha pos E pins s σ H δ m _ ht I er pl hf) λus s1 ⟨t1,vs,H1,ds,I1,r1,st1,b1,q1⟩=>by
   obtain⟨Q,hq,hk⟩:=hr pins σ E H H1 vs ds Φ st1 b1 q1;exact Cr t1 (hc E pins s1 σ H1 vs us Q (I1.wish E) r1 hq) λw s' t h=>hk w s' t h
 rcases hT with⟨id,rfl⟩|⟨T,rfl⟩
 ·exact PyProof.Rows.callWith_builtin1 fin he hpl
 ·exact PyProof.Rows.callWith_type1 fin he hpl
def b1V:B1→Option Value
 | .len=>some (.builtin "len") | .abs=>some (.builtin "abs") | .all=>some (.builtin "all") | .any=>some (.builtin "any")
 | .max=>some (.builtin "max") | .min=>some (.builtin "min") | .sorted=>some (.builtin "sorted") | .repr=>some (.builtin "repr")
 | .tuple=>some (.type "tuple") | .list=>some (.type "list") | .int=>some (.type "int") | .str=>some (.type "str") | .reprS=>some (.builtin "repr") | .sortE=>some (.builtin "sorted")|_=>none
def b1N:B1→Str
 | .len => "len" | .abs => "abs" | .all => "all" | .any => "any" | .max => "max" | .min => "min" | .sorted => "sorted" | .repr => "repr"
 | .tuple => "tuple" | .list => "list" | .int => "int" | .str => "str" | .bool => "bool" | .dict => "dict" | .reprS => "repr" | .sortE => "sorted"
theorem Abt(hS:Kw X.kw)(hu:X.A.units+300 < cLine)(hg:X.A.guards=some [])(hc:X.calm=true)(b:B1)(u:Value)(h:b1V b=some u)(E:Value→Shared→Prop):CallR (X.wish E) u (rB1 X.kw b):=by
 cases b<;>simp only[b1V,Aj.injEq,reduceCtorEq]at h<;>subst h<;>first
  | exact Arl (X:=X.wish E)
  | exact Arn (X:=X.wish E)
  | exact Anx (X:=X.wish E) hc
  | exact Anw (X:=X.wish E) hc
  | exact Anu (X:=X.wish E) hc
  | exact Ant (X:=X.wish E) hc
  | exact V8 (X:=X.wish E) (by show X.A.units+200 < cLine;omega)
  | exact Ake (X:=X.wish E) (by show X.A.units+200 < cLine;omega) hg
  | exact Akd (X:=X.wish E) hS (by show X.A.units+200 < cLine;omega) hg
  | exact Akc (X:=X.wish E) (by show X.A.units+200 < cLine;omega)
  | exact Anp (X:=X.wish E)
  | exact Agv (X:=X.wish E)
  | exact Akf (X:=X.wish E) hc
  | exact Anv (X:=X.wish E)
theorem Asn(hS:Kw X.kw)(hu:X.A.units+300 < cLine)(hgu:X.A.guards=some [])(hc:X.calm=true)(b:B1)(u:Value)(hb:b1V b=some u)(hx:x=b1N b)(hg:Gl X x)(hm:X.mg x=none)(hv:bootBuiltins x=some u)
  (ha:QA X (e::es) n (RLb X.kw) fs) (he:starEach (e::es) X.env=(false,eval e X.env)::starEach es X.env) (hpl:(backTo pos (starEach es X.env)).any (·.1)=false):QE X (.Call (.Name x p) (e::es) [] pos) n (ROw X.kw) (λδ Q=>fs δ λds=>biW b ds Q):=by
 refine Oz (r:=rB1 X.kw b) (λE=>Abt hS hu hgu hc b u hb E) ?_ hg hm hv (λpins σ E' H H1 vs ds Φ st rl q=>⟨_,⟨ds,rl,Wc b ds _ _ (λd h=>Vg h) q⟩,λw s' t h=>X8 t st (Aa _) h⟩) ha ?_ ?_ he hpl
 ·cases b<;>simp only[b1V,Aj.injEq,reduceCtorEq]at hb<;>subst hb<;>first|exact .inl ⟨_,rfl⟩|exact .inr ⟨_,rfl⟩
 ·subst hx;cases b<;>decide
 ·subst hx;cases b<;>decide
def RT(T:String):Km:=λ_ _ v d=>v = .ty T∧d = .non
theorem Asl{T:String}(hg:Gl X x)(hm:X.mg x=none)(hv:bootBuiltins x=some (.type T))(hn:x ≠ "__name__")(hdb:(x == ("__debug__" : Str))=false):QE X (.Name x p) 0 (RT T) (λ_ Q=>Q .non):=λE pins s σ H δ m Φ ht I er pl hf=>
 ld_blt I hg hm hv ⟨ht,.ty T,H,.non,I,rfl,Step.refl H,⟨rfl,rfl⟩,hf⟩ hn hdb
abbrev RLi(K:KW)(T:String):Hp→List V→List Dat→Prop:=λH vs ds=>∃v d,vs=[v,.ty T]∧ds=[d]∧Rep K H v d
theorem Aqa{T:String}{y:Str}{py:Pos}(ha:QE X a n (RV X.kw) fa)(hy:QE X (.Name y py) 0 (RT T) (λ_ Q=>Q .non))(hs:starEach [a,.Name y py] X.env=(false,eval a X.env)::starEach [.Name y py] X.env)(hs2:starEach [.Name y py] X.env=(false,eval (.Name y py) X.env)::starEach [] X.env) :
  QA X [a,.Name y py] n (RLi X.kw T) (λδ Q=>fa δ λd=>Q [d]):=λpos E pins s σ H δ m Φ ht I er pl hf=>by
 rw[hs,hs2];show wpAny _ _ (spliced ((false,eval a X.env)::(false,eval (.Name y py) X.env)::backTo pos (starEach [] X.env))) _ _ s
 refine Calls.spliced_cons (thn (ha E pins s σ H δ m _ ht I er pl hf) λu s1 ⟨t1,x,H1,dx,I1,r1,st1,b1,q1⟩=>?_);refine Calls.spliced_cons (thn (hy E pins s1 σ H1 δ 0 (λ_=>True) t1 I1 (er.ext st1.ext) (st1.pot _ (pl.mono (by omega))) trivial) λu2 s2 ⟨t2,y,H2,dy,I2,r2,st2,b2,_⟩=>?_);obtain⟨rfl,_⟩:=b2;exact Calls.spliced_nil ⟨t2,[x,.ty T],H2,[dx],I2,.cons r1 (.cons r2 .nil),(st1.trans st2).mono (by omega),⟨x,dx,rfl,rfl,Rep.ext st2.ext _ _ b1⟩,q1⟩
def Ati(t:Ty)(l:List Dat)(Q:Dat→Prop):Prop:=
 match l with
 | [d]=>Gv d=true∧Q (.bl (Q7 d t))
 | _=>False
theorem Ap2(t:Ty){y:Str}{py:Pos}(hx:x = "isinstance")(hg:Gl X x)(hm:X.mg x=none)(ha:QE X a n (RV X.kw) fa)(hy:QE X (.Name y py) 0 (RT (Yl t)) (λ_ Q=>Q .non))
  (hs:starEach [a,.Name y py] X.env=(false,eval a X.env)::starEach [.Name y py] X.env) (hs2:starEach [.Name y py] X.env=(false,eval (.Name y py) X.env)::starEach [] X.env) (hpl:(backTo pos (starEach [.Name y py] X.env)).any (·.1)=false) :
  QE X (.Call (.Name x p) [a,.Name y py] [] pos) n (RV X.kw) (λδ Q=>fa δ λd=>Gv d=true∧Q (.bl (Q7 d t))):=by
 subst hx;refine Oz (u:=.builtin "isinstance") (r:=λvs H Q=>∃v d,vs=[v,.ty (Yl t)]∧Rep X.kw H v d∧Gv d=true∧Q (.bl (Q7 d t)) H) (W:=Ati t) (λE=>Arm (X:=X.wish E) t) (.inl ⟨_,rfl⟩) hg hm PyProof.Rows.boot_isinstance (λpins σ E' H H1 vs ds Φ st ⟨v,d,e1,e2,rd⟩ q=>?_) (Aqa ha hy hs hs2) (by decide) (by decide) hs hpl;subst e1 e2;have q:Gv d=true∧Φ (.bl (Q7 d t)):=q;refine⟨λw H'=>H'=H1∧w = .bl (Q7 d t),⟨v,d,rfl,rd,q.1,rfl,rfl⟩,λw s' t ⟨z,H',I',r',e1,e2⟩=>?_⟩;subst e1 e2;exact⟨t,_,_,_,I'.unwish,r',st,Hm _,q.2⟩
variable{o:Expr}{fo:Env→(Dat→Prop)→Prop}{apos cpos:Pos}
def m1N:M1→Str
 | .index => "index" | .join => "join" | .lstrip => "lstrip" | .replace => "replace" | .get => "get" | .upper => "upper" | .count => "count" | .split => "split" | .partition => "partition" | .startswith => "startswith"
def meT(m:M1)(d:Dat):String:=
 match m,d with
 | .index,.lst _ => "list"
 | .count,.lst _ => "list"
 | .index,_ => "tuple"
 | _,_ => "str"
def Aqz(m:M1)(d:Dat):String:=
 match m,d with
 | .index,.lst _ => "list.index"
 | .count,.lst _ => "list.count"
 | .index,_ => "tuple.index"
 | .join,_ => "str.join"
 | .lstrip,_ => "str.lstrip"
 | .replace,_ => "str.replace"
 | .upper,_ => "str.upper"
 | .split,_ => "str.split"
 | .partition,_ => "str.partition"
 | .startswith,_ => "str.startswith"
 | _,_ => ""
structure MetR(X:Cx)(m:M1)(d:Dat):Prop where
 pa:PlainAttrs (meT m d)
 slot:PySem.Slot (meT m d) (m1N m) (Aqz m d)
 ty:typeOf (.builtin (Aqz m d))=pure (.type "method_descriptor")
 run:MtR X (Aqz m d) (λx xs H Q=>∃ds,BRep X.kw H x d∧BReps X.kw H xs ds∧meW m d ds (Res X.kw H Q))
theorem Ajm{d:Dat}(ok:Ih .join d=true):MetR X .join d:=by
 cases d<;>simp only[Ih,Yzg]at ok
 exact⟨PySem.F.plainAttrs_str,PySem.F.slot_str_join,PySem.F.type_str_join,λpins s σ H x xs v us Q I rx rxs ⟨ds,h1,h2,h3⟩=>Ajk pins s σ H x xs v us Q I rx rxs ⟨_,ds,h1,h2,h3⟩⟩
theorem Ac9{d:Dat}(ok:Ih .lstrip d=true):MetR X .lstrip d:=by
 cases d<;>simp only[Ih,Yzg]at ok
 exact⟨PySem.F.plainAttrs_str,PySem.F.slot_str_lstrip,PySem.F.type_str_lstrip,λpins s σ H x xs v us Q I rx rxs ⟨ds,h1,h2,h3⟩=>Ac7 pins s σ H x xs v us Q I rx rxs ⟨_,ds,h1,h2,h3⟩⟩
theorem Xp{d:Dat}(ok:Ih .split d=true):MetR X .split d:=by
 cases d<;>simp only[Ih,Yzg]at ok
 exact⟨PySem.F.plainAttrs_str,PySem.F.slot_str_split,PySem.F.type_str_split,λpins s σ H x xs v us Q I rx rxs ⟨ds,h1,h2,h3⟩=>Agg pins s σ H x xs v us Q I rx rxs ⟨_,ds,h1,h2,h3⟩⟩
theorem Wu{d:Dat}(ok:Ih .partition d=true):MetR X .partition d:=by
 cases d<;>simp only[Ih,Yzg]at ok
 exact⟨PySem.F.plainAttrs_str,PySem.F.slot_str_partition,PySem.F.type_str_partition,λpins s σ H x xs v us Q I rx rxs ⟨ds,h1,h2,h3⟩=>Wt pins s σ H x xs v us Q I rx rxs ⟨_,ds,h1,h2,h3⟩⟩
theorem Vt{d:Dat}(ok:Ih .startswith d=true):MetR X .startswith d:=by
 cases d<;>simp only[Ih,Yzg]at ok
 exact⟨PySem.F.plainAttrs_str,PySem.F.slot_str_startswith,PySem.F.type_str_startswith,λpins s σ H x xs v us Q I rx rxs ⟨ds,h1,h2,h3⟩=>Ac6 pins s σ H x xs v us Q I rx rxs ⟨_,ds,h1,h2,h3⟩⟩
theorem Agk(hu:X.A.units+300 < cLine){d:Dat}(ok:Ih .index d=true):MetR X .index d:=by
 cases d<;>simp only[Ih,Yzg]at ok
 ·rename_i l
  refine⟨PySem.F.plainAttrs_tuple,PySem.F.slot_tuple_index,PySem.F.type_tuple_index,λpins s σ H x xs v us Q I rx rxs ⟨ds,h1,h2,h3⟩=>?_⟩;have h4:R8 (.tup l) ds (Res X.kw H Q):=h3
  match ds,h2,h4 with
  | [e],h2,h4=>exact Agh hu pins s σ H x xs v us Q I rx rxs ⟨l,e,h1,h2,h4⟩
 ·rename_i l
  refine⟨PySem.F.plainAttrs_list,PySem.F.slot_list_index,PySem.F.type_list_index,λpins s σ H x xs v us Q I rx rxs ⟨ds,h1,h2,h3⟩=>?_⟩;have h4:R8 (.lst l) ds (Res X.kw H Q):=h3
  match ds,h2,h4 with
  | [e],h2,h4=>exact Agi hu pins s σ H x xs v us Q I rx rxs ⟨l,e,h1,h2,h4⟩
theorem Agl(hu:X.A.units+300 < cLine){d:Dat}(ok:Ih .count d=true):MetR X .count d:=by
 cases d<;>simp only[Ih,Yzg]at ok
 rename_i l;refine⟨PySem.F.plainAttrs_list,PySem.F.slot_list_count,PySem.F.type_list_count,λpins s σ H x xs v us Q I rx rxs ⟨ds,h1,h2,h3⟩=>?_⟩;have h4:Zm (.lst l) ds (Res X.kw H Q):=h3
 match ds,h2,h4 with
 | [e],h2,h4=>exact Agj hu pins s σ H x xs v us Q I rx rxs ⟨l,e,h1,h2,h4⟩
theorem Am3{pins:List (Addr×Obj)}{s:Shared}{σ:L2.St}{H:Hp}{v:V}{u:Value}{m:M1}{d:Dat}(I:L2.Inv X pins σ H s)(r:L2.RelV v u)(b:BRep X.kw H v d)(ok:Ih m d=true)(ng:m ≠ .get) :
  s.TypeIs u (meT m d)∧(∀a,u = .ref a→∃o,s.heap.get? a=some o∧o.dict=none):=by
 have key:(∃l,d = .tup l)∨(∃l,d = .lst l)∨∃l,d = .str l:=by
  cases d<;>first|exact .inl ⟨_,rfl⟩|exact .inr (.inl ⟨_,rfl⟩)|exact .inr (.inr ⟨_,rfl⟩)|(cases m<;>first|exact absurd rfl ng|(simp only[Ih,Yzg]at ok))
 rcases key with⟨l,rfl⟩|⟨l,rfl⟩|⟨l,rfl⟩
 ·have e:meT m (.tup l) = "tuple" := by cases m<;>first|rfl|(simp only[Ih,Yzg]at ok)
  rw[e];obtain⟨a,vs,rfl,h1,h2,h3⟩:=b.tupAt
  cases r
  rcases h1 with⟨o,h1,h4⟩|⟨o,its,k,h1,h4,h5,h6⟩
  ·obtain⟨h5,_,its,_,q⟩:=I.hok a _ h1
   obtain⟨ob,q1,q2,q3⟩:=q;rw[h5]at q1;cases q1;exact⟨⟨o,h5,q2⟩,λb e=>by cases e;exact⟨o,h5,h4⟩⟩
  ·have h7:=I.kIn a o h1
   exact⟨⟨o,h7,h4⟩,λb e=>by cases e;exact⟨o,h7,h5⟩⟩
 ·have e:meT m (.lst l) = "list" := by cases m<;>first|rfl|(simp only[Ih,Yzg]at ok)
  rw[e];obtain⟨a,vs,rfl,h1,h2,h3⟩:=b.lstAt
  cases r
  obtain⟨z,its,k,_,q⟩:=h1.ok I.hok;exact⟨⟨_,q,rfl⟩,λb e=>by cases e;exact⟨_,q,rfl⟩⟩
 ·have e:meT m (.str l) = "str" := by cases m<;>first|rfl|(simp only[Ih,Yzg]at ok)
  rw[e];obtain⟨rfl,_⟩:=b.strAt;obtain⟨t,rfl⟩:=r;exact⟨typeIs_str _ _ _,λa e=>nomatch e⟩
theorem Aog{m1:M1}{nm:Str}(ng:m1 ≠ .get)(hnm:nm=m1N m1)(hm:∀E d,Ih m1 d=true→MetR (X.wish E) m1 d)(ho:QE X o n (RB X.kw) fo)(ha:QA X (e::es) n' (RLb X.kw) fs)
  (hbase:attributeBase o nm X.env (eval o X.env)=eval o X.env)
  (hfew:((backTo cpos (starEach (e::es) X.env)).all (λx=>!x.1) && (backToKw cpos (keywordEach [] X.env)).all (λx=>x.1.isSome)
   && decide ((e::es).length+([]:List Keyword).length+(if([]:List Keyword).isEmpty then 0 else 1) < 30))=true)
  (hline:(apos.endLine == cpos.line)=true) (hs:starEach (e::es) X.env=(false,eval e X.env)::starEach es X.env) (hpl:(backTo cpos (starEach es X.env)).any (·.1)=false) :
  QE X (.Call (.Attribute o nm apos) (e::es) [] cpos) (n+n') (ROw X.kw) (λδ Q=>fo δ λx=>Ih m1 x=true∧fs δ λds=>meW m1 x ds Q):=λE pins s σ H δ m Φ ht I er pl hf=>by
 subst hnm;refine wpAny_Call_method_late hbase hfew hline rfl (thn (ho E pins s σ H δ (n'+m) _ ht I er (pl.mono (by omega)) hf) λv s1 ⟨t1,x,H1,dx,I1,r1,st1,b1,ok,q1⟩=>?_);obtain⟨pa,slot,hty,run⟩:=hm E dx ok;obtain⟨h1,h2⟩:=Am3 I1 r1 b1 ok ng;refine⟨_,_,pa,slot,hty,h1,h2,?_⟩;have hA:=ha cpos E pins s1 σ H1 δ m _ t1 I1 (er.ext st1.ext) (st1.pot _ (pl.mono (by omega))) q1;rw[hs]at hA ⊢;refine Calls.callWith_builtin (by show(false || (backTo cpos (starEach es X.env)).any (·.1))=false;rw[hpl]<;>rfl) (Calls.evalArgs_plain ?_);refine thn hA λus s2 ⟨t2,vs,H2,ds,I2,r2,st2,b2,q2⟩=>?_
 exact Cr t2 (run pins s2 σ H2 x vs v us _ (I2.wish E) r1 r2 ⟨ds,b1.ext st2.ext,b2,Aa3 m1 dx ds _ _ (λd h=>Vg h) q2⟩) λw s' t h=>X8 t (st1.trans st2) (Aa _) h
theorem Vh{K:KW}{H:Hp}{vs:List V}{d:Dat}(h:Reps K H vs [d]):∃v,vs=[v]∧Rep K H v d:=by
 match vs,h with
 | [v],h=>rw[Reps]at h;exact⟨v,rfl,h.1⟩
 | [],h=>simp[Reps]at h
 | _::_::_,h=>simp[Reps]at h
theorem Aam{K:KW}{H:Hp}{vs:List V}{d e:Dat}(h:Reps K H vs [d,e]):∃v w,vs=[v,w]∧Rep K H v d∧Rep K H w e:=by
 match vs,h with
 | v::vs,h=>
  rw[Reps]at h;obtain⟨w,rfl,hw⟩:=Vh h.2;exact⟨v,w,rfl,h.1,hw⟩
 | [],h=>simp[Reps]at h
theorem U5{v:V}{us:List Value}(h:L2.Vals [v] us):∃u,us=[u]∧L2.RelV v u:=by
 cases h with
 | cons a b=>cases b;exact⟨_,rfl,a⟩
theorem Z7{v w:V}{us:List Value}(h:L2.Vals [v,w] us):∃u z,us=[u,z]∧L2.RelV v u∧L2.RelV w z:=by
 cases h with
 | cons a b=>
  obtain⟨z,rfl,hz⟩:=U5 b;exact⟨_,z,rfl,a,hz⟩
theorem Aj5{l:List (Dat×Dat)}{ds:List Dat}{Q:Dat→Prop}(h:Abf (.dic l) ds Q):((∃t,ds=[.str t]∧Q ((Mi l t).getD .non))∨∃t x,ds=[.str t,x]∧Q ((Mi l t).getD x))∨((∃t,ds=[.int t]∧Q ((Il l t).getD .non))∨∃t x,ds=[.int t,x]∧Q ((Il l t).getD x)):=by
 unfold Abf at h
 split at h
 ·rename_i e
  cases e
  exact .inl (.inl ⟨_,rfl,h⟩)
 ·rename_i e
  cases e
  exact .inl (.inr ⟨_,_,rfl,h⟩)
 ·rename_i e
  cases e
  exact .inr (.inl ⟨_,rfl,h⟩)
 ·rename_i e
  cases e
  exact .inr (.inr ⟨_,_,rfl,h⟩)
 ·exact h.elim
theorem Ap5(hu:X.A.units+1 < cLine)(ho:QE X o n (RB X.kw) fo)(ha:QA X (e::es) n' (RLv X.kw) fs)
  (hbase:attributeBase o "get" X.env (eval o X.env)=eval o X.env)
  (hfew:((backTo cpos (starEach (e::es) X.env)).all (λx=>!x.1) && (backToKw cpos (keywordEach [] X.env)).all (λx=>x.1.isSome)
   && decide ((e::es).length+([]:List Keyword).length+(if([]:List Keyword).isEmpty then 0 else 1) < 30))=true)
  (hline:(apos.endLine == cpos.line)=true) (hs:starEach (e::es) X.env=(false,eval e X.env)::starEach es X.env) (hpl:(backTo cpos (starEach es X.env)).any (·.1)=false) :
  QE X (.Call (.Attribute o "get" apos) (e::es) [] cpos) (n+n') (RV X.kw) (λδ Q=>fo δ λx=>Ih .get x=true∧fs δ λds=>meW .get x ds Q):=λE pins s σ H δ m Φ ht I er pl hf=>by
 refine wpAny_Call_method_late hbase hfew hline rfl (thn (ho E pins s σ H δ (n'+m) _ ht I er (pl.mono (by omega)) hf) λv s1 ⟨t1,x,H1,dx,I1,r1,st1,b1,ok,q1⟩=>?_)
 cases dx<;>simp only[Ih,Yzg]at ok
 rename_i l;obtain⟨a,kvs,rfl,h1,h2,_⟩:=b1.dicAt
 cases r1
 obtain⟨ty1,ty2,_⟩:=isD_at I1 (.inl ⟨kvs,h1⟩);refine⟨"dict", "dict.get", PySem.F.plainAttrs_dict,PySem.F.slot_dict_get,PySem.F.type_dict_get,ty1,ty2,?_⟩;have hA:=ha cpos E pins s1 σ H1 δ m _ t1 I1 (er.ext st1.ext) (st1.pot _ (pl.mono (by omega))) q1;rw[hs]at hA ⊢;refine Calls.callWith_builtin (by show(false || (backTo cpos (starEach es X.env)).any (·.1))=false;rw[hpl]<;>rfl) (Calls.evalArgs_plain ?_);refine thn hA λus s2 ⟨t2,vs,H2,ds,I2,r2,st2,b2,q2⟩=>?_
 have h1':Rd H2 a (.dK kvs):=by
  rcases h1 with h1|⟨o,h1⟩
  ·exact .inl (st2.ext.keep h1 λ_ q=>nomatch q)
  ·exact .inr ⟨o,st2.ext.keep h1 λ_ q=>nomatch q⟩
 have h2':=RepKv.ext st2.ext _ _ h2;have q2:Abf (.dic l) ds Φ:=q2;have look:∀t:List Nat,∃r:Option V,DGet H2 a (.str ⟨t.toArray⟩) r∧(∀z dz,Rep X.kw H2 z dz→Rep X.kw H2 (r.getD z) ((Mi l t).getD dz)):=λt=>by
  cases g:Mi l t with
  | none=>
   refine⟨none,.inl ⟨kvs,.inr ⟨t.toArray⟩,h1',rfl,(h2'.lack g).symm⟩,λz dz hz=>?_⟩;exact hz
  | some d=>
   obtain⟨w,e2,r2⟩:=h2'.get g;exact⟨some w,.inl ⟨kvs,.inr ⟨t.toArray⟩,h1',rfl,e2.symm⟩,λz dz hz=>r2⟩
 have lookI:∀t:Int,∃r:Option V,DGet H2 a (.int t) r∧(∀z dz,Rep X.kw H2 z dz→Rep X.kw H2 (r.getD z) ((Il l t).getD dz)):=λt=>by
  cases g:Il l t with
  | none=>
   refine⟨none,.inl ⟨kvs,.inl t,h1',rfl,(h2'.lackI g).symm⟩,λz dz hz=>?_⟩;exact hz
  | some d=>
   obtain⟨w,e2,r2⟩:=h2'.getI g;exact⟨some w,.inl ⟨kvs,.inl t,h1',rfl,e2.symm⟩,λz dz hz=>r2⟩
 rcases Aj5 q2 with(⟨t,e0,q2⟩|⟨t,dz,e0,q2⟩)|(⟨t,e0,q2⟩|⟨t,dz,e0,q2⟩)
 ·subst e0
  obtain⟨y,e1,hy⟩:=Vh b2;subst e1;obtain⟨u,e1,ry⟩:=U5 r2;subst e1;rw[Rep]at hy;obtain⟨ey,_⟩:=hy;subst ey;obtain⟨r,dg,hr⟩:=look t;refine Cr (X:=X) t2 (d_get1 (Q:=λw s'=>∃v,L2.Inv X pins σ H2 s'∧L2.RelV v w∧v=r.getD .non) hu I2 dg ry λw' s3 I3 rw'=>⟨_,I3,rw',rfl⟩) λw s' t' ⟨v,I3,rv,e⟩=>?_
  subst e;exact⟨t',_,H2,_,I3,rv,(st1.trans st2),hr .non .non (by rw[Rep]),q2⟩
 ·subst e0
  obtain⟨y,z,e1,hy,hz⟩:=Aam b2;subst e1;obtain⟨u,u2,e1,ry,rz⟩:=Z7 r2;subst e1;rw[Rep]at hy;obtain⟨ey,_⟩:=hy;subst ey;obtain⟨r,dg,hr⟩:=look t;refine Cr (X:=X) t2 (d_get2 (Q:=λw s'=>∃v,L2.Inv X pins σ H2 s'∧L2.RelV v w∧v=r.getD z) hu I2 dg ry rz λw' s3 I3 rw'=>⟨_,I3,rw',rfl⟩) λw s' t' ⟨v,I3,rv,e⟩=>?_
  subst e;exact⟨t',_,H2,_,I3,rv,(st1.trans st2),hr z dz hz,q2⟩
 ·subst e0
  obtain⟨y,e1,hy⟩:=Vh b2;subst e1;obtain⟨u,e1,ry⟩:=U5 r2;subst e1;rw[Rep]at hy;subst hy;obtain⟨r,dg,hr⟩:=lookI t;refine Cr (X:=X) t2 (d_get1 (Q:=λw s'=>∃v,L2.Inv X pins σ H2 s'∧L2.RelV v w∧v=r.getD .non) hu I2 dg ry λw' s3 I3 rw'=>⟨_,I3,rw',rfl⟩) λw s' t' ⟨v,I3,rv,e⟩=>?_
  subst e;exact⟨t',_,H2,_,I3,rv,(st1.trans st2),hr .non .non (by rw[Rep]),q2⟩
 ·subst e0
  obtain⟨y,z,e1,hy,hz⟩:=Aam b2;subst e1;obtain⟨u,u2,e1,ry,rz⟩:=Z7 r2;subst e1;rw[Rep]at hy;subst hy;obtain⟨r,dg,hr⟩:=lookI t;refine Cr (X:=X) t2 (d_get2 (Q:=λw s'=>∃v,L2.Inv X pins σ H2 s'∧L2.RelV v w∧v=r.getD z) hu I2 dg ry rz λw' s3 I3 rw'=>⟨_,I3,rw',rfl⟩) λw s' t' ⟨v,I3,rv,e⟩=>?_
  subst e;exact⟨t',_,H2,_,I3,rv,(st1.trans st2),hr z dz hz,q2⟩
theorem Vi(a:Nat)(t:List Nat):∀s:List Nat,StrLaws.replL [a] t s=s.flatMap λc=>if c=a then t else [c]
 | []=>by rw[StrLaws.replL_nil];rfl
 | c::r=>by
  by_cases h:c=a
  ·subst h
   rw[StrLaws.replL_hit (by simp) (by simp),Gi,if_pos rfl,← Vi c t r];rfl
  ·rw[StrLaws.replL_miss (by simp[h]),Gi,if_neg h,← Vi a t r]
   rfl
theorem Y0{d:Dat}{ya zl:List Nat}{Q:Dat→Prop}(h:N6 d [.str ya,.str zl] Q):∃s,d = .str s∧ya≠[]∧(zl≠ya∧s.length+(s.length+1)*zl.length≤big)∧Q (.str (StrLaws.replL ya zl s)):=by
 cases d<;>first
  | exact h.elim
  | (match ya,h with
    | [a],h=>exact⟨_,rfl,by simp,h.1,by rw[Vi];exact h.2⟩
    | a::b::r,h=>exact⟨_,rfl,by simp,h.1,h.2⟩)
theorem Acw{y z:Str}{j k:Nat}{c0 c1:Pos}{ya zl:List Nat}(hy:y.cps.toList=ya)(hz:z.cps.toList=zl)(ho:QE X o n (RB X.kw) fo)
  (hst:starEach [.Constant (.str y) j c0,.Constant (.str z) k c1] X.env=[(false,eval (.Constant (.str y) j c0) X.env),(false,eval (.Constant (.str z) k c1) X.env)])
  (hbase:attributeBase o "replace" X.env (eval o X.env)=eval o X.env) (hline:(apos.endLine == cpos.line)=true) :
  QE X (.Call (.Attribute o "replace" apos) [.Constant (.str y) j c0,.Constant (.str z) k c1] [] cpos) n (ROw X.kw) (λδ Q=>fo δ λx=>Ih .replace x=true∧meW .replace x [.str ya,.str zl] Q):=λE pins s σ H δ m Φ ht I er pl hf=>by
 refine PySem.Call_method2 hbase hst hline (thn (ho E pins s σ H δ m _ ht I er pl hf) λv s1 ⟨t1,x,H1,dx,I1,r1,st1,b1,ok,q1⟩=>?_);have q1:N6 dx [.str ya,.str zl] Φ:=q1;obtain⟨s0,rfl,hya,⟨q1,q2⟩,q3⟩:=Y0 q1;obtain⟨rfl,hs0⟩:=b1.strAt;obtain⟨tx,rfl⟩:=r1;have hyz:(y == z)=false:=by
  cases hb:y == z with
  | false=>rfl
  | true=>
   have e:y=z:=by simpa using hb
   subst e;exact absurd (hz.symm.trans hy) q1
 have hy1:1≤y.length:=by
  have:y.cps.toList.length=y.length:=by simp[Str.length]
  rw[hy]at this;have:=List.length_pos_iff.mpr hya;omega
 have hzl:z.length=zl.length:=by rw[← hz];simp[Str.length]
 have hrep:Txt.replace ⟨s0.toArray⟩ y z=⟨(StrLaws.replL ya zl s0).toArray⟩:=by
  have e:=StrLaws.replace_list (x:=⟨s0.toArray⟩) (z:=z) hy1;rw[hy,hz]at e;simp only[Ho]at e;rw[← e]
 have hbnd:(⟨s0.toArray⟩:Str).length+((⟨s0.toArray⟩:Str).length+1)*z.length≤16777216:=by rw[Ez,hzl];exact q2
 refine⟨"str", _,PySem.F.plainAttrs_str,PySem.F.slot_str_replace,PySem.F.type_str_replace,typeIs_str _ _ _,(λ_ e=>nomatch e),Calls.callWith_builtin rfl (Calls.evalArgs_plain (Calls.spliced_cons ?_))⟩;refine Calls.Constant_str (Calls.spliced_cons (Calls.Constant_str (Calls.spliced_nil ?_)));have fin:wpAny (model X.prog X.w) X.A (call (.builtin "str.replace") [.str ⟨s0.toArray⟩ tx,.str y s1.toks,.str z (s1.toks+1)]) (EP (X.wish E) pins σ λv H'=>∃d,Step 0 H1 H'∧RO X.kw H1 H' v d∧Φ d) E { s1 with toks:=s1.toks+1+1 }:=by
  refine PySem.SC.replace (by show s1.toks≠0;omega) (by show s1.toks+1≠0;omega) (by show s1.toks≠s1.toks+1;omega) hyz hbnd λt' k=>⟨.str (Txt.replace ⟨s0.toArray⟩ y z),H1,(I1.tok k).wish E,⟨t',rfl⟩,_,Step.refl _,.inr ⟨rfl,?_⟩,q3⟩
  rw[hrep];refine G8 ?_;have:=TK.replace_len ⟨s0.toArray⟩ y z;rw[hrep,Ez]at this;exact Bo this hbnd
 exact Cr (s:={ s1 with toks:=s1.toks+1+1 }) (by show 0 < s1.toks+1+1;omega) fin λw s' t h=>X8 t st1 (by omega) h
end
end SF
namespace SF
open PySem PySem.Spec PyProof.Rows L2
variable[TN]
theorem Lg(σ:L2.St):∀(vs:List Nat) (j:Nat),(wipe σ vs)[j]? = if j∈vs∧j < σ.length then some none else σ[j]?
 | [],j=>by simp[wipe]
 | v::vs,j=>by
  unfold wipe;rw[Be,Lg σ vs j,wipe_length];by_cases h:v=j
  ·subst h
   by_cases h2:v < σ.length
   ·simp[h2]
   ·simp[h2,Bq (Wm h2)]
  ·have h':¬ j=v:=λe=>h e.symm
   simp[h,h']
theorem Lw(δ:Env):∀vs:List Nat,(Bb δ vs).length=δ.length
 | []=>rfl
 | v::vs=>by unfold Bb;rw[Ec,Lw δ vs]
theorem Rm(δ:Env):∀(vs:List Nat) (j:Nat),(Bb δ vs)[j]? = if j∈vs∧j < δ.length then some .no else δ[j]?
 | [],j=>by simp[Bb]
 | v::vs,j=>by
  unfold Bb;rw[Be,Rm δ vs j,Lw];by_cases h:v=j
  ·subst h
   by_cases h2:v < δ.length
   ·simp[h2]
   ·simp[h2,Bq (Wm h2)]
  ·have h':¬ j=v:=λe=>h e.symm
   simp[h,h']
theorem Ahl{σ:L2.St}{i:Nat}{x:Option V}{vs:List Nat}(h:i∈vs):wipe (σ.set i x) vs=wipe σ vs:=by
 apply Lr
 intro j;rw[Lg,Lg,Ec,Be];by_cases e:i=j
 ·subst e
  by_cases h2:i < σ.length
  ·simp[h,h2]
  ·simp[h2]
 ·simp[e]
theorem Lf(σ:L2.St)(vs:List Nat):wipe (wipe σ vs) vs=wipe σ vs:=by
 apply Lr
 intro j;rw[Lg,wipe_length];split
 ·rename_i h;rw[Lg,if_pos h]
 ·rfl
theorem EnvRep.wipe{K:KW}{σ:L2.St}{H:Hp}{δ:Env}(er:EnvRep K σ H δ)(vs:List Nat):EnvRep K (L2.wipe σ vs) H (Bb δ vs):=by
 refine⟨by rw[wipe_length,Lw];exact er.1,λi s h=>?_⟩;rw[Rm]at h;rw[Lg,er.1]
 split at h
 ·cases h;trivial
 ·rename_i q
  rw[if_neg q];exact er.2 i s h
theorem EnvRep.set{K:KW}{σ:L2.St}{H:Hp}{δ:Env}(er:EnvRep K σ H δ)(i:Nat){v:V}{s:Slot}(h:SlotRep K H (some (some v)) s):EnvRep K (σ.set i (some v)) H (δ.set i s):=by
 refine⟨by rw[Ec,Ec];exact er.1,λj t q=>?_⟩;rw[Be]at q ⊢;by_cases e:i=j
 ·subst e
  rw[er.1];by_cases h2:i < δ.length
  ·simp[h2]at q ⊢;subst q;exact h
  ·simp[h2]at q
 ·simp[e]at q ⊢;exact er.2 j t q
mutual
def tgP(K:KW):P→TG
 | .v i=>gName i
 | .t ps=>gTup K ps.length (tgPs K ps)
def tgPs(K:KW):List P→TGs
 | []=>gNil
 | p::ps=>gCons (tgP K p) (tgPs K ps)
end
def Kp(vars:List Nat)(σ:L2.St)(δ:Env)(σ':L2.St)(δ':Env):Prop:=(∀(i:Nat) (d:Dat),δ'[i]? = some (Slot.own d)→δ[i]? = some (Slot.own d)∧σ'[i]? = σ[i]?)∧∀vs:List Nat,(∀i∈vars,i∈vs)→wipe σ' vs=wipe σ vs
theorem Kp.refl(σ:L2.St)(δ:Env):Kp [] σ δ σ δ:=⟨λ_ _ h=>⟨h,rfl⟩,λ_ _=>rfl⟩
theorem Kp.trans{v1 v2:List Nat}{σ σ1 σ2:L2.St}{δ δ1 δ2:Env}(a:Kp v1 σ δ σ1 δ1)(b:Kp v2 σ1 δ1 σ2 δ2):Kp (v1++v2) σ δ σ2 δ2:=
 ⟨λi d h=>⟨(a.1 i d (b.1 i d h).1).1,(b.1 i d h).2.trans (a.1 i d (b.1 i d h).1).2⟩,λvs h=>(b.2 vs λi hi=>h i (Cu _ hi)).trans (a.2 vs λi hi=>h i (J5 _ hi))⟩
theorem Kp.set(σ:L2.St)(δ:Env)(i:Nat)(v:Option V)(d:Dat):Kp [i] σ δ (σ.set i v) (δ.set i (.val d)):=by
 refine⟨λj e h=>?_,λvs h=>Ahl (h i (by simp))⟩;rw[Be]at h;by_cases q:i=j
 ·subst q
  by_cases h2:i < δ.length<;>simp[h2]at h
 ·simp[q]at h
  exact⟨h,by rw[Be];simp[q]⟩
mutual
theorem Akn:∀(p:P) (d:Dat) (δ:Env) (Ψ:Env→Prop),Cz p d δ Ψ→∃ δ',Ψ δ'
 | .v i,d,δ,Ψ,h=>by rw[Cz]at h;exact⟨_,h⟩
 | .t qs,d,δ,Ψ,h=>by
  cases d with
  | tup l=>rw[Cz]at h;exact(bindPs_ex qs l δ Ψ h).1
  | _=>simp only[Cz]at h
theorem bindPs_ex:∀(ps:List P) (ds:List Dat) (δ:Env) (Ψ:Env→Prop),bindPs ps ds δ Ψ→(∃ δ',Ψ δ')∧ds.length=ps.length
 | [],[],δ,Ψ,h=>by rw[bindPs]at h;exact⟨⟨_,h⟩,rfl⟩
 | [],_::_,_,_,h=>by simp[bindPs]at h
 | _::_,[],_,_,h=>by simp[bindPs]at h
 | p::ps,d::ds,δ,Ψ,h=>by
  rw[bindPs]at h;obtain⟨δ',h'⟩:=Akn p d δ _ h;have q:=bindPs_ex ps ds δ' Ψ h';exact⟨q.1,congrArg (· + 1) q.2⟩
end
theorem Wb(ps:List P)(ds:List Dat)(δ:Env)(Ψ:Env→Prop)(h:bindPs ps ds δ Ψ):ds.length=ps.length:=(bindPs_ex ps ds δ Ψ h).2
mutual
theorem Ae3{K:KW}{H:Hp}:∀(p:P) (d:Dat) (v:V) (σ:L2.St) (δ:Env) (Φ:Env→Prop) (Q:L2.St→Hp→Prop),EnvRep K σ H δ→Rep K H v d→Cz p d δ Φ→(∀ σ' δ',EnvRep K σ' H δ'→Φ δ'→Kp (Dm p) σ δ σ' δ'→Q σ' H)→tgP K p v σ H Q
 | .v i,d,v,σ,δ,Φ,Q,er,r,hb,k=>by
  rw[Cz]at hb;rw[tgP];exact k _ _ (er.set i (s:=.val d) r) hb (by rw[Dm];exact Kp.set σ δ i (some v) d)
 | .t ps,d,v,σ,δ,Φ,Q,er,r,hb,k=>by
  cases d with
  | tup l=>
   rw[Rep]at r;obtain⟨a,vs,rfl,h1,h2,h3⟩:=r;rw[Cz]at hb;rw[tgP];refine⟨a,vs,rfl,h1.sq,?_,?_⟩
   ·rw[h3.length];exact Wb ps l δ Φ hb
   ·exact bind_tgs ps l vs σ δ Φ Q er h3 hb (by rw[Dm]at k;exact k)
  | _=>simp only[Cz]at hb
theorem bind_tgs{K:KW}{H:Hp}:∀(ps:List P) (ds:List Dat) (vs:List V) (σ:L2.St) (δ:Env) (Φ:Env→Prop) (Q:L2.St→Hp→Prop),EnvRep K σ H δ→Reps K H vs ds→bindPs ps ds δ Φ→(∀ σ' δ',EnvRep K σ' H δ'→Φ δ'→Kp (varsPs ps) σ δ σ' δ'→Q σ' H)→tgPs K ps vs σ H Q
 | [],[],[],σ,δ,Φ,Q,er,r,hb,k=>by
  rw[bindPs]at hb;rw[tgPs];exact⟨rfl,k σ δ er hb (by rw[varsPs];exact Kp.refl σ δ)⟩
 | [],[],_::_,σ,δ,Φ,Q,er,r,hb,k=>by simp[Reps]at r
 | [],_::_,vs,σ,δ,Φ,Q,er,r,hb,k=>by simp[bindPs]at hb
 | _::_,[],vs,σ,δ,Φ,Q,er,r,hb,k=>by simp[bindPs]at hb
 | p::ps,d::ds,[],σ,δ,Φ,Q,er,r,hb,k=>by simp[Reps]at r
 | p::ps,d::ds,v::vs,σ,δ,Φ,Q,er,r,hb,k=>by
  rw[bindPs]at hb;rw[Reps]at r;rw[tgPs];refine⟨v,vs,rfl,Ae3 p d v σ δ _ _ er r.1 hb λσ1 δ1 er1 hb1 k1=>?_⟩;exact bind_tgs ps ds vs σ1 δ1 Φ Q er1 r.2 hb1 λσ2 δ2 er2 h2 k2=>k σ2 δ2 er2 h2 (by rw[varsPs];exact k1.trans k2)
end
def An5(z:Bool)(K:KW)(H:Hp)(v:V)(d:Dat):Prop:=if z=true then(∃a vs l,v = .ref a∧d = .tup l∧SqT K H a vs∧Reps K H vs l)else Rep K H v d
def isT:P→Bool
 | .t _=>true
 | _=>false
theorem Akm{K:KW}{H:Hp}{z:Bool}{p:P}(hz:z=true→isT p=true){d:Dat}{v:V}{σ:L2.St}{δ:Env}{Φ:Env→Prop}{Q:L2.St→Hp→Prop}(er:EnvRep K σ H δ)(r:An5 z K H v d)(hb:Cz p d δ Φ)(k:∀ σ' δ',EnvRep K σ' H δ'→Φ δ'→Kp (Dm p) σ δ σ' δ'→Q σ' H):tgP K p v σ H Q:=by
 cases z with
 | false=>exact Ae3 p d v σ δ Φ Q er r hb k
 | true=>
  match p,hz rfl with
  | .t ps,_=>
   obtain⟨a,vs,l,rfl,rfl,h1,h2⟩:=r;rw[Cz]at hb;rw[tgP];exact⟨a,vs,rfl,h1,by rw[h2.length];exact Wb ps l δ Φ hb,bind_tgs ps l vs σ δ Φ Q er h2 hb (by rw[Dm]at k;exact k)⟩
def ExtS(H H':Hp):Prop:=∀a o,H a=some o→Chg o∨H' a=some o∨((∃z,o=Gm a z)∧∃z,H' a=some (Gm a z))∨((∃ps,o = .tbl ps)∧∃ps,H' a=some (.tbl ps))
theorem ExtS.of{H H':Hp}(e:Ext H H'):ExtS H H':=λa o h=>.inr (e a o h)
theorem ExtS.refl(H:Hp):ExtS H H:=.of (.refl H)
theorem ExtS.trans{H H1 H2:Hp}(a:ExtS H H1)(b:ExtS H1 H2):ExtS H H2:=λc o h=>by
 rcases a c o h with q|q|⟨hz,z,q⟩|⟨hz,z,q⟩
 ·exact .inl q
 ·exact b c o q
 ·rcases b c _ q with r|r|⟨_,r⟩|⟨⟨_,r⟩,_⟩
  ·exact r.pot.elim
  ·exact .inr (.inr (.inl ⟨hz,z,r⟩))
  ·exact .inr (.inr (.inl ⟨hz,r⟩))
  ·exact nomatch r
 ·rcases b c _ q with r|r|⟨⟨_,r⟩,_⟩|⟨_,r⟩
  ·exact r.tbl.elim
  ·exact .inr (.inr (.inr ⟨hz,z,r⟩))
  ·exact nomatch r
  ·exact .inr (.inr (.inr ⟨hz,r⟩))
theorem ExtS.keep{H H':Hp}(e:ExtS H H'){a:Addr}{o:HO}(h:H a=some o)(n:∀z,o≠Gm a z)(nl:¬ Chg o)(nt:∀ps,o ≠ .tbl ps:=by exact λ_ q=>nomatch q):H' a=some o:=by
 rcases e a o h with q|q|⟨⟨z,q⟩,_⟩|⟨⟨z,q⟩,_⟩
 ·exact absurd q nl
 ·exact q
 ·exact absurd q (n z)
 ·exact absurd q (nt z)
mutual
theorem Rep.extS{K:KW}{H H':Hp}(e:ExtS H H'):∀(d:Dat) (v:V),Rep K H v d→Rep K H' v d
 | .non,v,h=>by rw[Rep]at h ⊢;exact h
 | .bl b,v,h=>by rw[Rep]at h ⊢;exact h
 | .int i,v,h=>by rw[Rep]at h ⊢;exact h
 | .str s,v,h=>by rw[Rep]at h ⊢;exact h
 | .tup l,v,h=>by
  rw[Rep]at h ⊢;obtain⟨a,vs,h1,h2,h3,h4⟩:=h;refine⟨a,vs,h1,?_,h3,Reps.extS e l vs h4⟩
  rcases h2 with⟨o,h,d⟩|h
  ·exact .inl ⟨o,e.keep h (λ_ q=>nomatch q) Chg.frz,d⟩
  ·exact .inr h
 | .lst l,v,h=>by
  rw[Rep]at h ⊢;obtain⟨a,vs,h1,⟨o,h2⟩,h3,h4⟩:=h;exact⟨a,vs,h1,⟨o,e.keep h2 (λ_ q=>nomatch q) Chg.frz⟩,h3,Reps.extS e l vs h4⟩
 | .dic l,v,h=>by
  rw[Rep]at h ⊢;obtain⟨a,vs,h1,⟨o,h2⟩,h3,h4⟩:=h;exact⟨a,vs,h1,⟨o,e.keep h2 (λ_ q=>nomatch q) Chg.frz⟩,h3,RepKv.extS e l vs h4⟩
 | .obj c l,v,h=>by
  rw[Rep]at h ⊢
  rcases h with h|⟨b,dx,fs,hl,h1,h2,h3⟩|⟨b,dx,fs,oe,hl,h1,h2,h3,h4,h5⟩
  ·exact .inl h
  ·exact .inr (.inl ⟨b,dx,fs,hl,h1,e.keep h2 (λ_ q=>nomatch q) Chg.ins,Reps.extS e l _ h3⟩)
  ·exact .inr (.inr ⟨b,dx,fs,oe,hl,h1,e.keep h2 (λ_ q=>nomatch q) Chg.frz,h3,e.keep h4 (λ_ q=>nomatch q) Chg.xd,Reps.extS e l _ h5⟩)
 | .pot,v,h=>by
  rw[Rep]at h ⊢;obtain⟨a,z,h1,h2⟩:=h
  rcases e a _ h2 with q|q|⟨_,z',q⟩|⟨⟨_,q⟩,_⟩
  ·exact q.pot.elim
  ·exact⟨a,z,h1,q⟩
  ·exact⟨a,z',h1,q⟩
  ·exact nomatch q
 | .scr l,v,h=>by
  rw[Rep]at h ⊢;obtain⟨a,h1,h2,h3⟩:=h;refine⟨a,h1,?_,h3⟩
  rcases h2 with⟨o,h⟩|h
  ·exact .inl ⟨o,e.keep h (λ_ q=>nomatch q) Chg.frz⟩
  ·exact .inr h
 | .kd l,v,h=>by
  rw[Rep]at h ⊢;obtain⟨a,xs,h1,⟨hm,o,h2⟩,h3,nd,h4⟩:=h;exact⟨a,xs,h1,⟨hm,o,e.keep h2 (λ_ q=>nomatch q) Chg.frz⟩,h3,nd,RepKd.extS e l xs h4⟩
theorem Reps.extS{K:KW}{H H':Hp}(e:ExtS H H'):∀(ds:List Dat) (vs:List V),Reps K H vs ds→Reps K H' vs ds
 | [],[],_=>by rw[Reps];trivial
 | [],_::_,h=>by rw[Reps]at h<;>first|exact h.elim|simp_all
 | _::_,[],h=>by rw[Reps]at h<;>first|exact h.elim|simp_all
 | d::ds,v::vs,h=>by
  rw[Reps]at h ⊢;exact⟨Rep.extS e d v h.1,Reps.extS e ds vs h.2⟩
theorem RepKv.extS{K:KW}{H H':Hp}(e:ExtS H H'):∀(ds:List (Dat×Dat)) (vs:List (Key×V)),RepKv K H vs ds→RepKv K H' vs ds
 | [],[],_=>by rw[RepKv];trivial
 | [],_::_,h=>by simp[RepKv]at h
 | (_,_)::_,[],h=>by simp[RepKv]at h
 | (c,d)::ds,(k,v)::vs,h=>by
  rw[RepKv]at h ⊢;exact⟨h.1,Rep.extS e d v h.2.1,RepKv.extS e ds vs h.2.2⟩
theorem RepKd.extS{K:KW}{H H':Hp}(e:ExtS H H'):∀(ds:List (Dat×Dat)) (vs:List (NestedKey×Addr×V)),RepKd K H vs ds→RepKd K H' vs ds
 | [],[],_=>by rw[RepKd];trivial
 | [],_::_,h=>by simp[RepKd]at h
 | (_,_)::_,[],h=>by simp[RepKd]at h
 | (c,d)::ds,(k,b,v)::vs,h=>by
  rw[RepKd]at h ⊢;exact⟨⟨h.1.1,h.1.2.1,Rep.extS e c (.ref b) h.1.2.2⟩,Rep.extS e d v h.2.1,RepKd.extS e ds vs h.2.2⟩
end
def RX(b:Bool)(K:KW)(H:Hp)(v:V)(d:Dat):Prop:=if b=true then BRep K H v d else Rep K H v d
def EXr(b:Bool)(H H':Hp):Prop:=if b=true then Ext H H' else ExtS H H'
theorem RX.b{b:Bool}{K:KW}{H:Hp}{v:V}{d:Dat}(h:RX b K H v d):BRep K H v d:=by
 cases b with
 | true=>exact h
 | false=>exact .inl h
theorem RX.ex{b:Bool}{K:KW}{H H':Hp}{v:V}{d:Dat}(e:EXr b H H')(h:RX b K H v d):RX b K H' v d:=by
 cases b with
 | true=>exact BRep.ext e h
 | false=>exact Rep.extS e d v h
theorem EXr.of{b:Bool}{H H':Hp}(e:Ext H H'):EXr b H H':=by
 cases b with
 | true=>exact e
 | false=>exact ExtS.of e
structure Wlk(K:KW)(b z:Bool)(H0:Hp)(ds:List Dat)(J:It):Prop where
 go:∀H i,EXr b H0 H→i < ds.length→J.go i H
 yld:∀H i x H' d,EXr b H0 H→ds[i]? = some d→J.yld i H x H'→Step 0 H H'∧An5 z K H' x d
 stop:∀H,EXr b H0 H→J.stop ds.length H
def PXI(X:Cx)(pins:List (Addr×Obj))(σ:L2.St)(tg:Expr)(n:Nat)(b z:Bool)(H:Hp)(Φ:Dat→Prop)(itv:Value)(s':Shared):Prop:=
 0 < s'.toks∧∃(it:Addr) (fp:List Addr) (tn:Nat→Heap→Prop) (J:It) (H':Hp) (d:Dat) (ds:List Dat),itv = .ref it∧L2.Inv X pins σ H' s'∧Turn X.prog X.w X.kw tg J fp it tn∧tn 0 s'.heap∧(∀c∈fp,FpOk X pins H' c) ∧
  Step n H H'∧Wlk X.kw b z H' ds J∧ds.length≤sizeLine∧Di d=some ds∧Φ d
def QI(X:Cx)(tg ex:Expr)(n:Nat)(b z:Bool)(f:Env→(Dat→Prop)→Prop):Prop:=
 ∀(E:Value→Shared→Prop) (pins:List (Addr×Obj)) (s:Shared) (σ:L2.St) (H:Hp) (δ:Env) (m:Nat) (Φ:Dat→Prop),0 < s.toks→L2.Inv X pins σ H s→EnvRep X.kw σ H δ→PotLe (n+m) H→f δ (λd=>(∃l,Di d=some l)∧Φ d) →
  wpAny (model X.prog X.w) X.A (eval ex X.env) (λv s1=>wpAny (model X.prog X.w) X.A (pyIter v) (PXI X pins σ tg n b z H Φ) E s1) E s
end SF
namespace SF
open PySem PySem.Spec PyProof.Rows L2
variable[TN]
abbrev RXm(b:Bool)(K:KW):Km:=λ_ H' v d=>RX b K H' v d
section
variable{X:Cx}{a b c e e2:Expr}{n n' n'':Nat}{fa fb fc:Env→(Dat→Prop)→Prop}{pos p:Pos}{bb z:Bool}{tg:Expr}
theorem Mf{pins:List (Addr×Obj)}{σ:L2.St}{H H1:Hp}{Φ:Dat→Prop}{itv:Value}{s':Shared}{d:Dat}{ds:List Dat}(t:0 < s'.toks)(st:Step n H H1)(hl:ds.length≤sizeLine)(hi:Di d=some ds)(q:Φ d)
  (h:PIE X pins σ tg (λJ H'=>H'=H1∧Wlk X.kw bb z H1 ds J) itv s'):PXI X pins σ tg n bb z H Φ itv s':=by
 obtain⟨it,fp,tn,J,H',h1,h2,h3,h4,h5,rfl,h6⟩:=h;exact⟨t,it,fp,tn,J,_,d,ds,h1,h2,h3,h4,h5,st,h6,hl,hi,q⟩
theorem RX.tupAt{K:KW}{H:Hp}{v:V}{l:List Dat}(h:RX bb K H v (.tup l)):∃a vs,v = .ref a∧SqT K H a vs∧Reps K H vs l∧l.length≤sizeLine:=
 let ⟨a,vs,h1,h2,h3,h4⟩:=h.b.tupAt
 ⟨a,vs,h1,h2.sq,h3,h4⟩
theorem RX.lstAt{K:KW}{H:Hp}{v:V}{l:List Dat}(h:RX bb K H v (.lst l)):∃a vs,v = .ref a∧SqL K H a vs∧Reps K H vs l∧l.length≤sizeLine:=
 let ⟨a,vs,h1,h2,h3,h4⟩:=h.b.lstAt
 ⟨a,vs,h1,.inl h2,h3,h4⟩
theorem Akt{K:KW}{H:Hp}{a:Addr}{l:List Dat}(h:RX bb K H (.ref a) (.tup l)):Wlk K bb false H l (Itt K a) where
 go:=λH1 i e hi=>by
  obtain⟨_,vs,e1,h1,h2,_⟩:=(h.ex e).tupAt
  cases e1
  obtain⟨v,hv,_⟩:=h2.get (Ab hi);exact⟨vs,v,h1,hv⟩
 yld:=λH1 i x H' d e hd y=>by
  obtain⟨_,vs,e1,h1,h2,_⟩:=(h.ex e).tupAt
  cases e1
  obtain⟨rfl,y⟩:=y;obtain⟨v,hv,hr⟩:=h2.get hd;rw[y vs h1]at hv
  cases hv
  exact⟨Step.refl _,hr⟩
 stop:=λH1 e=>by
  obtain⟨_,vs,e1,h1,h2,_⟩:=(h.ex e).tupAt
  cases e1
  exact⟨vs,h1,Ky h2.length⟩
theorem Aku{K:KW}{H:Hp}{a:Addr}{l:List Dat}(h:RX bb K H (.ref a) (.lst l)):Wlk K bb false H l (Itl K a) where
 go:=λH1 i e hi=>by
  obtain⟨_,vs,e1,h1,h2,_⟩:=(h.ex e).lstAt
  cases e1
  obtain⟨v,hv,_⟩:=h2.get (Ab hi);exact⟨vs,v,h1,hv⟩
 yld:=λH1 i x H' d e hd y=>by
  obtain⟨_,vs,e1,h1,h2,_⟩:=(h.ex e).lstAt
  cases e1
  obtain⟨rfl,y⟩:=y;obtain⟨v,hv,hr⟩:=h2.get hd;rw[y vs h1]at hv
  cases hv
  exact⟨Step.refl _,hr⟩
 stop:=λH1 e=>by
  obtain⟨_,vs,e1,h1,h2,_⟩:=(h.ex e).lstAt
  cases e1
  exact⟨vs,h1,Ky h2.length⟩
theorem Adx{K:KW}{H:Hp}{s:List Nat}:Wlk K bb false H (s.map λc=>.str [c]) (Its ⟨s.toArray⟩) where
 go:=λH1 i e hi=>by
  rw[Yzi]at hi;show i < s.toArray.size
  simpa using hi
 yld:=λH1 i x H' d e hd y=>by
  obtain⟨rfl,c,hc,rfl⟩:=y;rw[Af]at hd;have hc:s[i]? = some c:=by simpa using hc
  rw[hc]at hd
  cases hd
  refine⟨Step.refl _,?_⟩;show Rep _ _ _ _
  exact G8 (by simp[sizeLine])
 stop:=λH1 e=>by
  rw[Yzi];show s.toArray.size≤s.length
  simp
theorem Ady{K:KW}{H:Hp}{lo:Int}{k:Nat}:Wlk K bb false H ((Dz k).map λi:Nat=>.int (lo+i)) (Itr lo k) where
 go:=λH1 i e hi=>by
  rw[Yzi,Fg]at hi;exact hi
 yld:=λH1 i x H' d e hd y=>by
  obtain⟨rfl,rfl⟩:=y;rw[Af]at hd;by_cases hi:i < k
  ·rw[List.getElem?_range hi]at hd
   cases hd
   refine⟨Step.refl _,?_⟩;show Rep _ _ _ _
   exact De _
  ·rw[Bq (by rw[Fg];omega)]at hd
   cases hd
 stop:=λH1 e=>by
  rw[Yzi,Fg];exact Aa k
theorem J8{K:KW}{H:Hp}{T:Addr}{x y:V}{d d':Dat}(hT:H T=none)(hx:Rep K H x d)(hy:Rep K H y d'):Step 0 H (upd H T (.tup [x,y]))∧An5 true K (upd H T (.tup [x,y])) (.ref T) (.tup [d,d']):=by
 have st:Step 0 H (upd H T (.tup [x,y])):=Step.upd hT λz e=>nomatch e
 refine⟨st,T,[x,y],[d,d'],rfl,rfl,.inl (.inl upd_same),?_⟩;rw[Reps,Reps,Reps];exact⟨Rep.ext st.ext _ _ hx,Rep.ext st.ext _ _ hy,trivial⟩
theorem Ahk{K:KW}{H:Hp}{a:Addr}{l:List Dat}(h:RX bb K H (.ref a) (.lst l)):Wlk K bb true H (l.mapIdx λi d=>.tup [.int i,d]) (Ite K a) where
 go:=λH1 i e hi=>by
  obtain⟨_,vs,e1,h1,h2,_⟩:=(h.ex e).lstAt
  cases e1
  rw[Gu]at hi;obtain⟨v,hv,_⟩:=h2.get (Ab hi);exact⟨vs,v,h1,hv⟩
 yld:=λH1 i x H' d e hd y=>by
  obtain⟨_,vs,e1,h1,h2,_⟩:=(h.ex e).lstAt
  cases e1
  obtain⟨T,w,rfl,hT,rfl,y⟩:=y;rw[Ce]at hd;obtain⟨d0,hd0,rfl⟩:=Fl.mp hd;obtain⟨v,hv,hr⟩:=h2.get hd0;rw[y vs h1]at hv
  cases hv
  exact J8 hT (De _) hr
 stop:=λH1 e=>by
  obtain⟨_,vs,e1,h1,h2,_⟩:=(h.ex e).lstAt
  cases e1
  rw[Gu];exact⟨vs,h1,Ky h2.length⟩
def As6(K:PySem.W.Frag)(a:Addr):It where
 go i H:=∃(xs:List V) (x:V),SqT K H a xs∧xs[i]? = some x
 yld i H v H':=∃T x,v = .ref T∧H T=none∧H'=upd H T (.tup [.int (i:Nat),x])∧∀xs,SqT K H a xs→xs[i]? = some x
 stop i H:=∃xs:List V,SqT K H a xs∧xs.length≤i
theorem Adk{h:Heap}{e a it:Addr}{c:Int}{old:Value}{items:Array Value}{i:Nat}(he:IsEnum h e it c old)(ht:h.IsTuple a items)(hi:h.IsTupleIter it a i):e≠a∧a≠it:=by
 obtain⟨o,ho,hc,_⟩:=ht;obtain⟨o2,ho2,hc2,_⟩:=hi;refine⟨λq=>?_,λq=>?_⟩
 ·have he':h.get? e=some _:=he
  rw[q,ho]at he';have q2:=Aj.inj he';rw[q2]at hc;exact absurd (Value.type.inj hc) (by decide)
 ·rw[q,ho2]at ho
  rw[Aj.inj ho,hc]at hc2;exact absurd (Value.type.inj hc2) (by decide)
theorem Acg{prog:Program}{w:World}{A:Around}(hh:A.handled=none){it t:Addr}{items:Array Value}{i:Nat}(hx:items[i]? = none) :
  Draws prog w A it [it,t] i (λ_ _=>True) (λj h=>j=i∧h.IsTupleIter it t i∧h.IsTuple t items) where
 live:=λ_ _ st=>by obtain⟨_,⟨o,ho,_⟩,_⟩:=st;exact⟨o,ho⟩
 frame:=λ_ _ _ st hk=>⟨st.1,st.2.1.at (λo e=>hk it (by simp) o e),st.2.2.at (λo e=>hk t (by simp) o e)⟩
 item:=λj s Q E hj st _=>absurd st.1 (Cp hj)
 done:=λs Q E st hE=>wpAny_nextOf_tuple_end hh st.2.1 st.2.2 hx hE
theorem Ab9{P:Program}{w:World}{K:PySem.W.Frag}{elts:List Expr}{kk:Nat}{tpos:Pos}(a e it:Addr) :
  Turn P w K (.Tuple elts kk tpos) (As6 K a) [e,it] e (λi h=>(∃old,IsEnum h e it ((i:Nat):Int) old)∧h.IsTupleIter it a i∧e≠it) where
 mem:=Dd ..
 obj:=λi h ⟨⟨old,he⟩,⟨o,ho,hc,hd⟩,_⟩ b hb=>by
  rcases Ad.mp hb with z|z
  ·subst z;exact⟨_,he,λv q=>by cases q⟩
  ·rw[Aq.mp z];exact⟨o,ho,λv q=>by rw[hd]at q;cases q⟩
 keep:=λi h h' ⟨⟨old,he⟩,hi,hne⟩ k=>⟨⟨old,k e (by simp) _ he⟩,hi.at (λo q=>k it (by simp) o q),hne⟩
 item:=λ{X} hP hw hK hc i pins s σ H E I hf ⟨⟨old,he⟩,hit,hne⟩ ⟨xs,x,hq,hx⟩=>by
  subst hP hw hK;obtain⟨its,rv,p,hz⟩:=I.tuple hq;obtain⟨u,hu,ru⟩:=rv.get hx;have pt:s.heap.IsTuple a its.toArray:=p;obtain⟨nea,nai⟩:=Adk he pt hit;have hel:e < s.heap.objs.size:=Heap.lt_size he;have hil:it < s.heap.objs.size:=by obtain⟨_,q,_⟩:=hit;exact Heap.lt_size q
  have hlt:i < its.toArray.size:=by
   rcases Nat.lt_or_ge i its.length with q|q
   ·simpa using q
   ·rw[Bq q]at hu;cases hu
  refine wpAny_pyNext_enum_itemC (Draws.tuple (prog:=X.prog) (w:=X.w) (A:=X.A.in1) (I.ok.hd hc) it a nai its.toArray) he ⟨hit,pt⟩ hlt hne (by simp[hne,nea]) λy h' tk hy ho hst' hT hsz hk=>?_
  obtain rfl:y=u:=by
   have e1:its.toArray[i]? = some y:=hy;rw[Fy,hu]at e1;exact(Aj.inj e1).symm
  refine⟨_,rfl,wpAny_letOwnedTupleGo_enum (s:={ s with heap:=h',toks:=tk+1 }) ho λh'' he' sb=>?_⟩;have hT2:h''.get? s.heap.objs.size=some { cls:=.type "tuple", data:=.seq #[.int i tk,y] }:=(sb.2 _ (Ne.symm (Cp hel))).trans hT;have new:ObjOk X.prog X.w (upd H s.heap.objs.size (.tup [.int (i:Nat),x])) h'' s.heap.objs.size (.tup [.int (i:Nat),x]):=by
   refine⟨?_,[.int i tk,y],.cons ⟨_,rfl⟩ (.cons ru .nil),⟨_,hT2,rfl,_,rfl⟩⟩;show 2≤sizeLine
   decide
  have I1:=I.turnedNew (t':=tk+1) (ch:=[e,it]) (λb ob hb q=>(sb.2 b λz=>hb (by rw[z];simp)).trans (hk b ob (λz=>hb (by rw[z];simp)) (λz=>hb (by rw[z];simp)) q)) hf (Aa _) new;refine⟨.ref s.heap.objs.size,_,I1,rfl,⟨_,x,rfl,I.hok.fresh (Aa _),rfl,λys hy=>by rw[I.tuple_inj hy hq];exact hx⟩,⟨⟨y,?_⟩,hst'.1.at (λo q=>(sb.2 it (Ne.symm hne)).trans q),hne⟩,λb hb=>?_⟩
  ·have e1:((i+1:Nat):Int)=(i:Int)+1:=Int.natCast_succ i
   rw[e1];exact he'
  ·have hb':b < s.heap.objs.size:=by
    rcases Ad.mp hb with z|z
    ·rw[z];exact hel
    ·rw[Aq.mp z];exact hil
   rw[upd_ne (Cp hb')];exact(hf b hb).1
 done:=λ{X} hP hw hK hc i pins s σ H E I hf ⟨⟨old,he⟩,hit,hne⟩ ⟨xs,hq,hx⟩=>by
  subst hP hw hK;obtain⟨its,rv,p,hz⟩:=I.tuple hq;obtain⟨f0,f1,f2,f3,f4,f5⟩:=hf it (by simp);have hl:=rv.length;exact wpAny_pyNext_enum_endD (Acg (prog:=X.prog) (w:=X.w) (A:=X.A.in1) (items:=its.toArray) (i:=i) (I.ok.hd hc) (by rw[Fy];exact Bq (by omega))) he ⟨rfl,hit,(p:s.heap.IsTuple a its.toArray)⟩ λh' eb=>⟨rfl,I.turned (t':=s.toks) (λb o hb q=>eb b o hb q) f0 f1 f3 f4 f5⟩
 self:=λA i s Q E st h=>wpAny_pyIter_enum st.1.choose_spec h
theorem Agt{v:Value}{o:Obj}{H:Heap→Prop}(B:Begins v o H) :
  Meets (Builtin.«enumerate.__new__» ⟨[.type "enumerate", v],[]⟩) (λ_ R s=>H s.heap ∧
   R (.ok (.ret (.ref (s.heap.push o).objs.size))) { s with heap:=(s.heap.push o).push { cls:=.type "enumerate", data:=.fields #[.none,.bool false,.ref s.heap.objs.size,rawInt 0,.none,.none] } }):=by
 have cls:=sub_enumerate;refine .of_wp λprog w A R s k=>?_
 have begun:∀A' E' Q',_→_→wpAny (model prog w) A' (pyIter v) Q' E' s:=λA' E' Q'=>B.iter prog w A' E' s Q'
 wp_walk using begun,k.1
 refine wpAny_stack_any λ_=>wpAny_pure ?_
 split<;>(try (rename_i c _ _ _ _ _;cases c == Value.type "enumerate"))<;>(wp_walk using begun,k.1;exact⟨_,rfl,k.2⟩)
theorem Qm{prog:Program}{w:World}{A:Around}{E:Value→Shared→Prop}{s:Shared}{v:Value}{o:Obj}{H:Heap→Prop}{Q:Value→Shared→Prop}(B:Begins v o H)(h1:H s.heap)
  (h:∀h',IsEnum h' (s.heap.objs.size+1) s.heap.objs.size 0 .none→h'.get? s.heap.objs.size=some o→h'.objs.size=s.heap.objs.size+2 →
   (∀b o,s.heap.get? b=some o→h'.get? b=some o)→Q (.ref (s.heap.objs.size+1)) { s with heap:=h' }):wpAny (model prog w) A (call (.type "enumerate") [v]) Q E s:=by
 have hz:(s.heap.push o).objs.size=s.heap.objs.size+1:=by rw[Heap.size_push]
 refine callType_new F.called_enumerate (by decide) (F.typeCall_enumerate_1 _) (F.newCall_enumerate_1 _) (λobj=>F.args_object_init_2 obj _) F.entry_enumerate_new (Agt B) ⟨h1,?_⟩;show _∧_
 rw[hz];have he:IsEnum ((s.heap.push o).push { cls:=.type "enumerate", data:=.fields #[.none,.bool false,.ref s.heap.objs.size,rawInt 0,.none,.none] }) (s.heap.objs.size+1) s.heap.objs.size 0 .none:=by
  have q:=Heap.get?_push_size (s.heap.push o) (o:={ cls:=.type "enumerate", data:=.fields #[.none,.bool false,.ref s.heap.objs.size,rawInt 0,.none,.none] }) rfl;rw[hz]at q;exact q
 exact⟨⟨_,he,rfl⟩,h _ he (Heap.get?_push_of_some _ (Heap.get?_push_size _ B.free)) (by rw[Heap.size_push,hz]) λb o x=>Heap.get?_push_of_some _ (Heap.get?_push_of_some _ x)⟩
theorem Afh{K:KW}{H:Hp}{a:Addr}{l:List Dat}(h:RX bb K H (.ref a) (.tup l)):Wlk K bb true H (l.mapIdx λi d=>.tup [.int i,d]) (As6 K a) where
 go:=λH1 i e hi=>by
  obtain⟨_,vs,e1,h1,h2,_⟩:=(h.ex e).tupAt
  cases e1
  rw[Gu]at hi;obtain⟨v,hv,_⟩:=h2.get (Ab hi);exact⟨vs,v,h1,hv⟩
 yld:=λH1 i x H' d e hd y=>by
  obtain⟨_,vs,e1,h1,h2,_⟩:=(h.ex e).tupAt
  cases e1
  obtain⟨T,w,rfl,hT,rfl,y⟩:=y;rw[Ce]at hd;obtain⟨d0,hd0,rfl⟩:=Fl.mp hd;obtain⟨v,hv,hr⟩:=h2.get hd0;rw[y vs h1]at hv
  cases hv
  exact J8 hT (De _) hr
 stop:=λH1 e=>by
  obtain⟨_,vs,e1,h1,h2,_⟩:=(h.ex e).tupAt
  cases e1
  rw[Gu];exact⟨vs,h1,Ky h2.length⟩
theorem Ahj{K:KW}{H:Hp}{a b:Addr}{l r:List Dat}(h:RX bb K H (.ref a) (.lst l))(h':RX bb K H (.ref b) (.lst r)):Wlk K bb true H (Gr (λp q=>.tup [p,q]) l r) (Itz K a b) where
 go:=λH1 i e hi=>by
  obtain⟨_,vs,e1,h1,h2,_⟩:=(h.ex e).lstAt
  cases e1
  obtain⟨_,ws,e2,k1,k2,_⟩:=(h'.ex e).lstAt
  cases e2
  rw[Ea]at hi;obtain⟨v,hv,_⟩:=h2.get (Ab (show i < l.length by omega));obtain⟨w,hw,_⟩:=k2.get (Ab (show i < r.length by omega));exact⟨vs,ws,v,w,h1,k1,hv,hw⟩
 yld:=λH1 i x H' d e hd y=>by
  obtain⟨_,vs,e1,h1,h2,_⟩:=(h.ex e).lstAt
  cases e1
  obtain⟨_,ws,e2,k1,k2,_⟩:=(h'.ex e).lstAt
  cases e2
  obtain⟨T,x,y',rfl,hT,rfl,y1,y2⟩:=y;rw[Ji]at hd
  cases q1:l[i]? with
  | none=>simp[q1]at hd
  | some d1=>
   cases q2:r[i]? with
   | none=>simp[q1,q2]at hd
   | some d2=>
    simp only[q1,q2,Aj.injEq]at hd;subst hd;obtain⟨v,hv,hr⟩:=h2.get q1;obtain⟨w,hw,hs⟩:=k2.get q2;rw[y1 vs h1]at hv;rw[y2 ws k1]at hw
    cases hv
    cases hw
    exact J8 hT hr hs
 stop:=λH1 e=>by
  obtain⟨_,vs,e1,h1,h2,_⟩:=(h.ex e).lstAt
  cases e1
  obtain⟨_,ws,e2,k1,k2,_⟩:=(h'.ex e).lstAt
  cases e2
  rw[Ea];refine⟨vs,ws,h1,k1,?_⟩;have e3:=h2.length;have e4:=k2.length;omega
theorem Ahg{K:KW}{H:Hp}{a b:Addr}{l r:List Dat}(h:RX bb K H (.ref a) (.tup l))(h':RX bb K H (.ref b) (.tup r)):Wlk K bb true H (Gr (λp q=>.tup [p,q]) l r) (RZ.ItzT K a b) where
 go:=λH1 i e hi=>by
  obtain⟨_,vs,e1,h1,h2,_⟩:=(h.ex e).tupAt
  cases e1
  obtain⟨_,ws,e2,k1,k2,_⟩:=(h'.ex e).tupAt
  cases e2
  rw[Ea]at hi;obtain⟨v,hv,_⟩:=h2.get (Ab (show i < l.length by omega));obtain⟨w,hw,_⟩:=k2.get (Ab (show i < r.length by omega));exact⟨vs,ws,v,w,h1,k1,hv,hw⟩
 yld:=λH1 i x H' d e hd y=>by
  obtain⟨_,vs,e1,h1,h2,_⟩:=(h.ex e).tupAt
  cases e1
  obtain⟨_,ws,e2,k1,k2,_⟩:=(h'.ex e).tupAt
  cases e2
  obtain⟨T,x,y',rfl,hT,rfl,y1,y2⟩:=y;rw[Ji]at hd
  cases q1:l[i]? with
  | none=>simp[q1]at hd
  | some d1=>
   cases q2:r[i]? with
   | none=>simp[q1,q2]at hd
   | some d2=>
    simp only[q1,q2,Aj.injEq]at hd;subst hd;obtain⟨v,hv,hr⟩:=h2.get q1;obtain⟨w,hw,hs⟩:=k2.get q2;rw[y1 vs h1]at hv;rw[y2 ws k1]at hw
    cases hv
    cases hw
    exact J8 hT hr hs
 stop:=λH1 e=>by
  obtain⟨_,vs,e1,h1,h2,_⟩:=(h.ex e).tupAt
  cases e1
  obtain⟨_,ws,e2,k1,k2,_⟩:=(h'.ex e).tupAt
  cases e2
  rw[Ea];refine⟨vs,ws,h1,k1,?_⟩;have e3:=h2.length;have e4:=k2.length;omega
theorem Air(ha:QE X a n (RXm bb X.kw) fa):QI X tg a n bb false fa:=λE pins s σ H δ m Φ ht I er pl hf=>by
 refine thn (ha E pins s σ H δ m _ ht I er pl hf) λu s1 ⟨t1,x,H1,d,I1,r1,st1,b1,⟨l,hl⟩,q1⟩=>?_
 have b1:RX bb X.kw H1 x d:=b1
 cases d with
 | tup l0=>
  obtain⟨a,vs,rfl,h1,h2,h3⟩:=b1.tupAt
  cases r1
  obtain⟨its,rv,p,hz⟩:=I1.tuple h1;refine wpAny_pyIter_tuple (show s1.heap.IsTuple a its.toArray from p) ?_;exact Mf t1 st1 h3 rfl q1 (pi_one (tk:=s1.toks) I1 _ (turn_tuple a _) ⟨_,Heap.get?_push_size _ rfl,rfl,rfl⟩ ⟨rfl,Akt b1⟩)
 | lst l0=>
  obtain⟨a,vs,rfl,h1,h2,h3⟩:=b1.lstAt
  cases r1
  obtain⟨its,rv,p,hz⟩:=I1.list h1;refine wpAny_pyIter_list p.isList ?_;exact Mf t1 st1 h3 rfl q1 (pi_one (tk:=s1.toks) I1 _ (turn_list a _) ⟨_,Heap.get?_push_size _ rfl,rfl,rfl⟩ ⟨rfl,Aku b1⟩)
 | str l0=>
  obtain⟨rfl,h3⟩:=b1.b.strAt;obtain⟨t,rfl⟩:=r1;have hl:(l0.map λc=>Dat.str [c]).length≤sizeLine:=by rw[Yzi];exact h3
  cases ha:(⟨l0.toArray⟩:Str).cps.all (· < 128)
  ·exact wpAny_pyIter_wide ha (Mf (s':={ s1 with heap:=_ }) t1 st1 hl rfl q1 (pi_one (tk:=s1.toks) I1 _ (turn_str _ _ t "str_iterator" (.inr rfl)) ⟨_,Heap.get?_push_size _ rfl,rfl,rfl⟩ ⟨rfl,Adx⟩))
  ·exact wpAny_pyIter_ascii ha (Mf (s':={ s1 with heap:=_ }) t1 st1 hl rfl q1 (pi_one (tk:=s1.toks) I1 _ (turn_str _ _ t "str_ascii_iterator" (.inl rfl)) ⟨_,Heap.get?_push_size _ rfl,rfl,rfl⟩ ⟨rfl,Adx⟩))
 | _=>cases hl
theorem Rv{R:Km}{RL:Hp→List V→List Dat→Prop}(hc:∀H H' v d,R H H' v d→RL H' [v] [d])(ha:QE X a n R fa)(hs:starEach [a] X.env=[(false,eval a X.env)]):QA X [a] n RL (λδ Q=>fa δ λd=>Q [d]):=λpos E pins s σ H δ m Φ ht I er pl hf=>by
 rw[hs];show wpAny _ _ (spliced ((false,eval a X.env)::[])) _ _ s
 exact Calls.spliced_cons (thn (ha E pins s σ H δ m _ ht I er pl hf) λu s1 ⟨t1,x,H1,dx,I1,r1,st1,b1,q1⟩=>Calls.spliced_nil ⟨t1,[x],H1,[dx],I1,.cons r1 .nil,st1,hc _ _ _ _ b1,q1⟩)
abbrev RL1(K:KW):Hp→List V→List Dat→Prop:=λH vs ds=>∃v d,vs=[v]∧ds=[d]∧Rep K H v d
def Asg(l:List Dat)(Q:Dat→Prop):Prop:=
 match l with
 | [d]=>Gz d Q
 | _=>False
theorem Ais(hg:Gl X "range")(hm:X.mg "range" = none)(ha:QE X a n (RV X.kw) fa)(hs:starEach [a] X.env=[(false,eval a X.env)]):QI X tg (.Call (.Name "range" p) [a] [] pos) n bb false (λδ Q=>fa δ λx=>Gz x Q):=λE pins s σ H δ m Φ ht I er pl hf=>by
 refine Call_ (ld_blt I hg hm boot_range (PyProof.Rows.callWith_type1 (thn (Rv (RL:=RL1 X.kw) (λ_ _ v d h=>⟨v,d,rfl,rfl,h⟩) ha hs pos E pins s σ H δ m (λds=>Asg ds λd=>(∃l,Di d=some l)∧Φ d) ht I er pl hf) λus s1 ⟨t1,vs,H1,ds,I1,r1,st1,b1,q1⟩=>?_) hs rfl));obtain⟨v,d,rfl,rfl,h⟩:=b1
 replace q1:Gz d (λd=>(∃l,Di d=some l)∧Φ d):=q1
 unfold Gz at q1
 split at q1
 ·rename_i k
  rw[Rep]at h;subst h;obtain⟨⟨h1,h2⟩,_,q⟩:=q1
  cases r1 with
  | cons r rr=>
   cases rr
   obtain⟨t,rfl⟩:=r;unfold big at h2;refine Cr t1 (call_range_1 (range_it I1 (R:=λJ H'=>H'=H1∧Wlk X.kw bb false H1 ((Dz k.toNat).map λi:Nat=>.int i) J) (by omega) (by omega) (by omega) (by omega) ⟨rfl,?_⟩)) λw s2 t2 h2'=>Cr t2 h2' λw s3 t3 h3=>Mf t3 st1 ?_ rfl q h3
   ·have w:=Ady (bb:=bb) (K:=X.kw) (H:=H1) (lo:=0) (k:=k.toNat)
    have ee:(λi:Nat=>Dat.int (0+i))=λi:Nat=>Dat.int i:=by funext i;rw[Int.zero_add]
    rw[ee]at w;rw[Int.sub_zero];exact w
   ·rw[Yzi,Fg];unfold sizeLine;omega
 ·exact q1.elim
abbrev RL2(K:KW)(R:KW→Hp→V→Dat→Prop):Hp→List V→List Dat→Prop:=λH vs ds=>∃v w d e,vs=[v,w]∧ds=[d,e]∧R K H v d∧R K H w e
theorem Ap9{R:KW→Hp→V→Dat→Prop}(hR:∀H H' v d,Ext H H'→R X.kw H v d→R X.kw H' v d)(ha:QE X a n (λ_ H' v d=>R X.kw H' v d) fa)(hb:QE X b n' (λ_ H' v d=>R X.kw H' v d) fb)(hs:starEach [a,b] X.env=(false,eval a X.env)::starEach [b] X.env)(hs2:starEach [b] X.env=[(false,eval b X.env)]) :
  QA X [a,b] (n+n') (RL2 X.kw R) (λδ Q=>fa δ λd=>fb δ λe=>Q [d,e]):=λpos E pins s σ H δ m Φ ht I er pl hf=>by
 rw[hs,hs2];show wpAny _ _ (spliced ((false,eval a X.env)::(false,eval b X.env)::[])) _ _ s
 refine Calls.spliced_cons (thn (ha E pins s σ H δ (n'+m) _ ht I er (pl.mono (by omega)) hf) λu s1 ⟨t1,x,H1,dx,I1,r1,st1,b1,q1⟩=>?_);refine Calls.spliced_cons (thn (hb E pins s1 σ H1 δ m _ t1 I1 (er.ext st1.ext) (st1.pot _ (pl.mono (by omega))) q1) λu2 s2 ⟨t2,y,H2,dy,I2,r2,st2,b2,q2⟩=>?_);exact Calls.spliced_nil ⟨t2,[x,y],H2,[dx,dy],I2,.cons r1 (.cons r2 .nil),st1.trans st2,⟨x,y,dx,dy,rfl,rfl,hR _ _ _ _ st2.ext b1,b2⟩,q2⟩
theorem Aqp{e:Expr}{env:PySem.Env}{pos:Pos}(h:starEach [e] env=[(false,eval e env)]):(backTo pos (starEach [e] env)).any (·.1)=false:=by rw[h];rfl
def Atk(l:List Dat)(Q:Dat→Prop):Prop:=
 match l with
 | [d]=>∃l,Adl d l∧Q (.lst (l.mapIdx λi d=>.tup [.int i,d]))
 | _=>False
variable{elts:List Expr}{kk:Nat}{tpos:Pos}
theorem Ad7(hg:Gl X "enumerate")(hm:X.mg "enumerate" = none)(ha:QE X a n (RXm bb X.kw) fa)(hs:starEach [a] X.env=[(false,eval a X.env)]) :
  QI X (.Tuple elts kk tpos) (.Call (.Name "enumerate" p) [a] [] pos) n bb true (λδ Q=>fa δ λx=>∃l,Adl x l∧Q (.lst (l.mapIdx λi d=>.tup [.int i,d]))):=λE pins s σ H δ m Φ ht I er pl hf=>by
 refine Call_ (ld_blt I hg hm boot_enumerate (PyProof.Rows.callWith_type1 (thn (Rv (RL:=λH vs ds=>∃v d,vs=[v]∧ds=[d]∧RX bb X.kw H v d) (λ_ _ v d h=>⟨v,d,rfl,rfl,h⟩) ha hs pos E pins s σ H δ m (λds=>Atk ds λd=>(∃l,Di d=some l)∧Φ d) ht I er pl hf) λus s1 ⟨t1,vs,H1,ds,I1,r1,st1,b1,q1⟩=>?_) hs rfl));obtain⟨v,d,rfl,rfl,h⟩:=b1;obtain⟨l,rfl|rfl,_,q⟩:=q1
 ·obtain⟨a,vs,rfl,h1,h2,h3⟩:=h.lstAt
  obtain⟨_,rfl,r⟩:=r1.one
  cases r
  obtain⟨its,rv,p',hz⟩:=I1.list h1;have hl:(l.mapIdx λi d=>Dat.tup [.int i,d]).length≤sizeLine:=by rw[Gu];exact h3
  refine Cr t1 (Q:=λw s2=>wpAny (model X.prog X.w) X.A (pyIter w) (PIE X pins σ (.Tuple elts kk tpos) λJ H'=>H'=H1∧Wlk X.kw bb true H1 (l.mapIdx λi d=>.tup [.int i,d]) J) E s2) (call_enumerate_list p'.isList λh' he hit hsz hk=>wpAny_pyIter_enum he ?_) λw s2 t2 h2'=>Cr t2 h2' λw s3 t3 h3=>Mf t3 st1 hl rfl q h3
  have I2:L2.Inv X pins σ H1 { s1 with heap:=h' }:=I1.kept (t':=s1.toks) hk;refine⟨s1.heap.objs.size+1,[s1.heap.objs.size+1,s1.heap.objs.size],_,_,H1,rfl,I2,turn_enum a (s1.heap.objs.size+1) s1.heap.objs.size,⟨⟨.none,he⟩,hit,Nat.succ_ne_self _⟩,λb hb=>?_,rfl,Ahk h⟩;have hle:s1.heap.objs.size≤b:=by
   have e':b=s1.heap.objs.size+1∨b=s1.heap.objs.size:=by simpa using hb
   rcases e' with z|z<;>(rw[z];first|exact Aa _|exact El _ _)
  exact I1.fpOk hle (I1.hok.fresh hle)
 ·obtain⟨a,vs,rfl,h1,h2,h3⟩:=h.tupAt
  obtain⟨_,rfl,r⟩:=r1.one
  cases r
  obtain⟨its,rv,p',hz⟩:=I1.tuple h1;have pt:s1.heap.IsTuple a its.toArray:=p';have hl:(l.mapIdx λi d=>Dat.tup [.int i,d]).length≤sizeLine:=by rw[Gu];exact h3
  refine Cr t1 (Q:=λw s2=>wpAny (model X.prog X.w) X.A (pyIter w) (PIE X pins σ (.Tuple elts kk tpos) λJ H'=>H'=H1∧Wlk X.kw bb true H1 (l.mapIdx λi d=>.tup [.int i,d]) J) E s2) (Qm (begins_tuple a its.toArray) pt λh' he hit hsz hk=>wpAny_pyIter_enum he ?_) λw s2 t2 h2'=>Cr t2 h2' λw s3 t3 h3=>Mf t3 st1 hl rfl q h3
  have I2:L2.Inv X pins σ H1 { s1 with heap:=h' }:=I1.kept (t':=s1.toks) hk;refine⟨s1.heap.objs.size+1,[s1.heap.objs.size+1,s1.heap.objs.size],_,_,H1,rfl,I2,Ab9 a (s1.heap.objs.size+1) s1.heap.objs.size,⟨⟨.none,he⟩,⟨_,hit,rfl,rfl⟩,Nat.succ_ne_self _⟩,λb hb=>?_,rfl,Afh h⟩;have hle:s1.heap.objs.size≤b:=by
   have e':b=s1.heap.objs.size+1∨b=s1.heap.objs.size:=by simpa using hb
   rcases e' with z|z<;>(rw[z];first|exact Aa _|exact El _ _)
  exact I1.fpOk hle (I1.hok.fresh hle)
def As5(K:PySem.W.Frag)(a b:Addr):It where
 go:=λi H=>∃(vs ws:List V) (v w:V),SqL K H a vs∧SqT K H b ws∧vs[i]? = some v∧ws[i]? = some w
 yld:=λi H v H'=>∃(T:Addr) (x y:V),v = .ref T∧H T=none∧H'=upd H T (.tup [x,y])∧(∀vs,SqL K H a vs→vs[i]? = some x)∧∀ws,SqT K H b ws→ws[i]? = some y
 stop:=λi H=>∃vs ws:List V,SqL K H a vs∧SqT K H b ws∧i≤vs.length∧i≤ws.length∧(i=vs.length∨i=ws.length)
theorem Ls{z TI TO i1 i2 a b:Addr}(D:ZipApart z TI TO i1 i2 a b):ZipSep2 z TI TO i1 i2 [i1,a] [i2,b] where
 TIz:=D.TIz
 TOz:=D.TOz
 TITO:=D.TITO
 TIi1:=D.TIi1
 mem1:=by simp
 zf1:=by simp only[Ad,Yzm,or_false,not_or];exact⟨D.i1z.symm,D.l1z.symm⟩
 Tf1:=by simp only[Ad,Yzm,or_false,not_or];exact⟨D.TOi1,D.l1TO.symm⟩
 TIi2:=D.TIi2
 mem2:=by simp
 zf2:=by simp only[Ad,Yzm,or_false,not_or];exact⟨D.i2z.symm,D.l2z.symm⟩
 Tf2:=by simp only[Ad,Yzm,or_false,not_or];exact⟨D.TOi2,D.l2TO.symm⟩
 sep1_2:=by simp only[Ad,Yzm,or_false,not_or];exact⟨D.i12,D.l2i1.symm⟩
 sep2_1:=by simp only[Ad,Yzm,or_false,not_or];exact⟨D.i12.symm,D.l1i2.symm⟩
theorem Anm{z TI TO i1 i2 c:Addr}{p:Addr→Prop}(h:c∈[z,TI,TO,i1,i2])(a1:p z)(a2:p TI)(a3:p TO)(a4:p i1)(a5:p i2):p c:=by
 simp only[Ad,Yzm,or_false]at h
 rcases h with e|e|e|e|e<;>rw[e]<;>assumption
def stM(z TI TO i1 i2 a b:Addr)(i:Nat)(h:Heap):Prop:=IsZip h z TI TO .none∧IsPair h TI (.ref i1) (.ref i2)∧(∃x y,IsPair h TO x y)∧h.IsListIter i1 a i∧h.IsTupleIter i2 b i
theorem Afj{P:Program}{w:World}{K:PySem.W.Frag}{a b z TI TO i1 i2:Addr}(D:ZipApart z TI TO i1 i2 a b):Turn P w K (.Tuple elts kk tpos) (As5 K a b) [z,TI,TO,i1,i2] z (stM z TI TO i1 i2 a b) where
 mem:=Dd
 obj:=λi h ⟨hz,hp,⟨x,y,hq⟩,⟨o1,e1,_,d1⟩,⟨o2,e2,_,d2⟩⟩ c hc=>
  Anm (p:=λc=>∃o,h.get? c=some o∧∀v,o.data ≠ .cell v) hc ⟨_,hz,λ_ q=>nomatch q⟩ ⟨_,hp,λ_ q=>nomatch q⟩ ⟨_,hq,λ_ q=>nomatch q⟩ ⟨o1,e1,λ_ q=>by rw[d1]at q;cases q⟩ ⟨o2,e2,λ_ q=>by rw[d2]at q;cases q⟩
 keep:=λi h h' ⟨hz,hp,⟨x,y,hq⟩,h1,h2⟩ k=>
  ⟨k z (by simp) _ hz,k TI (by simp) _ hp,⟨x,y,k TO (by simp) _ hq⟩,h1.at λo e=>k i1 (by simp) o e,h2.at λo e=>k i2 (by simp) o e⟩
 item:=λ{X} hP hw hK hc i pins s σ H E I hf ⟨hz,hp,⟨x0,y0,hq⟩,h1,h2⟩ ⟨vs,ws,v,w',hv,hw',gv,gw⟩=>by
  subst hP hw hK;obtain⟨its,rv,p1,_⟩:=I.list hv;obtain⟨its2,rv2,p2,_⟩:=I.tuple hw';obtain⟨u,hu,ru⟩:=rv.get gv;obtain⟨u2,hu2,ru2⟩:=rv2.get gw;have hl:i < its.length:=(Ag.mp hu).1;have hl2:i < its2.length:=(Ag.mp hu2).1;have zlt:z < s.heap.objs.size:=Heap.lt_size hz;have hd:X.A.in1.handled=none:=I.ok.hd hc;refine wpAny_pyNext_zipD2_item (Ls D) (Draws.list hd i1 a D.l1i1 its.toArray) (Draws.tuple hd i2 b D.l2i2 its2.toArray) hz hp hq ⟨h1,p1.isList⟩ ⟨h2,p2⟩ (by rw[Ao];exact hl) (by rw[Ao];exact hl2) λx1 x2 h' tk y1 y2 z' q' d1 d2 new hsz hk=>?_
  have e1:x1=u:=by rw[Fy,hu]at y1;exact(Aj.inj y1).symm
  have e2:x2=u2:=by rw[Fy,hu2]at y2;exact(Aj.inj y2).symm
  subst e1 e2;refine⟨_,rfl,wpAny_letOwnedTupleGo_zip (s:={ s with heap:=h',toks:=tk }) z' λh'' z'' sb=>?_⟩;have lay:ObjOk X.prog X.w (upd H s.heap.objs.size (.tup [v,w'])) h'' s.heap.objs.size (.tup [v,w']):=
   ⟨by show 2≤sizeLine;decide,[x1,x2],.cons ru (.cons ru2 .nil),⟨_,(sb.2 _ (Jb zlt)).trans new,rfl,_,rfl⟩⟩
  have old:∀c o,c∉[z,TI,TO,i1,i2]→s.heap.get? c=some o→h''.get? c=some o:=λc o hb q=>by
   simp only[Ad,Yzm,or_false,not_or]at hb;exact(sb.2 c hb.1).trans (hk c o hb.1 hb.2.2.1 hb.2.2.2.1 hb.2.2.2.2 q)
  refine⟨.ref s.heap.objs.size,_,I.turnedNew (t':=tk) old hf (Aa _) lay,rfl,⟨_,v,w',rfl,I.hok.fresh (Aa _),rfl,λl hl=>by rw[I.list_inj hl hv];exact gv,λl hl=>by rw[I.tuple_inj hl hw'];exact gw⟩,⟨z'',?_,⟨x1,x2,?_⟩,?_,?_⟩,λc hcm=>?_⟩
  ·exact(sb.2 _ D.TIz).trans (hk _ _ D.TIz D.TITO D.TIi1 D.TIi2 hp)
  ·exact(sb.2 _ D.TOz).trans q'
  ·exact d1.1.at λo q=>(sb.2 _ D.i1z).trans q
  ·exact d2.1.at λo q=>(sb.2 _ D.i2z).trans q
  ·have lt:c < s.heap.objs.size:=by
    obtain⟨_,f1,_⟩:=h1;obtain⟨_,f2,_⟩:=h2;exact Anm (p:=λc=>c < s.heap.objs.size) hcm zlt (Heap.lt_size hp) (Heap.lt_size hq) (Heap.lt_size f1) (Heap.lt_size f2)
   rw[upd_ne (Cp lt)];exact(hf c hcm).1
 done:=λ{X} hP hw hK hc i pins s σ H E I hf ⟨hz,hp,⟨x0,y0,hq⟩,h1,h2⟩ ⟨vs,ws,hv,hw',n1,n2,hend⟩=>by
  subst hP hw hK;obtain⟨its,rv,p1,_⟩:=I.list hv;obtain⟨its2,rv2,p2,_⟩:=I.tuple hw';have l1:=rv.length;have l2:=rv2.length;have hd:X.A.in1.handled=none:=I.ok.hd hc;refine wpAny_pyNext_zipD2_end (Ls D) (Draws.list hd i1 a D.l1i1 its.toArray) (Draws.tuple hd i2 b D.l2i2 its2.toArray) hz hp hq ⟨h1,p1.isList⟩ ⟨h2,p2⟩ (by rw[Ao];omega) (by rw[Ao];omega) (by rw[Ao,Ao];omega) λh' tk hk=>⟨rfl,I.turnedL (t':=tk) (ch:=[z,TI,TO,i1,i2]) (λc o hb q=>?_) hf⟩
  simp only[Ad,Yzm,or_false,not_or]at hb;exact hk c o hb.1 hb.2.2.1 hb.2.2.2.1 hb.2.2.2.2 q
 self:=λA i s Q E st h=>wpAny_pyIter_zip st.1 h
theorem Ahi{K:KW}{H:Hp}{a b:Addr}{l r:List Dat}(h:RX bb K H (.ref a) (.lst l))(h':RX bb K H (.ref b) (.tup r)):Wlk K bb true H (Gr (λp q=>.tup [p,q]) l r) (As5 K a b) where
 go:=λH1 i e hi=>by
  obtain⟨_,vs,e1,h1,h2,_⟩:=(h.ex e).lstAt
  cases e1
  obtain⟨_,ws,e2,k1,k2,_⟩:=(h'.ex e).tupAt
  cases e2
  rw[Ea]at hi;obtain⟨v,hv,_⟩:=h2.get (Ab (show i < l.length by omega));obtain⟨w,hw,_⟩:=k2.get (Ab (show i < r.length by omega));exact⟨vs,ws,v,w,h1,k1,hv,hw⟩
 yld:=λH1 i x H' d e hd y=>by
  obtain⟨_,vs,e1,h1,h2,_⟩:=(h.ex e).lstAt
  cases e1
  obtain⟨_,ws,e2,k1,k2,_⟩:=(h'.ex e).tupAt
  cases e2
  obtain⟨T,x,y',rfl,hT,rfl,y1,y2⟩:=y;rw[Ji]at hd
  cases q1:l[i]? with
  | none=>simp[q1]at hd
  | some d1=>
   cases q2:r[i]? with
   | none=>simp[q1,q2]at hd
   | some d2=>
    simp only[q1,q2,Aj.injEq]at hd;subst hd;obtain⟨v,hv,hr⟩:=h2.get q1;obtain⟨w,hw,hs⟩:=k2.get q2;rw[y1 vs h1]at hv;rw[y2 ws k1]at hw
    cases hv
    cases hw
    exact J8 hT hr hs
 stop:=λH1 e=>by
  obtain⟨_,vs,e1,h1,h2,_⟩:=(h.ex e).lstAt
  cases e1
  obtain⟨_,ws,e2,k1,k2,_⟩:=(h'.ex e).tupAt
  cases e2
  rw[Ea];have e3:=h2.length;have e4:=k2.length;exact⟨vs,ws,h1,k1,by omega,by omega,by omega⟩
def As4(K:PySem.W.Frag)(a b:Addr):It where
 go:=λi H=>∃(vs ws:List V) (v w:V),SqT K H a vs∧SqL K H b ws∧vs[i]? = some v∧ws[i]? = some w
 yld:=λi H v H'=>∃(T:Addr) (x y:V),v = .ref T∧H T=none∧H'=upd H T (.tup [x,y])∧(∀vs,SqT K H a vs→vs[i]? = some x)∧∀ws,SqL K H b ws→ws[i]? = some y
 stop:=λi H=>∃vs ws:List V,SqT K H a vs∧SqL K H b ws∧i≤vs.length∧i≤ws.length∧(i=vs.length∨i=ws.length)
def stN(z TI TO i1 i2 a b:Addr)(i:Nat)(h:Heap):Prop:=IsZip h z TI TO .none∧IsPair h TI (.ref i1) (.ref i2)∧(∃x y,IsPair h TO x y)∧h.IsTupleIter i1 a i∧h.IsListIter i2 b i
theorem Afi{P:Program}{w:World}{K:PySem.W.Frag}{a b z TI TO i1 i2:Addr}(D:ZipApart z TI TO i1 i2 a b):Turn P w K (.Tuple elts kk tpos) (As4 K a b) [z,TI,TO,i1,i2] z (stN z TI TO i1 i2 a b) where
 mem:=Dd
 obj:=λi h ⟨hz,hp,⟨x,y,hq⟩,⟨o1,e1,_,d1⟩,⟨o2,e2,_,d2⟩⟩ c hc=>
  Anm (p:=λc=>∃o,h.get? c=some o∧∀v,o.data ≠ .cell v) hc ⟨_,hz,λ_ q=>nomatch q⟩ ⟨_,hp,λ_ q=>nomatch q⟩ ⟨_,hq,λ_ q=>nomatch q⟩ ⟨o1,e1,λ_ q=>by rw[d1]at q;cases q⟩ ⟨o2,e2,λ_ q=>by rw[d2]at q;cases q⟩
 keep:=λi h h' ⟨hz,hp,⟨x,y,hq⟩,h1,h2⟩ k=>
  ⟨k z (by simp) _ hz,k TI (by simp) _ hp,⟨x,y,k TO (by simp) _ hq⟩,h1.at λo e=>k i1 (by simp) o e,h2.at λo e=>k i2 (by simp) o e⟩
 item:=λ{X} hP hw hK hc i pins s σ H E I hf ⟨hz,hp,⟨x0,y0,hq⟩,h1,h2⟩ ⟨vs,ws,v,w',hv,hw',gv,gw⟩=>by
  subst hP hw hK;obtain⟨its,rv,p1,_⟩:=I.tuple hv;obtain⟨its2,rv2,p2,_⟩:=I.list hw';obtain⟨u,hu,ru⟩:=rv.get gv;obtain⟨u2,hu2,ru2⟩:=rv2.get gw;have hl:i < its.length:=(Ag.mp hu).1;have hl2:i < its2.length:=(Ag.mp hu2).1;have zlt:z < s.heap.objs.size:=Heap.lt_size hz;have hd:X.A.in1.handled=none:=I.ok.hd hc;refine wpAny_pyNext_zipD2_item (Ls D) (Draws.tuple hd i1 a D.l1i1 its.toArray) (Draws.list hd i2 b D.l2i2 its2.toArray) hz hp hq ⟨h1,p1⟩ ⟨h2,p2.isList⟩ (by rw[Ao];exact hl) (by rw[Ao];exact hl2) λx1 x2 h' tk y1 y2 z' q' d1 d2 new hsz hk=>?_
  have e1:x1=u:=by rw[Fy,hu]at y1;exact(Aj.inj y1).symm
  have e2:x2=u2:=by rw[Fy,hu2]at y2;exact(Aj.inj y2).symm
  subst e1 e2;refine⟨_,rfl,wpAny_letOwnedTupleGo_zip (s:={ s with heap:=h',toks:=tk }) z' λh'' z'' sb=>?_⟩;have lay:ObjOk X.prog X.w (upd H s.heap.objs.size (.tup [v,w'])) h'' s.heap.objs.size (.tup [v,w']):=
   ⟨by show 2≤sizeLine;decide,[x1,x2],.cons ru (.cons ru2 .nil),⟨_,(sb.2 _ (Jb zlt)).trans new,rfl,_,rfl⟩⟩
  have old:∀c o,c∉[z,TI,TO,i1,i2]→s.heap.get? c=some o→h''.get? c=some o:=λc o hb q=>by
   simp only[Ad,Yzm,or_false,not_or]at hb;exact(sb.2 c hb.1).trans (hk c o hb.1 hb.2.2.1 hb.2.2.2.1 hb.2.2.2.2 q)
  refine⟨.ref s.heap.objs.size,_,I.turnedNew (t':=tk) old hf (Aa _) lay,rfl,⟨_,v,w',rfl,I.hok.fresh (Aa _),rfl,λl hl=>by rw[I.tuple_inj hl hv];exact gv,λl hl=>by rw[I.list_inj hl hw'];exact gw⟩,⟨z'',?_,⟨x1,x2,?_⟩,?_,?_⟩,λc hcm=>?_⟩
  ·exact(sb.2 _ D.TIz).trans (hk _ _ D.TIz D.TITO D.TIi1 D.TIi2 hp)
  ·exact(sb.2 _ D.TOz).trans q'
  ·exact d1.1.at λo q=>(sb.2 _ D.i1z).trans q
  ·exact d2.1.at λo q=>(sb.2 _ D.i2z).trans q
  ·have lt:c < s.heap.objs.size:=by
    obtain⟨_,f1,_⟩:=h1;obtain⟨_,f2,_⟩:=h2;exact Anm (p:=λc=>c < s.heap.objs.size) hcm zlt (Heap.lt_size hp) (Heap.lt_size hq) (Heap.lt_size f1) (Heap.lt_size f2)
   rw[upd_ne (Cp lt)];exact(hf c hcm).1
 done:=λ{X} hP hw hK hc i pins s σ H E I hf ⟨hz,hp,⟨x0,y0,hq⟩,h1,h2⟩ ⟨vs,ws,hv,hw',n1,n2,hend⟩=>by
  subst hP hw hK;obtain⟨its,rv,p1,_⟩:=I.tuple hv;obtain⟨its2,rv2,p2,_⟩:=I.list hw';have l1:=rv.length;have l2:=rv2.length;have hd:X.A.in1.handled=none:=I.ok.hd hc;refine wpAny_pyNext_zipD2_end (Ls D) (Draws.tuple hd i1 a D.l1i1 its.toArray) (Draws.list hd i2 b D.l2i2 its2.toArray) hz hp hq ⟨h1,p1⟩ ⟨h2,p2.isList⟩ (by rw[Ao];omega) (by rw[Ao];omega) (by rw[Ao,Ao];omega) λh' tk hk=>⟨rfl,I.turnedL (t':=tk) (ch:=[z,TI,TO,i1,i2]) (λc o hb q=>?_) hf⟩
  simp only[Ad,Yzm,or_false,not_or]at hb;exact hk c o hb.1 hb.2.2.1 hb.2.2.2.1 hb.2.2.2.2 q
 self:=λA i s Q E st h=>wpAny_pyIter_zip st.1 h
theorem Ahh{K:KW}{H:Hp}{a b:Addr}{l r:List Dat}(h:RX bb K H (.ref a) (.tup l))(h':RX bb K H (.ref b) (.lst r)):Wlk K bb true H (Gr (λp q=>.tup [p,q]) l r) (As4 K a b) where
 go:=λH1 i e hi=>by
  obtain⟨_,vs,e1,h1,h2,_⟩:=(h.ex e).tupAt
  cases e1
  obtain⟨_,ws,e2,k1,k2,_⟩:=(h'.ex e).lstAt
  cases e2
  rw[Ea]at hi;obtain⟨v,hv,_⟩:=h2.get (Ab (show i < l.length by omega));obtain⟨w,hw,_⟩:=k2.get (Ab (show i < r.length by omega));exact⟨vs,ws,v,w,h1,k1,hv,hw⟩
 yld:=λH1 i x H' d e hd y=>by
  obtain⟨_,vs,e1,h1,h2,_⟩:=(h.ex e).tupAt
  cases e1
  obtain⟨_,ws,e2,k1,k2,_⟩:=(h'.ex e).lstAt
  cases e2
  obtain⟨T,x,y',rfl,hT,rfl,y1,y2⟩:=y;rw[Ji]at hd
  cases q1:l[i]? with
  | none=>simp[q1]at hd
  | some d1=>
   cases q2:r[i]? with
   | none=>simp[q1,q2]at hd
   | some d2=>
    simp only[q1,q2,Aj.injEq]at hd;subst hd;obtain⟨v,hv,hr⟩:=h2.get q1;obtain⟨w,hw,hs⟩:=k2.get q2;rw[y1 vs h1]at hv;rw[y2 ws k1]at hw
    cases hv
    cases hw
    exact J8 hT hr hs
 stop:=λH1 e=>by
  obtain⟨_,vs,e1,h1,h2,_⟩:=(h.ex e).tupAt
  cases e1
  obtain⟨_,ws,e2,k1,k2,_⟩:=(h'.ex e).lstAt
  cases e2
  rw[Ea];have e3:=h2.length;have e4:=k2.length;exact⟨vs,ws,h1,k1,by omega,by omega,by omega⟩
def As7(l:List Dat)(Q:Dat→Prop):Prop:=
 match l with
 | [x,y]=>∃l r,Ahc x y l r∧Q (.lst (Gr (λp q=>.tup [p,q]) l r))
 | _=>False
theorem Aiq(hg:Gl X "zip")(hm:X.mg "zip" = none)(ha:QE X a n (RXm bb X.kw) fa)(hb:QE X b n' (RXm bb X.kw) fb)(hs:starEach [a,b] X.env=(false,eval a X.env)::starEach [b] X.env)(hs2:starEach [b] X.env=[(false,eval b X.env)]) :
  QI X (.Tuple elts kk tpos) (.Call (.Name "zip" p) [a,b] [] pos) (n+n') bb true (λδ Q=>fa δ λx=>fb δ λy=>∃l r,Ahc x y l r∧Q (.lst (Gr (λp q=>.tup [p,q]) l r))):=λE pins s σ H δ m Φ ht I er pl hf=>by
 refine Call_ (ld_blt I hg hm PyProof.Rows.boot_zip (PyProof.Rows.callWith_type1 (thn (Ap9 (R:=RX bb) (λ_ _ v d e h=>RX.ex (EXr.of e) h) ha hb hs hs2 pos E pins s σ H δ m (λds=>As7 ds λd=>(∃l,Di d=some l)∧Φ d) ht I er pl hf) λus s1 ⟨t1,vs,H1,ds,I1,r1,st1,b1,q1⟩=>?_) hs (Aqp hs2)));obtain⟨v,w,d,e,rfl,rfl,h,h'⟩:=b1;obtain⟨l,r,zo,_,q⟩:=q1;obtain⟨u1,u2,rfl,ra,rb⟩:=r1.two;have fresh5:∀c∈[s1.heap.objs.size+4,s1.heap.objs.size+2,s1.heap.objs.size+3,s1.heap.objs.size,s1.heap.objs.size+1],FpOk X pins H1 c:=by
  intro c hc;have young:s1.heap.objs.size≤c:=by
   simp only[Ad,Yzm,or_false]at hc
   rcases hc with z|z|z|z|z<;>rw[z]<;>first|exact Aa _|exact El _ _
  exact I1.fpOk young (I1.hok.fresh young)
 have fin:l.length≤sizeLine→wpAny (model X.prog X.w) X.A (call (.type "zip") [u1,u2]) (λw s2=>wpAny (model X.prog X.w) X.A (pyIter w) (PIE X pins σ (.Tuple elts kk tpos) λJ H'=>H'=H1∧Wlk X.kw bb true H1 (Gr (λp q=>.tup [p,q]) l r) J) E s2) E s1 →
   wpAny (model X.prog X.w) X.A (call (.type "zip") [u1,u2]) (λw s2=>wpAny (model X.prog X.w) X.A (pyIter w) (PXI X pins σ (.Tuple elts kk tpos) (n+n') bb true H Φ) E s2) E s1:=λhl0 hw=>
  Cr t1 hw λw s2 t2 h2'=>Cr t2 h2' λw s3 t3 h3=>Mf t3 st1 (by rw[Ea];omega) rfl q h3
 rcases zo with⟨rfl,rfl|rfl⟩|⟨rfl,rfl|rfl⟩
 ·obtain⟨a,vs,rfl,h1,h2,h3⟩:=h.lstAt
  obtain⟨b,ws,rfl,k1,k2,k3⟩:=h'.lstAt;obtain rfl:u1 = .ref a:=ra;obtain rfl:u2 = .ref b:=rb;obtain⟨its,rv,p1,hz⟩:=I1.list h1;obtain⟨its2,rv2,p2,hz2⟩:=I1.list k1;refine fin h3 (call_zip_2 p1.isList p2.isList λhh hz hTI hTO e1 e2 hsz hk=>wpAny_pyIter_zip hz ?_);have I2:L2.Inv X pins σ H1 { s1 with heap:=hh }:=I1.kept (t':=s1.toks) hk;exact⟨s1.heap.objs.size+4,[s1.heap.objs.size+4,s1.heap.objs.size+2,s1.heap.objs.size+3,s1.heap.objs.size,s1.heap.objs.size+1],_,_,H1,rfl,I2,turn_zip (PySem.W.ktu_apart s1.heap.objs.size a b p1.lt p2.lt),⟨hz,hTI,⟨_,_,hTO⟩,e1,e2⟩,fresh5,rfl,Ahj h h'⟩
 ·obtain⟨a,vs,rfl,h1,h2,h3⟩:=h.lstAt
  obtain⟨b,ws,rfl,k1,k2,k3⟩:=h'.tupAt;obtain rfl:u1 = .ref a:=ra;obtain rfl:u2 = .ref b:=rb;obtain⟨its,rv,p1,hz⟩:=I1.list h1;obtain⟨its2,rv2,p2,hz2⟩:=I1.tuple k1;obtain⟨o2,ho2,_⟩:=id p2;refine fin h3 (zip_begins2 (begins_list a its.toArray) (begins_tuple b its2.toArray) p1.isList p2 λhh hz hTI hTO e1 e2 hsz hk=>wpAny_pyIter_zip hz ?_);have I2:L2.Inv X pins σ H1 { s1 with heap:=hh }:=I1.kept (t':=s1.toks) hk;exact⟨s1.heap.objs.size+4,[s1.heap.objs.size+4,s1.heap.objs.size+2,s1.heap.objs.size+3,s1.heap.objs.size,s1.heap.objs.size+1],_,_,H1,rfl,I2,Afj (PySem.W.ktu_apart s1.heap.objs.size a b p1.lt (Heap.lt_size ho2)),⟨hz,hTI,⟨_,_,hTO⟩,⟨_,e1,rfl,rfl⟩,⟨_,e2,rfl,rfl⟩⟩,fresh5,rfl,Ahi h h'⟩
 ·obtain⟨a,vs,rfl,h1,h2,h3⟩:=h.tupAt
  obtain⟨b,ws,rfl,k1,k2,k3⟩:=h'.tupAt;obtain rfl:u1 = .ref a:=ra;obtain rfl:u2 = .ref b:=rb;obtain⟨its,rv,p1,hz⟩:=I1.tuple h1;obtain⟨its2,rv2,p2,hz2⟩:=I1.tuple k1;obtain⟨o1,ho1,_⟩:=id p1;obtain⟨o2,ho2,_⟩:=id p2;refine fin h3 (RZ.call_zipT (show s1.heap.IsTuple a its.toArray from p1) (show s1.heap.IsTuple b its2.toArray from p2) λhh hz hTI hTO e1 e2 hsz hk=>wpAny_pyIter_zip hz ?_);have I2:L2.Inv X pins σ H1 { s1 with heap:=hh }:=I1.kept (t':=s1.toks) hk;exact⟨s1.heap.objs.size+4,[s1.heap.objs.size+4,s1.heap.objs.size+2,s1.heap.objs.size+3,s1.heap.objs.size,s1.heap.objs.size+1],_,_,H1,rfl,I2,RZ.turn_zipT (PySem.W.ktu_apart s1.heap.objs.size a b (Heap.lt_size ho1) (Heap.lt_size ho2)),⟨hz,hTI,⟨_,_,hTO⟩,e1,e2⟩,fresh5,rfl,Ahg h h'⟩
 ·obtain⟨a,vs,rfl,h1,h2,h3⟩:=h.tupAt
  obtain⟨b,ws,rfl,k1,k2,k3⟩:=h'.lstAt;obtain rfl:u1 = .ref a:=ra;obtain rfl:u2 = .ref b:=rb;obtain⟨its,rv,p1,hz⟩:=I1.tuple h1;obtain⟨its2,rv2,p2,hz2⟩:=I1.list k1;obtain⟨o1,ho1,_⟩:=id p1;refine fin h3 (zip_begins2 (begins_tuple a its.toArray) (begins_list b its2.toArray) p1 p2.isList λhh hz hTI hTO e1 e2 hsz hk=>wpAny_pyIter_zip hz ?_);have I2:L2.Inv X pins σ H1 { s1 with heap:=hh }:=I1.kept (t':=s1.toks) hk;exact⟨s1.heap.objs.size+4,[s1.heap.objs.size+4,s1.heap.objs.size+2,s1.heap.objs.size+3,s1.heap.objs.size,s1.heap.objs.size+1],_,_,H1,rfl,I2,Afi (PySem.W.ktu_apart s1.heap.objs.size a b (Heap.lt_size ho1) p2.lt),⟨hz,hTI,⟨_,_,hTO⟩,⟨_,e1,rfl,rfl⟩,⟨_,e2,rfl,rfl⟩⟩,fresh5,rfl,Ahh h h'⟩
end
end SF
namespace SF
open PySem PySem.Spec PyProof.Rows L2
variable[TN]
def K8(X:Cx)(tg:Expr)(p:P):Prop:=∀E,PG (X.wish E) tg (tgP X.kw p)
theorem Nr{X:Cx}{tg:Expr}{p:P}{z:Bool}(hz:z=true→isT p=true)(ht:K8 X tg p){E:Value→Shared→Prop}{pins:List (Addr×Obj)}{s:Shared}{σ:L2.St}{H:Hp}{δ:Env}{v:V}{u:Value}{d:Dat}{Φ:Env→Prop}
  (t0:0 < s.toks) (I:L2.Inv X pins σ H s) (er:EnvRep X.kw σ H δ) (rv:L2.RelV v u) (r:An5 z X.kw H v d) (hb:Cz p d δ Φ) :
  wpAny (model X.prog X.w) X.A (assign tg X.env u) (λ_ s'=>0 < s'.toks∧∃ σ' δ',L2.Inv X pins σ' H s'∧EnvRep X.kw σ' H δ'∧Φ δ'∧Kp (Dm p) σ δ σ' δ') E s:=by
 refine Cr t0 ((ht E).run pins s σ H v u (λσ' H'=>H'=H∧∃ δ',EnvRep X.kw σ' H δ'∧Φ δ'∧Kp (Dm p) σ δ σ' δ') (I.wish E) rv (Akm hz er r hb λσ' δ' h1 h2 h3=>⟨rfl,δ',h1,h2,h3⟩)) λ_ s' t ⟨σ',H',I',e,δ',h1,h2,h3⟩=>?_
 subst e;exact⟨t,σ',δ',I'.unwish,h1,h2,h3⟩
def QTs(X:Cx)(ifs:List Expr)(n:Nat)(f:Env→(Bool→Prop)→Prop):Prop:=
 ∀(E:Value→Shared→Prop) (pins:List (Addr×Obj)) (s:Shared) (σ:L2.St) (H:Hp) (δ:Env) (m:Nat) (Φ:Bool→Prop),0 < s.toks→L2.Inv X pins σ H s→EnvRep X.kw σ H δ→PotLe (n+m) H→f δ Φ →
  wpAny (model X.prog X.w) X.A (forIn ifs true λc r=>if r=true then do let ok ← isTrue c X.env (eval c X.env);pure (ForInStep.yield ok)else pure (ForInStep.yield r)) (PXb X pins σ n H Φ) E s
theorem Ad4{X:Cx}:QTs X [] 0 (λ_ Q=>Q true):=λE pins s σ H δ m Φ ht I er pl hf=>wpAny_tests_nil ⟨ht,H,I,Step.refl H,hf⟩
theorem Ad3{X:Cx}{c:Expr}{n:Nat}{f:Env→(Bool→Prop)→Prop}(h:QT X c n f):QTs X [c] n f:=λE pins s σ H δ m Φ ht I er pl hf=>wpAny_tests_one (h E pins s σ H δ m Φ ht I er pl hf)
theorem Step.wrote{k:Nat}{H H':Hp}{D:Addr}{ys:List V}(st:Step k H H')(hD:H D=none)(hs:SoftAt H' D):Step k H (L2.upd H' D (.lst ys)):=by
 refine⟨λa o h=>?_,λm h=>?_⟩
 ·have na:a≠D:=λe=>by subst e;rw[hD]at h;cases h
  rw[upd_ne na];exact st.ext a o h
 ·have p:=st.pot m h
  refine⟨p.1,λa z q=>?_,p.3.put hs⟩;by_cases e:a=D
  ·subst e;rw[upd_same]at q;exact absurd (Aj.inj q) (λw=>nomatch w)
  ·rw[upd_ne e]at q;exact p.2 a z q
theorem Ext.none{H H':Hp}(e:Ext H H'){a:Addr}(h:H' a=none):H a=none:=by
 cases q:H a with
 | none=>rfl
 | some o=>rcases e a o q with z|⟨_,z,y⟩|⟨_,z,y⟩<;>simp_all
theorem Reps.snoc{K:KW}{H:Hp}{vs:List V}{ds:List Dat}{v:V}{d:Dat}(h:Reps K H vs ds)(r:Rep K H v d):Reps K H (vs++[v]) (ds++[d]):=
 h.append (by rw[Reps,Reps];exact⟨r,trivial⟩)
section
variable{X:Cx}
theorem tkF{α:Type}{t:Sem α}{E:Value→Shared→Prop}{s:Shared}{Q:α→Shared→Prop}{A:Around}(ht:0 < s.toks)(h:wpAny (model X.prog X.w) A t Q E s):wpAny (model X.prog X.w) A t (λa s'=>0 < s'.toks∧Q a s') E s:=Cr ht h λa s' t q=>⟨t,q⟩
def Eo(p:P)(δ0:Env)(ft:Env→(Bool→Prop)→Prop)(fe:Env→(Dat→Prop)→Prop)(d:Dat)(K:Option Dat→Prop):Prop:=
 Cz p d δ0 λδ'=>ft δ' λk=>if k=true then fe δ' λy=>K (some y)else K none
structure Cmp(X:Cx)(pins:List (Addr×Obj))(σ:L2.St)(ov:List Nat)(scope:Scope)(fp:List Addr)(H:Hp)(s s':Shared)(ce:PySem.Env):Prop where
 out:L2.Inv X pins σ H s
 inn:L2.Inv (X.blk s H scope ce fp) [] (wipe σ ov) H s'
 own:∀b∈fp,FpOk X pins H b
 here:ce.locals=s.heap.objs.size
 made:∃C cl,ce=compEnvC scope cl C X.env
theorem Jo{s s':Shared}{σ:L2.St}{H H':Hp}{scope:Scope}{ce:PySem.Env}{fp:List Addr}(I:L2.Inv (X.blk s H scope ce fp) [] σ H' s')(hn:∀b∈fp,H' b=none):∀b∈fp,FpOk (X.blk s H scope ce fp) [] H' b:=by
 intro b hb;have⟨a1,a2⟩:=I.ok.exf b hb;refine⟨hn b hb,a1,I.ok.exfs b hb,Or.inl hb,a2,?_⟩;simp
theorem Cmp.back{pins:List (Addr×Obj)}{σ σ':L2.St}{ov:List Nat}{scope:Scope}{fp:List Addr}{H H':Hp}{s s' s'':Shared}{ce:PySem.Env}(c:Cmp X pins σ ov scope fp H s s' ce)(I:L2.Inv (X.blk s H scope ce fp) [] σ' H' s'') :
  L2.Inv X pins σ H' s''∧FpOk X pins H' ce.locals∧∃m,s''.heap.Ns ce.locals m:=by
 refine⟨?_,?_,I.loc.imp λm h=>h.1⟩
 ·refine c.out.call' (ch:=fp) I.os I.base I.hok I.bare ?_
  intro b hb;obtain⟨_,k1,_,k2,k3,k4⟩:=c.own b hb;exact⟨k2,k1,k3,k4⟩
 ·refine c.out.fpOk ?_ I.free
  rw[c.here];exact Aa _
theorem Tv{B:Cx}{pl:List (Addr×Obj)}{σ σ':L2.St}{H':Hp}{s':Shared}{P:Program}{w:World}{K:PySem.W.Frag}{tg:Expr}{J:It}{fp:List Addr}{it:Addr}{tn:Nat→Heap→Prop}{j:Nat}{h7:Heap}(T:Turn P w K tg J fp it tn)(st:tn j h7)(I:L2.Inv B (pl++pinsAt fp h7) σ H' s')
  (hl:σ'.length=σ.length) (hw:∀(i:Nat) v,σ'[i]? = some (some v)→σ[i]? = some (some v)):L2.Inv B pl σ' H' s'∧tn j s'.heap∧∀b∈fp,H' b=none:=by
 have p:∀b∈fp,∃o,h7.get? b=some o∧s'.heap.get? b=some o∧H' b=none:=by
  intro b hb;obtain⟨o,e,_⟩:=T.obj j h7 st b hb;have q:=I.pin (b,o) (by simp[mem_pinsAt hb e]);exact⟨o,e,q.1,q.2.1⟩
 refine⟨I.unpinned.weak hl hw,T.keep j h7 s'.heap st ?_,λb hb=>(p b hb).choose_spec.2.2⟩;intro b hb o e;obtain⟨o',e',f,_⟩:=p b hb;rw[e]at e'
 cases e'
 exact f
theorem Ae2{pins:List (Addr×Obj)}{s:Shared}{σ:L2.St}{H:Hp}{elt tg iter:Expr}{ifs:List Expr}{gs:List Comprehension}{scope:Scope}{own:List (Str×Nat)}{pos pos':Pos}{use:Option (Value→Sem Unit)}{Qf:Value→Shared→Prop}{E:Value→Shared→Prop}
  {Go:It→Hp→Prop} (hN:X.N.Nodup) (I:L2.Inv X pins σ H s) (ok:BlkOk X.N X.env.scope scope own) (hs:∀x,foldedSetIterable iter X.env x=pure x)
  (first:wpAny (model X.prog X.w) X.A (eval iter X.env) (λv s1=>wpAny (model X.prog X.w) X.A (pyIter v) (λitv s2=>∃it fp tn J H2,itv = .ref it∧0 < s2.toks∧L2.Inv X pins σ H2 s2∧Turn X.prog X.w X.kw tg J fp it tn∧tn 0 s2.heap∧(∀b∈fp,FpOk X pins H2 b)∧Go J H2) E s1) E s)
  (loop:∀it fp tn J H2 D s3 s4 ce,Go J H2→Turn X.prog X.w X.kw tg J fp it tn→H2 D=none→Cmp X pins σ (own.map (·.2)) scope fp (L2.upd H2 D (.lst [])) s3 s4 ce→tn 0 s4.heap→0 < s4.toks →
   codeAny (model X.prog X.w) X.A (.compLoop (.ListComp elt (⟨tg,iter,ifs,0⟩::gs) scope pos) 0 (.ref it) (.ref D) ce) (compPost (model X.prog X.w) X.A E use Qf (.ref D) ce.locals) s4) :
  wpAny (model X.prog X.w) X.A (comprehension (.ListComp elt (⟨tg,iter,ifs,0⟩::gs) scope pos) scope X.env pos' (newList []) false (eval iter X.env) use) Qf E s:=by
 have clo:closureFor scope X.env=pure (cloFrom X.env.cells scope.names []):=by
  refine closure_ok ?_;intro y hy e;exact I.ok.has _ (ok.free y hy e)
 refine wpAny_comprehension_free rfl hs clo ok.kind ?_ (thn first ?_)
 ·intro y hy e
  rw[← e];exact ok.uniq y hy
 intro v s1 h1;refine thn h1 ?_;rintro itv s2 ⟨it,fp,tn,J,H2,rfl,ht,I2,T,st,f2,go⟩;have Dn:=I2.hok.fresh (Aa s2.heap.objs.size);have I3:=I2.lnew (t':=s2.toks) (ys:=[]) (its:=[]) .nil (Am _);have f3:∀b∈fp,FpOk X pins (L2.upd H2 s2.heap.objs.size (.lst [])) b∧b < (s2.heap.push (seqObj "list" ([]:List Value).toArray 0)).objs.size:=by
  intro b hb;obtain⟨o,e,_⟩:=T.obj 0 _ st b hb;have lt:=Heap.lt_size e;obtain⟨k0,k⟩:=f2 b hb;refine⟨⟨?_,k⟩,?_⟩
  ·rw[upd_ne (Cp lt)]
   exact k0
  ·rw[Heap.size_push]
   exact En lt
 refine wpAny_newObj_type ?_ (Am _);refine newEnv_comp ?_;have st4:tn 0 (pushCells ((s2.heap.push (seqObj "list" ([]:List Value).toArray 0)).push { cls:=.type "dict", data:=.dict #[] }) scope.names):=by
  refine T.keep 0 _ _ st ?_;intro b _ o e;exact pushCells_keeps _ _ _ _ (Heap.get?_push_of_some _ (Heap.get?_push_of_some _ e))
 have L:=loop it fp tn J H2 s2.heap.objs.size _ _ _ go T Dn ⟨I3,block_start I3 ok hN f3,λb hb=>(f3 b hb).1,rfl,_,_,rfl⟩ st4 ht;exact codeAny_compStart_list L (T.self X.A 0 _ _ _ st4 L)
theorem Aek{pins:List (Addr×Obj)}{s:Shared}{σ:L2.St}{H:Hp}{δ:Env}{m:Nat}{Φ:List Dat→Prop}{elt tg iter:Expr}{ifs:List Expr}{scope:Scope}{own:List (Str×Nat)}{pos pos':Pos}{p:P}{z:Bool}{n n1 n2:Nat}
  {fe:Env→(Dat→Prop)→Prop} {ft:Env→(Bool→Prop)→Prop} {use:Option (Value→Sem Unit)} {Qf:Value→Shared→Prop} {E:Value→Shared→Prop}
  (hc:X.calm=true) (hN:X.N.Nodup) (I:L2.Inv X pins σ H s) (er:EnvRep X.kw σ H δ) (pl:PotLe (n+sizeLine*(n1+n2)+m) H) (ok:BlkOk X.N X.env.scope scope own) (hz:z=true→isT p=true) (hv:∀i∈Dm p,i∈own.map (·.2))
  (hg:∀(s:Shared) (H:Hp) (C:Addr) (cl:List (Str×Addr)) (fp:List Addr),K8 (X.blk s H scope (compEnvC scope cl C X.env) fp) tg p) (ht:∀(s:Shared) (H:Hp) (C:Addr) (cl:List (Str×Addr)) (fp:List Addr),QTs (X.blk s H scope (compEnvC scope cl C X.env) fp) ifs n1 ft)
  (he:∀(s:Shared) (H:Hp) (C:Addr) (cl:List (Str×Addr)) (fp:List Addr),QE (X.blk s H scope (compEnvC scope cl C X.env) fp) elt n2 (RV X.kw) fe) (hs:∀x,foldedSetIterable iter X.env x=pure x)
  (first:wpAny (model X.prog X.w) X.A (eval iter X.env) (λv s1=>wpAny (model X.prog X.w) X.A (pyIter v) (PXI X pins σ tg n true z H λx=>∃ds,Di x=some ds∧Ff (Eo p (Bb δ (own.map (·.2))) ft fe) ds Φ) E s1) E s)
  (hRR:∀D C s' m' H' ys,0 < s'.toks→L2.Inv X pins σ H' s'→Step (n+sizeLine*(n1+n2)) H H'→H D=none→Own X.kw H' D (.lst ys)→Φ ys→s'.heap.Ns C m'→FpOk X pins H' C→compPost (model X.prog X.w) X.A E use Qf (.ref D) C (.ok .next) s') :
  wpAny (model X.prog X.w) X.A (comprehension (.ListComp elt [⟨tg,iter,ifs,0⟩] scope pos) scope X.env pos' (newList []) false (eval iter X.env) use) Qf E s:=by
 refine Ae2 (Go:=λJ H2=>Step n H H2∧∃ds,Wlk X.kw true z H2 ds J∧ds.length≤sizeLine∧Ff (Eo p (Bb δ (own.map (·.2))) ft fe) ds Φ) hN I ok hs (thn first λv s1 h1=>thn h1 λitv s2 h2=>?_) ?_
 ·obtain⟨t2,it,fp,tn,J,H2,d,ds,e,I2,T,st,f,stp,wk,hl,hd,ds',hd',q⟩:=h2
  rw[hd]at hd'
  cases hd'
  exact⟨it,fp,tn,J,H2,e,t2,I2,T,st,f,stp,ds,wk,hl,q⟩
 rintro it fp tn J H2 D s3 s4 ce ⟨stp,ds,wk,hlen,q⟩ T hDn c st4 t4;obtain⟨C,cl,rfl⟩:=c.made;have pg:=hg s3 (L2.upd H2 D (.lst [])) C cl fp;have pt:=ht s3 (L2.upd H2 D (.lst [])) C cl fp;have pe:=he s3 (L2.upd H2 D (.lst [])) C cl fp;have nfp:∀b∈fp,(L2.upd H2 D (.lst [])) b=none:=λb hb=>(c.own b hb).1
 generalize compEnvC scope cl C X.env=ce at c pg pt pe ⊢;have stH3:Step 0 H2 (L2.upd H2 D (.lst [])):=(Step.refl H2).wrote hDn (.none hDn);have eD:(L2.upd H2 D (.lst [])) D=some (.lst []):=upd_same;generalize L2.upd H2 D (.lst [])=H3 at c pg pt pe nfp stH3 eD;have I4:=c.inn;have er0:EnvRep X.kw (wipe σ (own.map (·.2))) H2 (Bb δ (own.map (·.2))):=(er.ext stp.ext).wipe _;have plB:PotLe (sizeLine*(n1+n2)) H2:=stp.pot _ (pl.mono (by omega));generalize own.map (·.2)=ov at *;refine compLoop_any (λk s'=>∃i H' acc ys,0 < s'.toks∧(L2.Inv (X.blk s3 H3 scope ce fp) [] (wipe σ ov) H' s'∧tn i s'.heap∧∀b∈fp,H' b=none)∧k=ds.length - i∧i≤ds.length∧Step (i*(n1+n2)) H2 H'∧H' D=some (.lst acc)∧Reps X.kw H' acc ys∧ys.length≤i ∧
  Ff (Eo p (Bb δ ov) ft fe) (ds.drop i) λr=>Φ (ys++r)) ?_ ds.length ⟨0,H3,[],[],t4,⟨I4,st4,nfp⟩,rfl,Am _,by rw[Dc];exact stH3,eD,by rw[Reps];trivial,Am _,q⟩
 rintro k s5 ⟨i,H5,acc,ys,t5,⟨I5,st5,n5⟩,rfl,hik,sp5,hD5,ra5,hy5,q5⟩;by_cases hlt:i < ds.length
 ·have e0:ds.drop i=ds[i]::ds.drop (i+1):=Ds hlt
  rw[e0]at q5;refine thnF (tkF (X:=X) t5 (T.item (X.blk s3 H3 scope ce fp) rfl rfl rfl hc i [] s5 _ H5 (λ_ _=>False) I5 (Jo I5 n5) st5 (wk.go H5 i (EXr.of sp5.ext) hlt))) λr s6 ⟨t6,u,hr,h6⟩=>?_
  subst hr;refine thnF (tkF (X:=X) t6 h6) λ_ s7 ⟨t7,x,H7,I7,r7,y7,st7,n7⟩=>?_
  obtain⟨sp7,yr⟩:=wk.yld H5 i x H7 _ (EXr.of sp5.ext) (Ab hlt) y7;have I7':=I7.pinned (Jo I7 n7) (T.obj _ _ st7);have sp7':Step (i*(n1+n2)) H2 H7:=(sp5.trans sp7).mono (by omega);have q5:Eo p (Bb δ ov) ft fe ds[i] _:=q5;unfold Eo at q5;refine thnF (Nr hz pg t7 I7' (er0.ext sp7'.ext) r7 yr q5) λ_ s8 ⟨t8,σ8,δ8,I8,er8,q8,k8⟩=>?_
  have hle:(i+1)*(n1+n2)≤sizeLine*(n1+n2):=Ba _ (by omega);rw[Ay]at hle;refine thnF (pt _ _ s8 σ8 H7 δ8 (n2+0) _ t8 I8 er8 (sp7'.pot _ (plB.mono (by omega))) q8) λb s9 ⟨t9,H9,I9,sp9,q9⟩=>?_
  have wst:wipe σ8 ov=wipe σ ov:=by rw[k8.2 ov hv,Lf]
  have wl:(wipe σ ov).length=σ8.length:=by rw[← wst,wipe_length]
  have ww:∀(j:Nat) v,(wipe σ ov)[j]? = some (some v)→σ8[j]? = some (some v):=λj v e=>(wipe_some (by rw[wst];exact e)).1
  cases b with
  | false=>
   have e9:=sp7.ext.trans sp9.ext;exact⟨_,Ek _ _ hlt,i+1,H9,acc,ys,t9,Tv T st7 I9 wl ww,rfl,hlt,(sp7'.trans sp9).mono (by rw[Ay];omega),e9.keep hD5 (λ_ q=>nomatch q),Reps.ext e9 _ _ ra5,by omega,q9⟩
  | true=>
   refine thnF (pe _ _ s9 σ8 H9 δ8 0 _ t9 I9 (er8.ext sp9.ext) ((sp7'.trans sp9).pot _ (plB.mono (by omega))) q9) λzv s10 ⟨t10,yv,H10,dy,I10,r10,sp10,b10,q10⟩=>?_
   have e10:=(sp7.ext.trans sp9.ext).trans sp10.ext;have hD10:H10 D=some (.lst acc):=e10.keep hD5 λ_ q=>nomatch q
   have hacc:acc.length < sizeLine:=by rw[ra5.length];omega
   have b10:Rep X.kw H10 yv dy:=b10;refine Cr (X:=X) t10 (app_ok (X:=X.blk s3 H3 scope ce fp) (Q:=λ_ s11=>L2.Inv (X.blk s3 H3 scope ce fp) ([]++pinsAt fp s7.heap) σ8 (L2.upd H10 D (.lst (acc++[yv]))) s11) I10 hD10 hacc r10 λs11 I11=>I11) λ_ s11 t11 I11=>?_
   have q10:Ff (Eo p (Bb δ ov) ft fe) (ds.drop (i+1)) (λr=>Φ (ys++(dy::r))):=q10;exact⟨_,Ek _ _ hlt,i+1,_,_,ys++[dy],t11,Tv T st7 I11 wl ww,rfl,hlt,(((sp7'.trans sp9).trans sp10).mono (by rw[Ay];omega)).wrote hDn (.lst hD10),upd_same,Reps.wr (.inl ⟨_,rfl⟩) _ hD10 _ _ ((Reps.ext e10 _ _ ra5).snoc b10),by simp;omega,by simpa using q10⟩
 ·have ei:i=ds.length:=by omega
  subst ei;refine thnF (tkF (X:=X) t5 (T.done (X.blk s3 H3 scope ce fp) rfl rfl rfl hc ds.length [] s5 _ H5 (λ_ _=>False) I5 (Jo I5 n5) st5 (wk.stop H5 (EXr.of sp5.ext)))) λr s6 ⟨t6,hr,I6⟩=>?_
  subst hr;obtain⟨I7,fC,m',hn⟩:=c.back I6;rw[Gn]at q5;have q5:Φ (ys++[]):=q5;rw[Bu]at q5;have hmul:ds.length*(n1+n2)≤sizeLine*(n1+n2):=Ba _ hlen;exact hRR D ce.locals s6 m' H5 ys t6 I7 ((stp.trans sp5).mono (by omega)) (stp.ext.none hDn) ⟨acc,hD5,by omega,ra5⟩ q5 hn fC
theorem Aju{pins:List (Addr×Obj)}{s:Shared}{σ:L2.St}{H:Hp}{δ:Env}{m:Nat}{Φ:List Dat→Prop}{elt tg iter:Expr}{ifs:List Expr}{scope:Scope}{own:List (Str×Nat)}{pos pos':Pos}{p:P}{z:Bool}{n n1 n2:Nat}
  {fi fe:Env→(Dat→Prop)→Prop} {ft:Env→(Bool→Prop)→Prop} {use:Option (Value→Sem Unit)} {Qf:Value→Shared→Prop} {E:Value→Shared→Prop}
  (hc:X.calm=true) (hN:X.N.Nodup) (t0:0 < s.toks) (I:L2.Inv X pins σ H s) (er:EnvRep X.kw σ H δ) (pl:PotLe (n+sizeLine*(n1+n2)+m) H) (hi:QI X tg iter n true z fi) (ok:BlkOk X.N X.env.scope scope own) (hz:z=true→isT p=true) (hv:∀i∈Dm p,i∈own.map (·.2))
  (hg:∀(s:Shared) (H:Hp) (C:Addr) (cl:List (Str×Addr)) (fp:List Addr),K8 (X.blk s H scope (compEnvC scope cl C X.env) fp) tg p) (ht:∀(s:Shared) (H:Hp) (C:Addr) (cl:List (Str×Addr)) (fp:List Addr),QTs (X.blk s H scope (compEnvC scope cl C X.env) fp) ifs n1 ft)
  (he:∀(s:Shared) (H:Hp) (C:Addr) (cl:List (Str×Addr)) (fp:List Addr),QE (X.blk s H scope (compEnvC scope cl C X.env) fp) elt n2 (RV X.kw) fe) (hs:∀x,foldedSetIterable iter X.env x=pure x)
  (h:fi δ λx=>∃ds,Di x=some ds∧Ff (Eo p (Bb δ (own.map (·.2))) ft fe) ds Φ) (mfi:∀ δ,Bj (fi δ))
  (hRR:∀D C s' m' H' ys,0 < s'.toks→L2.Inv X pins σ H' s'→Step (n+sizeLine*(n1+n2)) H H'→H D=none→Own X.kw H' D (.lst ys)→Φ ys→s'.heap.Ns C m'→FpOk X pins H' C→compPost (model X.prog X.w) X.A E use Qf (.ref D) C (.ok .next) s') :
  wpAny (model X.prog X.w) X.A (comprehension (.ListComp elt [⟨tg,iter,ifs,0⟩] scope pos) scope X.env pos' (newList []) false (eval iter X.env) use) Qf E s:=
 Aek hc hN I er pl ok hz hv hg ht he hs (hi E pins s σ H δ (sizeLine*(n1+n2)+m) _ t0 I er (pl.mono (by omega)) (mfi δ _ _ (λ_ ⟨ds,q1,q2⟩=>⟨⟨ds,q1⟩,ds,q1,q2⟩) h)) hRR
end
end SF
namespace SF
open PySem PySem.Spec PyProof.Rows L2
variable[TN]
structure Nx(prog:Program)(w:World)(it:Addr)(cells:List Addr)(xs:Array Value)(St:Nat→Heap→Prop):Prop where
 item:∀{A:Around} {E:Value→Shared→Prop} {s:Shared} {i:Nat} {x:Value} {Q:Value→Shared→Prop},St i s.heap→xs[i]? = some x→(∀h',St (i+1) h'→Heap.ExtBut it s.heap h'→h'.objs.size=s.heap.objs.size→Q x { s with heap:=h' })→wpAny (model prog w) A (Builtin.SmallTypes.nextOf (.ref it)) Q E s
 stop:∀{A:Around} {E:Value→Shared→Prop} {s:Shared} {i:Nat} {Q:Value→Shared→Prop},A.handled=none→St i s.heap→xs[i]? = none→(∀h' e,Heap.ExtBut it s.heap h'→(∃o,h'.get? e=some o∧o.cls = .type "StopIteration")→E (.ref e) { s with heap:=h' })→wpAny (model prog w) A (Builtin.SmallTypes.nextOf (.ref it)) Q E s
 keep:∀{i:Nat} {h h':Heap},St i h→(∀b∈cells,∀o,h.get? b=some o→h'.get? b=some o)→St i h'
theorem Nx.but{prog:Program}{w:World}{it:Addr}{cells:List Addr}{xs:Array Value}{St:Nat→Heap→Prop}(n:Nx prog w it cells xs St){i:Nat}{h h':Heap}{b:Addr}(s:St i h)(hb:b∉cells)(k:Heap.ExtBut b h h'):St i h':=
 n.keep s λc hc o e=>k c o (λz=>hb (z ▸ hc)) e
end SF
namespace SF
open PySem PySem.Spec PyProof.Rows L2
variable[TN]
structure ZLaw(prog:Program)(w:World)(z S:Addr)(fp:List Addr)(xs ys:Array Value)(St:Nat→Heap→Prop):Prop where
 item:∀(A:Around) (E:Value→Shared→Prop) (s:Shared) (i:Nat) (x y:Value) (Q:Option Value→Shared→Prop),A.handled=none→St i s.heap→S < s.heap.objs.size→xs[i]? = some x→ys[i]? = some y →
  (∀h' tk,St (i+1) h'→IsPair h' s.heap.objs.size x y→(∀c o,c∉fp→s.heap.get? c=some o→h'.get? c=some o)→Q (some (.ref s.heap.objs.size)) { s with heap:=h',toks:=tk })→wpAny (model prog w) A (pyNext (.ref z)) Q E s
 done:∀(A:Around) (E:Value→Shared→Prop) (s:Shared) (i:Nat) (Q:Option Value→Shared→Prop),A.handled=none→i≤xs.size→i≤ys.size→St i s.heap→(xs[i]? = none∨ys[i]? = none) →
  (∀h' tk,(∀c o,c∉fp→s.heap.get? c=some o→h'.get? c=some o)→Q none { s with heap:=h',toks:=tk })→wpAny (model prog w) A (pyNext (.ref z)) Q E s
 keep:∀(i:Nat) (h h':Heap),St i h→(∀b o,b≠S→h.get? b=some o→h'.get? b=some o)→St i h'
 off:S∉fp
 inn:z∈fp
 low:∀(i:Nat) (h:Heap),St i h→∀b∈fp,b < h.objs.size
 typ:∀(i:Nat) (h:Heap),St i h→∃o,h.get? z=some o∧o.cls = .type "zip"
 self:∀(A:Around) (s:Shared) (Q:Value→Shared→Prop) (E:Value→Shared→Prop),St 0 s.heap→Q (.ref z) s→wpAny (model prog w) A (pyIter (.ref z)) Q E s
structure Lz(xs ys:Array Value)(S lo:Addr)(fp:List Addr)(St:Nat→Heap→Prop)(h₁:Heap)(i:Nat)(h:Heap)(as:List Addr):Prop where
 st:St i h
 lst:∃c,h.get? S=some { cls:=.type "list", data:=.seq (as.map Value.ref).toArray c }
 len:as.length=i
 old:∀b o,b≠S→b∉fp→h₁.get? b=some o→h.get? b=some o
 new:∀(j:Nat) (a:Addr),as[j]? = some a→lo < a∧∃x y,xs[j]? = some x∧ys[j]? = some y∧IsPair h a x y
 ris:as.Pairwise (· < ·)
 big:lo < h.objs.size
theorem Lz.there{xs ys:Array Value}{S lo:Addr}{fp:List Addr}{St:Nat→Heap→Prop}{h₁ h:Heap}{i:Nat}{as:List Addr}(g:Lz xs ys S lo fp St h₁ i h as):∀a∈as,a < h.objs.size:=by
 intro a ha;obtain⟨j,hj⟩:=List.getElem?_of_mem ha;obtain⟨_,_,_,_,_,p⟩:=g.new j a hj;exact Heap.lt_size p
section
variable{prog:Program}{w:World}{A:Around}{s:Shared}{R:Result→Shared→Prop}{z S lo:Addr}{fp:List Addr}{xs ys:Array Value}{St:Nat→Heap→Prop}
theorem Lz.more{h₁ h h':Heap}{i:Nat}{as:List Addr}{x y:Value}(L:ZLaw prog w z S fp xs ys St)(hlo:∀b∈fp,b≤lo)(hS:S≤lo)(g:Lz xs ys S lo fp St h₁ i h as)(hx:xs[i]? = some x)(hy:ys[i]? = some y)(st:St (i+1) h')(p:IsPair h' h.objs.size x y)
  (k:∀c o,c∉fp→h.get? c=some o→h'.get? c=some o):Lz xs ys S lo fp St h₁ (i+1) (h'.update S (Obj.mapSeq (·.push (Value.ref h.objs.size)))) (as++[h.objs.size]):=by
 obtain⟨c,hc⟩:=g.lst;have sl:S < h.objs.size:=Heap.lt_size hc;have up:∀b o,b≠S→h'.get? b=some o→(h'.update S (Obj.mapSeq (·.push (Value.ref h.objs.size)))).get? b=some o:=by
  intro b o hb e;rw[Heap.get?_update_other _ _ (Ne.symm hb)];exact e
 have pz:=up _ _ (Jb sl) p;constructor
 ·exact L.keep _ _ _ st up
 ·have q:=Heap.get?_update_self (Obj.mapSeq (·.push (Value.ref h.objs.size))) (k S _ L.off hc) rfl
  have e:(as++[h.objs.size]).map Value.ref=as.map Value.ref++[Value.ref h.objs.size]:=Gg;rw[e];exact⟨_,by simpa [Obj.mapSeq]using q⟩
 ·rw[Yzj,g.len]
  rfl
 ·intro b o b1 b2 e
  exact up b o b1 (k b o b2 (g.old b o b1 b2 e))
 ·intro j a hj
  by_cases lt:j < as.length
  ·rw[Dr lt]at hj
   obtain⟨l1,x',y',q1,q2,q3⟩:=g.new j a hj;refine⟨l1,x',y',q1,q2,up a _ (Jb (Ui hS l1)) (k a _ ?_ q3)⟩;intro hm;exact absurd (hlo a hm) (Nat.not_le_of_lt l1)
  ·rw[Hh (Wm lt)]at hj
   have j0:j - as.length=0:=by
    cases q:j - as.length with
    | zero=>rfl
    | succ n=>rw[q]at hj;cases hj
   have je:j=i:=by have:=g.len;omega
   rw[j0]at hj
   cases hj
   subst je;exact⟨g.big,x,y,hx,hy,pz⟩
 ·rw[List.pairwise_append]
  refine⟨g.ris,List.pairwise_singleton _ _,?_⟩;intro a ha b hb;rw[Aq.mp hb];exact g.there a ha
 ·exact Nat.lt_trans g.big (Heap.lt_size pz)
end
def ZStT(z TI TO i1 i2 l1 l2 S:Addr)(xs ys:Array Value)(i:Nat)(h:Heap):Prop:=
 (h.IsTupleIter i1 l1 i∧h.IsTuple l1 xs)∧(h.IsTupleIter i2 l2 i∧h.IsTuple l2 ys)∧IsPair h TI (.ref i1) (.ref i2)∧(∃x y,IsPair h TO x y) ∧
  (IsZip h z TI TO .none∨∃(T:Addr) (f:Bool) (oT:Obj),0 < i∧IsZipHeld h z TI TO T f∧h.get? T=some oT∧T∉[S,z,i1,i2])
theorem ZStT.at{z TI TO i1 i2 l1 l2 S:Addr}{xs ys:Array Value}{i:Nat}{h h':Heap}(st:ZStT z TI TO i1 i2 l1 l2 S xs ys i h)(nS:S∉[z,TI,TO,i1,i2,l1,l2])(k:∀b o,b≠S→h.get? b=some o→h'.get? b=some o):ZStT z TI TO i1 i2 l1 l2 S xs ys i h':=by
 simp only[Ad,Yzm,or_false,not_or]at nS;obtain⟨n1,n2,n3,n4,n5,n6,n7⟩:=nS;obtain⟨⟨a1,a2⟩,⟨b1,b2⟩,p,⟨x,y,q⟩,r⟩:=st;refine⟨⟨a1.at λo e=>k _ o (Ne.symm n4) e,a2.at λo e=>k _ o (Ne.symm n6) e⟩,⟨b1.at λo e=>k _ o (Ne.symm n5) e,b2.at λo e=>k _ o (Ne.symm n7) e⟩,k _ _ (Ne.symm n2) p,⟨x,y,k _ _ (Ne.symm n3) q⟩,?_⟩
 rcases r with r|⟨T,f,oT,i0,r1,r2,r3⟩
 ·exact .inl (k _ _ (Ne.symm n1) r)
 ·exact .inr ⟨T,f,oT,i0,k _ _ (Ne.symm n1) r1,k _ _ (λe=>r3 (by simp[e])) r2,r3⟩
theorem ZStT.low{z TI TO i1 i2 l1 l2 S:Addr}{xs ys:Array Value}{i:Nat}{h:Heap}(st:ZStT z TI TO i1 i2 l1 l2 S xs ys i h):(∃o,h.get? z=some o∧o.cls = .type "zip")∧∀b∈[z,TI,TO,i1,i2],b < h.objs.size:=by
 obtain⟨⟨⟨_,a1,_⟩,_⟩,⟨⟨_,b1,_⟩,_⟩,p,⟨_,_,q⟩,r⟩:=st;have zz:∃o,h.get? z=some o∧o.cls = .type "zip" := by
  rcases r with r|⟨_,_,_,_,r,_⟩
  ·exact⟨_,r,rfl⟩
  ·exact⟨_,r,rfl⟩
 refine⟨zz,λb hb=>?_⟩;obtain⟨oz,ez,_⟩:=zz;simp only[Ad,Yzm,or_false]at hb
 rcases hb with e|e|e|e|e
 ·rw[e];exact Heap.lt_size ez
 ·rw[e];exact Heap.lt_size p
 ·rw[e];exact Heap.lt_size q
 ·rw[e];exact Heap.lt_size a1
 ·rw[e];exact Heap.lt_size b1
def ZStL(z TI TO i1 i2 l1 l2 S:Addr)(xs ys:Array Value)(i:Nat)(h:Heap):Prop:=
 (h.IsListIter i1 l1 i∧h.IsList l1 xs)∧(h.IsListIter i2 l2 i∧h.IsList l2 ys)∧IsPair h TI (.ref i1) (.ref i2)∧(∃x y,IsPair h TO x y) ∧
  (IsZip h z TI TO .none∨∃(T:Addr) (f:Bool) (oT:Obj),0 < i∧IsZipHeld h z TI TO T f∧h.get? T=some oT∧T∉[S,z,i1,i2])
theorem ZStL.at{z TI TO i1 i2 l1 l2 S:Addr}{xs ys:Array Value}{i:Nat}{h h':Heap}(st:ZStL z TI TO i1 i2 l1 l2 S xs ys i h)(nS:S∉[z,TI,TO,i1,i2,l1,l2])(k:∀b o,b≠S→h.get? b=some o→h'.get? b=some o):ZStL z TI TO i1 i2 l1 l2 S xs ys i h':=by
 simp only[Ad,Yzm,or_false,not_or]at nS;obtain⟨n1,n2,n3,n4,n5,n6,n7⟩:=nS;obtain⟨⟨a1,a2⟩,⟨b1,b2⟩,p,⟨x,y,q⟩,r⟩:=st;refine⟨⟨a1.at λo e=>k _ o (Ne.symm n4) e,a2.at λo e=>k _ o (Ne.symm n6) e⟩,⟨b1.at λo e=>k _ o (Ne.symm n5) e,b2.at λo e=>k _ o (Ne.symm n7) e⟩,k _ _ (Ne.symm n2) p,⟨x,y,k _ _ (Ne.symm n3) q⟩,?_⟩
 rcases r with r|⟨T,f,oT,i0,r1,r2,r3⟩
 ·exact .inl (k _ _ (Ne.symm n1) r)
 ·exact .inr ⟨T,f,oT,i0,k _ _ (Ne.symm n1) r1,k _ _ (λe=>r3 (by simp[e])) r2,r3⟩
theorem ZStL.low{z TI TO i1 i2 l1 l2 S:Addr}{xs ys:Array Value}{i:Nat}{h:Heap}(st:ZStL z TI TO i1 i2 l1 l2 S xs ys i h):(∃o,h.get? z=some o∧o.cls = .type "zip")∧∀b∈[z,TI,TO,i1,i2],b < h.objs.size:=by
 obtain⟨⟨⟨_,a1,_⟩,_⟩,⟨⟨_,b1,_⟩,_⟩,p,⟨_,_,q⟩,r⟩:=st;have zz:∃o,h.get? z=some o∧o.cls = .type "zip" := by
  rcases r with r|⟨_,_,_,_,r,_⟩
  ·exact⟨_,r,rfl⟩
  ·exact⟨_,r,rfl⟩
 refine⟨zz,λb hb=>?_⟩;obtain⟨oz,ez,_⟩:=zz;simp only[Ad,Yzm,or_false]at hb
 rcases hb with e|e|e|e|e
 ·rw[e];exact Heap.lt_size ez
 ·rw[e];exact Heap.lt_size p
 ·rw[e];exact Heap.lt_size q
 ·rw[e];exact Heap.lt_size a1
 ·rw[e];exact Heap.lt_size b1
def ZStM(z TI TO i1 i2 l1 l2 S:Addr)(xs ys:Array Value)(i:Nat)(h:Heap):Prop:=
 (h.IsListIter i1 l1 i∧h.IsList l1 xs)∧(h.IsTupleIter i2 l2 i∧h.IsTuple l2 ys)∧IsPair h TI (.ref i1) (.ref i2)∧(∃x y,IsPair h TO x y) ∧
  (IsZip h z TI TO .none∨∃(T:Addr) (f:Bool) (oT:Obj),0 < i∧IsZipHeld h z TI TO T f∧h.get? T=some oT∧T∉[S,z,i1,i2])
theorem ZStM.at{z TI TO i1 i2 l1 l2 S:Addr}{xs ys:Array Value}{i:Nat}{h h':Heap}(st:ZStM z TI TO i1 i2 l1 l2 S xs ys i h)(nS:S∉[z,TI,TO,i1,i2,l1,l2])(k:∀b o,b≠S→h.get? b=some o→h'.get? b=some o):ZStM z TI TO i1 i2 l1 l2 S xs ys i h':=by
 simp only[Ad,Yzm,or_false,not_or]at nS;obtain⟨n1,n2,n3,n4,n5,n6,n7⟩:=nS;obtain⟨⟨a1,a2⟩,⟨b1,b2⟩,p,⟨x,y,q⟩,r⟩:=st;refine⟨⟨a1.at λo e=>k _ o (Ne.symm n4) e,a2.at λo e=>k _ o (Ne.symm n6) e⟩,⟨b1.at λo e=>k _ o (Ne.symm n5) e,b2.at λo e=>k _ o (Ne.symm n7) e⟩,k _ _ (Ne.symm n2) p,⟨x,y,k _ _ (Ne.symm n3) q⟩,?_⟩
 rcases r with r|⟨T,f,oT,i0,r1,r2,r3⟩
 ·exact .inl (k _ _ (Ne.symm n1) r)
 ·exact .inr ⟨T,f,oT,i0,k _ _ (Ne.symm n1) r1,k _ _ (λe=>r3 (by simp[e])) r2,r3⟩
theorem ZStM.low{z TI TO i1 i2 l1 l2 S:Addr}{xs ys:Array Value}{i:Nat}{h:Heap}(st:ZStM z TI TO i1 i2 l1 l2 S xs ys i h):(∃o,h.get? z=some o∧o.cls = .type "zip")∧∀b∈[z,TI,TO,i1,i2],b < h.objs.size:=by
 obtain⟨⟨⟨_,a1,_⟩,_⟩,⟨⟨_,b1,_⟩,_⟩,p,⟨_,_,q⟩,r⟩:=st;have zz:∃o,h.get? z=some o∧o.cls = .type "zip" := by
  rcases r with r|⟨_,_,_,_,r,_⟩
  ·exact⟨_,r,rfl⟩
  ·exact⟨_,r,rfl⟩
 refine⟨zz,λb hb=>?_⟩;obtain⟨oz,ez,_⟩:=zz;simp only[Ad,Yzm,or_false]at hb
 rcases hb with e|e|e|e|e
 ·rw[e];exact Heap.lt_size ez
 ·rw[e];exact Heap.lt_size p
 ·rw[e];exact Heap.lt_size q
 ·rw[e];exact Heap.lt_size a1
 ·rw[e];exact Heap.lt_size b1
end SF
namespace SF
open PySem PySem.Spec PyProof.Rows L2
variable[TN]
structure TxSet(P:Program)(w:World)(h:Heap)(a:Addr)(l:List Str)(D:Froz.SD):Prop where
 here:h.get? a=some (Froz.sObj "set" D)
 ok:Froz.TxOk P w D l
 ris:Ris D.2.2.place.toList
 led:w.params.followText "set-order" = true∨D.2.2.led=true
def Lj(t:SetTable):SetTable:=if t.plain=true then{ t with plain:=false }else t
theorem Vm(t:SetTable):(Lj t).place=t.place∧(Lj t).led=t.led:=by
 unfold Lj
 split<;>exact⟨rfl,rfl⟩
theorem Abz{D:Froz.SD}{h:Int}{v:Value}(r:Ris D.2.2.place.toList):Ris (Froz.addTx h v D).2.2.place.toList∧(Froz.addTx h v D).2.2.led=D.2.2.led:=by
 have n1:=layNew_ris D.2.2 D.1 h v r;have n2:=layNew_led D.2.2 D.1 h v;obtain⟨p1,p2⟩:=Vm (layNew D.2.2 D.1 h v).2.1;show Ris (Froz.tailTx _ _ (Lj _) _).2.2.place.toList∧(Froz.tailTx _ _ (Lj _) _).2.2.led=_
 unfold Froz.tailTx;split
 ·exact⟨relayAll_ris _ _ _,(relayAll_led _ _ _).trans (p2.trans n2)⟩
 ·exact⟨by show Ris (Lj _).place.toList;rw[p1];exact n1,p2.trans n2⟩
section
variable{P:Program}{w:World}{A:Around}{E:Value→Shared→Prop}{s:Shared}{a:Addr}{l:List Str}{D:Froz.SD}{k:Str}{u:Tok}
theorem Asw(T:TxSet P w s.heap a l D)(hk:k∈l)(hb:l.length < scanBound){Q:Bool→Shared→Prop}(h:Q false s):wpAny (model P w) A (setAddHashed a (.str k u) (hashStr w k)) Q E s:=by
 obtain⟨es,ep,t⟩:=D;obtain⟨el,mem,sz,fit⟩:=T.ok;have own:(strKind P w).is k (.str k u)=true:=Froz.is_str k u;obtain⟨e,he,ke⟩:=(mem k).mp hk;obtain⟨j,hj⟩:∃j,es.toList.findIdx? (λe=>(strKind P w).is k e.2)=some j:=by
  cases q:es.toList.findIdx? (λe=>(strKind P w).is k e.2)with
  | some j=>exact⟨j,rfl⟩
  | none=>exact absurd ke (by simpa using List.findIdx?_eq_none_iff.mp q e he)
 have sc:=byScan_of (x:=.str k u) rfl (show es.size < scanBound from Ui (Ky sz) hb) el;have st:∀{A':Around} {E':Value→Shared→Prop} {Q':_→Shared→Prop},Q' (es,ep,t) s→wpAny (model P w) A' (setState a) Q' E' s:=λq=>wpAny_setState_of T.here rfl fit q
 have met:∀{A':Around} {E':Value→Shared→Prop} {Q':_→Shared→Prop},Q' (ScanMet.found (0+j)) s→wpAny (model P w) A' (setScan a (.str k u) (hashStr w k) true es) Q' E' s:=λq=>wpAny_setScan_of (knd:=strKind P w) own T.here rfl fit el (by rw[hj];exact q)
 unfold setAddHashed setAddHashedIn setAddByScan
 wp_walk using st,met,sc
 exact h
def R6(k:Str)(l:List Str):List Str:=if k∈l then l else k::l
theorem Anf(k:Str)(l:List Str):(R6 k l).length≤l.length+1:=by
 unfold R6
 split<;>simp
theorem TxSet.add(T:TxSet P w s.heap a l D)(hb:l.length+1 < scanBound){Q:Bool→Shared→Prop}(h:∀b h' D',TxSet P w h' a (R6 k l) D'→Heap.SameBut a s.heap h'→Q b { s with heap:=h' }):wpAny (model P w) A (setAddHashed a (.str k u) (hashStr w k)) Q E s:=by
 by_cases hk:k∈l
 ·have e:R6 k l=l:=if_pos hk
  exact Asw T hk (Nat.lt_of_succ_lt hb) (h false s.heap D (e.symm ▸ T) (Heap.SameBut.refl ..))
 ·have e:R6 k l=k::l:=if_neg hk
  have r:=Abz (h:=hashStr w k) (v:=.str k u) T.ris;refine Froz.add_x T.here T.ok hk hb (h true _ (Froz.addTx (hashStr w k) (.str k u) D) ?_ (Heap.SameBut.update ..));rw[e];exact⟨Froz.get_upd _ T.here rfl,Froz.add_ok u T.ok,r.1,by rw[r.2];exact T.led⟩
theorem TxSet.typeIs(T:TxSet P w s.heap a l D):s.TypeIs (.ref a) "set" := ⟨_,T.here,rfl⟩
theorem TxSet.add1(T:TxSet P w s.heap a l D)(hb:l.length+1 < scanBound){Q:Bool→Shared→Prop}(h:∀b h' D',TxSet P w h' a (R6 k l) D'→Heap.SameBut a s.heap h'→Q b { s with heap:=h',toks:=s.toks+1 }):wpAny (model P w) A (setAdd a (.str k u)) Q E s:=by
 unfold setAdd;exact wpAny_holding (wpAny_bind ((strKind P w).pyHash (Froz.is_str k u) (TxSet.add (s:={ s with toks:=s.toks+1 }) T hb h)))
theorem TxSet.call_add(T:TxSet P w s.heap a l D)(hb:l.length+1 < scanBound){Q:Value→Shared→Prop}(h:∀h' D',TxSet P w h' a (R6 k l) D'→Heap.SameBut a s.heap h'→Q .none { s with heap:=h',toks:=s.toks+1 }):wpAny (model P w) A (call (.builtin "set.add") [.ref a,.str k u]) Q E s:=by
 refine wpAny_call_entry F.slot_set_add T.typeIs F.entry_set_add ?_ (F.args_set_add_2 _ _);have put:∀{A':Around} {E':Value→Shared→Prop} {Q':Bool→Shared→Prop},(∀b h' D',TxSet P w h' a (R6 k l) D'→Heap.SameBut a s.heap h'→Q' b { s with heap:=h',toks:=s.toks+1 })→wpAny (model P w) A' (setAdd a (.str k u)) Q' E' s:=λq=>T.add1 hb q
 unfold Builtin.«set.add» Builtin.Frozenset.oneOther
 wp_walk using put
 intro b h' D' T' sb
 wp_walk
 exact⟨_,rfl,h h' D' T' sb⟩
theorem TxSet.new(h0:Heap):TxSet P w (h0.push { cls:=.type "set", dict:=none,data:=.set #[] 0 (.fresh 0 0 (!w.params.followText "set-order")) }) h0.objs.size [] (#[],0,.fresh 0 0 (!w.params.followText "set-order")):=
 ⟨Heap.get?_push_size _ rfl,.nil rfl,List.Pairwise.nil,by
  show _∨(!w.params.followText "set-order")=true
  cases w.params.followText "set-order" <;> simp⟩
def R7(xs:List Str)(l:List Str):List Str:=xs.foldl (λl k=>R6 k l) l
theorem Akw{I S:Addr}{fp wr:List Addr}{Pv:Nat→Value→Prop}{St:Nat→Heap→Prop}{xs:List Str}{R:Result→Shared→Prop}(W:Walks P w A.in1 I fp wr xs.length Pv St)(hS:S∉fp)(txt:∀i v,Pv i v→∃k u,v = .str k u∧xs[i]? = some k) :
  ∀(r:List Str) (i:Nat) (s:Shared) (l:List Str) (D:Froz.SD),xs.drop i=r→i≤xs.length→St i s.heap→TxSet P w s.heap S l D→l.length+r.length < scanBound →
   (∀s' D',TxSet P w s'.heap S (R7 r l) D'→(∀b o,b≠S→b∉wr→s.heap.get? b=some o→s'.heap.get? b=some o)→s'.gens=s.gens→s'.os=s.os→R (.ok (.ret .none)) s') →
   codeAny (model P w) A (.builtin "set.update.loop" ⟨[.ref S,.ref I],[]⟩) R s:=by
 intro r;have nw:S∉wr:=λh=>hS (W.sub S h)
 induction r with
 | nil=>
  intro i s l D hd hi st T _ h;have ei:i=xs.length:=by have:=congrArg Dh hd;simp at this;omega
  subst ei;refine codeAny_builtin PyProof.Rows.F.entry_set_update_loop ?_;rw[Around.under_plainId PyProof.Rows.F.plain_set_update_loop _];unfold Builtin.«set.update.loop»; have stop:=λQ E=>W.done s Q E st
  wp_walk using stop
  intro h' tk keep
  wp_walk
  exact h _ D ⟨keep S _ nw T.here,T.ok,T.ris,T.led⟩ (λb o _=>keep b o) rfl rfl
 | cons x r ih=>
  intro i s l D hd hi st T hb h;have lt:i < xs.length:=by have:=congrArg Dh hd;simp at this;omega
  have hx:xs[i]? = some x:=by
   have:=congrArg (λz:List Str=>z[0]?) hd
   simpa using this
  have hr:xs.drop (i+1)=r:=by
   have:=congrArg (λz:List Str=>z.drop 1) hd
   simpa using this
  refine codeAny_builtin PyProof.Rows.F.entry_set_update_loop ?_;rw[Around.under_plainId PyProof.Rows.F.plain_set_update_loop _];unfold Builtin.«set.update.loop»; have next:=λQ E=>W.item i s Q E lt st
  wp_walk using next
  intro v h' tk pv st' keep;obtain⟨k,u,rfl,hk⟩:=txt i v pv
  cases hx.symm.trans hk
  have T':TxSet P w h' S l D:=⟨keep S _ nw T.here,T.ok,T.ris,T.led⟩;have put:=λA' E' Q'=>TxSet.add1 (A:=A') (E:=E') (s:={ s with heap:=h',toks:=tk }) (u:=u) (k:=x) T' (by simp at hb;omega) (Q:=Q')
  wp_walk using put
  intro b h2 D2 T2 sb
  wp_walk
  refine⟨plainId_quiet PyProof.Rows.F.plain_set_update_loop _,ih (i+1) _ _ D2 hr lt (W.frame _ _ _ st' λb hb o e=>?_) T2 ?_ λs' D' T3 k3=>h s' D' T3 λb o n1 n2 e=>k3 b o n1 n2 ?_⟩
  ·exact(sb.2 b λe=>hS (e ▸ hb)).trans e
  ·have:=Anf x l
   simp at hb
   omega
  ·exact(sb.2 b n1).trans (keep b o n2 e)
end
end SF
namespace SF
open PySem PySem.Spec PyProof.Rows L2
variable[TN]
section
variable{P:Program}{w:World}{A:Around}{E:Value→Shared→Prop}{s:Shared}{a:Addr}{l:List Str}{D:Froz.SD}{k:Str}{u:Tok}
theorem Xc{T:String}{p I:Addr}{h2:Heap}{Post:Shared→Prop}{Q:Value→Shared→Prop}(hT:∀o,s.TypeIs (.ref p) T∧Shared.TypeIs { s with heap:=s.heap.push o } (.ref p) T)(n1:isSubtype (.type T) (.type "set")=pure false)(n2:isSubtype (.type T) (.type "frozenset")=pure false)(n3:(Value.type T == Value.type "dict")=false)(n4:(Value.type T == Value.type "set")=false)(n5:(Value.type T == Value.type "frozenset")=false)
  (it:∀(A':Around) (E':Value→Shared→Prop) (Q':Value→Shared→Prop),Q' (.ref I) { s with heap:=h2 }→wpAny (model P w) A' (pyIter (.ref p)) Q' E' { s with heap:=s.heap.push { cls:=.type "set", dict:=none,data:=.set #[] 0 (.fresh 0 0 (!w.params.followText "set-order")) } })
  (loop:∀R:Result→Shared→Prop,(∀s',Post s'→R (.ok (.ret .none)) s')→codeAny (model P w) A.in1.in1 (.builtin "set.update.loop" ⟨[.ref s.heap.objs.size,.ref I],[]⟩) R { s with heap:=h2 })
  (h:∀s',Post s'→Q (.ref s.heap.objs.size) s'):wpAny (model P w) A (call (.type "set") [.ref p]) Q E s:=by
 have ck:=F.typeCall_set_1 (.ref p);have mk:=F.called_set.made;have sb:=F.called_set.sub;have h1:=F.called_set.notType;have h2:=F.called_set.canCreate;obtain⟨c,tl,mro⟩:=F.called_set.mro;refine wpAny_call (codeAny_of_tree (wpAny_pure ⟨Code.quiet_builtin _ (by decide +kernel),codeAny_builtin F.entry_type_call ?_⟩));rw[Around.under_plain (weight_type_call_type "set" [.ref p] []) rfl];unfold Builtin.«type.__call__»
 wp_walk using ck,mk,sb,h1,h2,mro
 refine codeAny_mono (L2.code_set_led1 (.ref p) (E:=E) (Q₁:=λo s1=>o = .ref s.heap.objs.size∧s1={ s with heap:=s.heap.push { cls:=.type "set", dict:=none,data:=.set #[] 0 (.fresh 0 0 (!w.params.followText "set-order")) } }) ⟨rfl,rfl⟩) λr s1 q=>?_
 rcases r with e|f
 ·exact q
 ·cases f<;>first|exact q.elim|skip
  obtain⟨e1,e2⟩:=q;subst e1;have T0:TxSet P w s1.heap s.heap.objs.size [] (#[],0,.fresh 0 0 (!w.params.followText "set-order")):=by rw[e2];exact .new s.heap
  have isT:s1.TypeIs (.ref p) T:=by rw[e2];exact(hT _).2
  rw[← e2]at it;clear e2;have isSet:=T0.typeIs;have look:=F.called_set.init.lookup;have bind:=F.called_set.init.bind (.ref s.heap.objs.size)
  wp_walk using isSet,sb,look,bind
  refine codeAny_call_builtin F.called_set.init.plain F.entry_set_init (check_set_init_1 isSet ?_);unfold Builtin.«set.__init__» noKeywords Builtin.Frozenset.updateFrom;have st:=λA' E' Q'=>wpAny_setState_of (prog:=P) (w:=w) (A:=A') (E:=E') (Q:=Q') T0.here rfl T0.ok.fit
  wp_walk using it,st,isSet,isT,n1,n2
  refine loop _ λs' T3=>?_
  wp_walk
  exact h s' T3
theorem Acq{p:Addr}{items:Array Value}{xs:List Str}(hh:A.handled=none)(hl:s.heap.IsList p items)(hx:L2.Vals (xs.map V.str) items.toList)(hb:xs.length < scanBound){Q:Value→Shared→Prop}
  (h:∀s' D,TxSet P w s'.heap s.heap.objs.size (R7 xs []) D→(∀b o,s.heap.get? b=some o→s'.heap.get? b=some o)→s'.gens=s.gens→s'.os=s.os→Q (.ref s.heap.objs.size) s'):wpAny (model P w) A (call (.type "set") [.ref p]) Q E s:=by
 have T:TxSet P w (s.heap.push { cls:=.type "set", dict:=none,data:=.set #[] 0 (.fresh 0 0 (!w.params.followText "set-order")) }) s.heap.objs.size [] (#[],0,.fresh 0 0 (!w.params.followText "set-order")):=.new s.heap;have lp:p < s.heap.objs.size:=by obtain⟨_,q,_⟩:=hl;exact Heap.lt_size q
 have z1:(s.heap.push { cls:=.type "set", dict:=none,data:=.set #[] 0 (.fresh 0 0 (!w.params.followText "set-order")) }).objs.size=s.heap.objs.size+1:=Heap.size_push ..;have hl1:(s.heap.push { cls:=.type "set", dict:=none,data:=.set #[] 0 (.fresh 0 0 (!w.params.followText "set-order")) }).IsList p items:=hl.push _;have old:∀b o,s.heap.get? b=some o→(s.heap.push { cls:=.type "set", dict:=none,data:=.set #[] 0 (.fresh 0 0 (!w.params.followText "set-order")) }).get? b=some o:=λb o=>Heap.get?_push_of_some _
 have zs:items.size=xs.length:=by
  have:=hx.length
  simpa using this.symm
 refine Xc (T := "list") (Post:=λs'=>(∃D,TxSet P w s'.heap s.heap.objs.size (R7 xs []) D)∧(∀b o,s.heap.get? b=some o→s'.heap.get? b=some o)∧s'.gens=s.gens∧s'.os=s.os) (λo=>⟨hl.typeIs,(hl.push o).typeIs⟩) F.sub_list_set F.sub_list_frozenset (by decide) (by decide) (by decide) (λA' E' Q' q=>wpAny_pyIter_list hl1 q) (λR post=>?_) ?_
 ·generalize s.heap.push { cls:=.type "set", dict:=none,data:=.set #[] 0 (.fresh 0 0 (!w.params.followText "set-order")) }=h1 at T z1 hl1 old ⊢
  have T2:TxSet P w (h1.push { cls:=.type "list_iterator", data:=.fields #[.ref p,.int 0 0] }) s.heap.objs.size [] (#[],0,.fresh 0 0 (!w.params.followText "set-order")):=⟨Heap.get?_push_of_some _ T.here,T.ok,T.ris,T.led⟩;have apart:s.heap.objs.size∉[h1.objs.size,p]:=by
   simp only[Ad,Yzm,or_false,not_or];exact⟨by rw[z1];exact Cp (Nat.lt_succ_self _),Jb lp⟩
  have walk:=Walks.list (prog:=P) (w:=w) (A:=A.in1.in1.in1) hh h1.objs.size p (by rw[z1];exact Cp (En lp)) items;rw[zs]at walk;refine Akw walk apart (λi v hv=>?_) xs 0 { s with heap:=h1.push { cls:=.type "list_iterator", data:=.fields #[.ref p,.int 0 0] } } [] _ rfl (Am _) ⟨⟨_,Heap.get?_push_size _ rfl,rfl,rfl⟩,hl1.push _⟩ T2 (by simpa using hb) λs' D' T3 k3 g3 o3=>?_
  ·have hi:i < xs.length:=by rw[← zs];exact(Array.getElem?_eq_some_iff.mp hv).1
   obtain⟨u,e,r⟩:=hx.get (i:=i) (x:=.str xs[i]) (by simp[hi]);rw[Array.getElem?_toList,hv]at e
   cases e
   obtain⟨tk,rfl⟩:=r;exact⟨_,tk,rfl,by simp[hi]⟩
  ·refine post s' ⟨⟨D',T3⟩,λb o e=>?_,g3,o3⟩
   have lb:=Heap.lt_size e;exact k3 b o (Cp lb) (by simp only[Ad,Yzm,or_false];rw[z1];exact Cp (En lb)) (Heap.get?_push_of_some _ (old b o e))
 ·rintro s' ⟨⟨D,T3⟩,k,g,o⟩
  exact h s' D T3 k g o
end
end SF
namespace SF
open PySem PySem.Spec PyProof.Rows L2
variable[TN]
def leT(a b:List Nat):Bool:=!ltS b a
theorem Aa7:∀a b:List Nat,ltS a b=false→ltS b a=false→a=b
 | [],[],_,_=>rfl
 | [],_::_,h,_=>by simp[ltS]at h
 | _::_,[],_,h=>by simp[ltS]at h
 | a::as,b::bs,h,h'=>by
  simp only[ltS]at h h';by_cases e:a=b
  ·subst e
   simp only[Th,if_false,if_true]at h h';rw[Aa7 as bs h h']
  ·have e':¬ b=a:=λq=>e q.symm
   simp only[e,e',if_false]at h h'
   split at h
   ·cases h
   ·split at h'
    ·cases h'
    ·omega
theorem Aa6:∀a b:List Nat,ltS a b=true→ltS b a=false
 | [],[],h=>by simp[ltS]at h
 | [],_::_,_=>rfl
 | _::_,[],h=>by simp[ltS]at h
 | a::as,b::bs,h=>by
  simp only[ltS]at h ⊢;by_cases e:a=b
  ·subst e
   simp only[Th,if_false,if_true]at h ⊢;exact Aa6 as bs h
  ·have e':¬ b=a:=λq=>e q.symm
   simp only[e,e',if_false]at h ⊢
   split at h
   ·rw[if_neg (by omega)]
   ·cases h
theorem Aeh:∀a b c:List Nat,ltS b a=false→ltS c b=false→ltS c a=false
 | [],b,[],_,_=>rfl
 | _::_,b,[],h,h'=>by
  cases b with
  | nil=>simp[ltS]at h
  | cons b bs=>simp[ltS]at h'
 | [],b,_::_,_,_=>rfl
 | a::as,[],_::_,h,_=>by simp[ltS]at h
 | a::as,b::bs,c::cs,h,h'=>by
  simp only[ltS]at h h' ⊢;by_cases e1:b=a
  ·subst e1
   by_cases e2:c=b
   ·subst e2
    simp only[Th,if_false,if_true]at h h' ⊢;exact Aeh as bs cs h h'
   ·simp only[e2,if_false]at h' ⊢
    exact h'
  ·simp only[e1,if_false]at h
   by_cases e2:c=b
   ·subst e2
    simp only[e1,if_false]at ⊢;exact h
   ·simp only[e2,if_false]at h'
    have n1:¬ b < a:=λq=>by rw[if_pos q]at h;cases h
    have n2:¬ c < b:=λq=>by rw[if_pos q]at h';cases h'
    rw[if_neg (by omega),if_neg (by omega)]
theorem Xv(a b:List Nat):(leT a b || leT b a)=true:=by
 unfold leT
 cases h:ltS b a with
 | false=>rfl
 | true=>rw[Aa6 b a h];rfl
theorem Xu(a b c:List Nat)(h:leT a b=true)(h':leT b c=true):leT a c=true:=by
 unfold leT at *;rw[Bf]at *;exact Aeh a b c h h'
theorem W9{l m:List (List Nat)}(p:l.Perm m):l.mergeSort leT=m.mergeSort leT:=by
 refine List.Perm.eq_of_pairwise (le:=λa b=>leT a b=true) (λa b _ _ h h'=>?_) (Nh Xu Xv l) (Nh Xu Xv m) (((Fo l leT).trans p).trans (Fo m leT).symm);unfold leT at h h';rw[Bf]at h h';exact Aa7 a b h' h
theorem Afp(l:List (List Nat)):Df (l.map .str)=(l.mergeSort leT).map .str:=by
 unfold Df;refine(Tq λa _ b _=>?_).symm;show leT a b = !ltD (.str b) (.str a)
 rw[ltD];rfl
theorem T7{α:Type}[DecidableEq α]:∀{l m:List α},l.Nodup→(∀x∈l,x∈m)→m.length=l.length→m.Perm l
 | [],m,_,_,h=>by rw[List.length_eq_zero_iff.mp h]
 | x::l,m,nd,sub,h=>by
  have hx:=sub x (by simp);have nd':=Hw.mp nd;have p:=List.perm_cons_erase hx;refine p.trans (.cons x (T7 nd'.2 (λy hy=>?_) ?_))
  ·exact(List.mem_erase_of_ne λ(e:y=x)=>nd'.1 (e ▸ hy)).mpr (sub y (by simp[hy]))
  ·have:=p.length_eq
   simp only[Yzk]at this h;omega
def Qx:Value→Str
 | .str k _=>k
 | _=>⟨#[]⟩
theorem Z8:∀{vs:List Value},(∀v∈vs,∃k u,v = .str k u)→PySem.W.EachIs (λv d=>∃k u,v=Value.str k u∧d=Dat.str k.cps.toList) vs (vs.map λv=>Dat.str (Qx v).cps.toList)
 | [],_=>.nil
 | v::vs,h=>by
  obtain⟨k,u,rfl⟩:=h v (by simp);exact .cons ⟨k,u,rfl,rfl⟩ (Z8 λv hv=>h v (by simp[hv]))
theorem Z6:∀{out:List Value} {l:List (List Nat)},PySem.W.EachIs (λv d=>∃k u,v=Value.str k u∧d=Dat.str k.cps.toList) out (l.map .str)→L2.Vals (l.map λs=>V.str ⟨s.toArray⟩) out
 | _,[],h=>by cases h;exact .nil
 | _,s::l,h=>by
  cases h with
  | cons a b=>
   obtain⟨k,u,rfl,e⟩:=a
   cases e
   exact .cons ⟨u,by simp⟩ (Z6 b)
section
variable{P:Program}{w:World}{A:Around}{E:Value→Shared→Prop}{s:Shared}{a:Addr}{l:List Str}{D:Froz.SD}{k:Str}{u:Tok}
theorem TxSet.order(T:TxSet P w s.heap a l D)(nd:l.Nodup){vs:List Value}(pm:vs.Perm (D.1.toList.map (·.2))):(∀v∈vs,∃k u,v = .str k u)∧(vs.map Qx).Perm l:=by
 obtain⟨el,mem,sz,_⟩:=T.ok;have tx:∀e∈D.1.toList,∃k u,e.2 = .str k u:=λe he=>by
  obtain⟨⟨k,hk,_⟩,_⟩:=el e he
  cases q:e.2<;>rw[q]at hk<;>first|exact⟨_,_,rfl⟩|exact absurd hk Bv
 refine⟨λv hv=>?_,(pm.map Qx).trans (T7 nd (λk hk=>?_) ?_)⟩
 ·obtain⟨e,he,rfl⟩:=Ac.mp (pm.mem_iff.mp hv)
  exact tx e he
 ·obtain⟨e,he,q⟩:=(mem k).mp hk
  obtain⟨k',u,e2⟩:=tx e he;refine Ac.mpr ⟨e.2,Ac.mpr ⟨e,he,rfl⟩,?_⟩;rw[e2]at q ⊢;exact(strKind P w).inj (.str k' u) k' k (Froz.is_str k' u) q
 ·rw[Yzi,Yzi,Array.length_toList]
  exact sz
theorem Acp{tx:List (List Nat)}(T:TxSet P w s.heap a (tx.map λs=>⟨s.toArray⟩) D)(hh:A.handled=none)(hu:A.units+200 < cLine)(nd:tx.Nodup)(hb:tx.length < scanBound){Q:Value→Shared→Prop}
  (h:∀s' p out n,(∀b o,s.heap.get? b=some o→s'.heap.get? b=some o)→s'.gens=s.gens→s'.os=s.os→s.heap.objs.size≤p→s'.heap.get? p=some (seqObj "list" (List.toArray out) n) →
   L2.Vals ((tx.mergeSort leT).map λs=>V.str ⟨s.toArray⟩) out→Q (.ref p) s'):wpAny (model P w) A (call (.builtin "sorted") [.ref a]) Q E s:=by
 have ndS:(tx.map λs=>(⟨s.toArray⟩:Str)).Nodup:=by
  refine Uo.mpr (nd.imp λ{x y} q e=>q ?_);have:=congrArg (λz:Str=>z.cps.toList) e
  simpa using this
 have sz:D.1.size < scanBound:=by rw[T.ok.sz,Yzi];exact hb
 refine Calls.call_function_entry kind_sorted plain_sorted entry_sorted (args_sorted1 _) ?_;have col:=λQ'=>collect_set (P:=P) (A:=A.in1) (E:=E) (Q:=Q') hh ⟨_,T.here,rfl,rfl⟩ T.ok.fit sz T.ris T.led
 unfold Builtin.«sorted»; dsimp only[List.headD]
 wp_walk using col
 intro s1 vs k1 z1 g1 o1 pm;obtain⟨tv,pv⟩:=T.order ndS pm;have lv:vs.length=tx.length:=by rw[← Pg (f:=Qx),pv.length_eq,Yzi]
 have lz:vs.length≤sizeLine:=by rw[lv,sizeLine_eq];unfold scanBound at hb;omega
 refine wpAny_bind (wpAny_newList ?_ (by first|exact lz|(rw[Ao];exact lz)));have made:(s1.heap.push { cls:=.type "list", data:=.seq vs.toArray }).get? s1.heap.objs.size=some (seqObj "list" vs.toArray 0):=Heap.get?_push_size _ rfl;have alike:alikeAll (vs.map λv=>Dat.str (Qx v).cps.toList):=by
  intro x hx y hy;obtain⟨_,_,rfl⟩:=Ac.mp hx;obtain⟨_,_,rfl⟩:=Ac.mp hy;rw[Av]
 have okay:∀z∈vs.map λv=>Dat.str (Qx v).cps.toList,okd 60 z∧Gj z=true:=by
  intro z hz;obtain⟨_,_,rfl⟩:=Ac.mp hz;exact⟨by simp[okd],rfl⟩
 have eR:=Z8 tv;have er:PySem.W.EachIs (λv b=>∃as,Reads (s1.heap.push { cls:=.type "list", data:=.seq vs.toArray }) v (Ar b) as∧s1.heap.objs.size∉as) vs (vs.map λv=>Dat.str (Qx v).cps.toList):=eR.mono λv d ⟨k,u,e1,e2⟩=>by
  subst e1 e2;refine⟨[],?_,by simp⟩;have e:Ar (.str k.cps.toList) = .str k:=by simp[Ar]
  rw[e];exact .str k u
 refine wpAny_bind (wpAny_holding (PySem.W.list_sort_data made eR er (Ku alike) (Kr alike λz hz=>(okay z hz).2) (by rw[Yzi];exact lz) (λb hb=>?_) λout ho eo=>?_))
 ·have:=(Dg 60 _ (okay b hb).1).2
  show A.units+1+1+_ < cLine
  omega
 rw[Qz alike λz hz=>(okay z hz).1]at eo;have et:(vs.map λv=>Dat.str (Qx v).cps.toList)=((vs.map Qx).map λk=>k.cps.toList).map Dat.str:=by simp
 have ex:(tx.map λs=>(⟨s.toArray⟩:Str)).map (λk=>k.cps.toList)=tx:=by simp[Function.comp_def]
 have pm2:=pv.map λk:Str=>k.cps.toList
 rw[ex]at pm2;rw[et,Afp,W9 pm2]at eo;obtain⟨c,hc⟩:=PyProof.Rows.sortedHeap_at (vs:=vs) (out:=out.toArray) made;refine wpAny_pure ⟨_,rfl,h _ s1.heap.objs.size out c (λb o e=>?_) g1 o1 z1 hc (Z6 eo)⟩;have q:=k1 b o e;have lt:=Heap.lt_size q;exact(PyProof.Rows.sortedHeap_old (Cp lt) (by rw[Heap.size_push];exact En lt)).trans (Heap.get?_push_of_some _ q)
end
end SF
namespace SF
open PySem PySem.Spec PyProof.Rows L2
variable[TN]
def txS(s:List Nat):Str:=⟨s.toArray⟩
theorem Akx{a b:List Nat}(h:txS a=txS b):a=b:=by
 have:=congrArg (λz:Str=>z.cps.toList) h
 simpa [txS]using this
theorem Qe:∀(l acc:List (List Nat)),R7 (l.map txS) (acc.map txS)=(l.foldl (λl k=>if k∈l then l else k::l) acc).map txS
 | [],acc=>rfl
 | x::l,acc=>by
  show R7 (l.map txS) (R6 (txS x) (acc.map txS))=_
  have e:R6 (txS x) (acc.map txS)=(if x∈acc then acc else x::acc).map txS:=by
   unfold R6;have m:txS x∈acc.map txS ↔ x∈acc:=⟨λh=>by obtain⟨y,hy,e⟩:=Ac.mp h;rw[← Akx e];exact hy,λh=>Ac.mpr ⟨x,h,rfl⟩⟩;by_cases h:x∈acc
   ·rw[if_pos h,if_pos (m.mpr h)]
   ·rw[if_neg h,if_neg λq=>h (m.mp q)]
    rfl
  rw[e];exact Qe l _
theorem Nv:∀(l acc:List (List Nat)),acc.Nodup→(l.foldl (λl k=>if k∈l then l else k::l) acc).Nodup∧(l.foldl (λl k=>if k∈l then l else k::l) acc).length≤acc.length+l.length ∧
  ∀k,k∈l.foldl (λl k=>if k∈l then l else k::l) acc ↔ k∈acc∨k∈l
 | [],acc,h=>⟨h,Aa _,λk=>by simp⟩
 | x::l,acc,h=>by
  by_cases e:x∈acc
  ·have q:=Nv l acc h
   rw[List.foldl_cons,if_pos e];refine⟨q.1,by have:=q.2.1;simp only[Yzk];omega,λk=>(q.2.2 k).trans ?_⟩;rw[Ad];constructor
   ·rintro(a|a)
    ·exact .inl a
    ·exact .inr (.inr a)
   ·rintro(a|a|a)
    ·exact .inl a
    ·exact .inl (a ▸ e)
    ·exact .inr a
  ·have q:=Nv l (x::acc) (Hw.mpr ⟨e,h⟩)
   rw[List.foldl_cons,if_neg e];refine⟨q.1,by have:=q.2.1;simp only[Yzk]at this ⊢;omega,λk=>(q.2.2 k).trans ?_⟩;rw[Ad,Ad];constructor
   ·rintro((a|a)|a)
    ·exact .inr (.inl a)
    ·exact .inl a
    ·exact .inr (.inr a)
   ·rintro(a|a|a)
    ·exact .inl (.inr a)
    ·exact .inl (.inl a)
    ·exact .inr a
theorem Ve(l:List (List Nat)):(Ib l).Nodup:=(Nv l [] Iz).1
theorem Yy(l:List (List Nat)):(Ib l).length≤l.length:=by have:=(Nv l [] Iz).2.1;unfold Ib;simpa using this
theorem Ajn{l:List (List Nat)}{k:List Nat}:k∈Ib l ↔ k∈l:=((Nv l [] Iz).2.2 k).trans (by simp)
theorem mem_sortN{l:List (List Nat)}{k:List Nat}:k∈M3 l ↔ k∈l:=((Fo (Ib l) _).mem_iff).trans Ajn
theorem Vb(l:List (List Nat)):(M3 l).length≤l.length:=by
 unfold M3;rw[Cv];exact Yy l
def Hi(P:Program)(w:World)(a:Addr)(l:List (List Nat)):HO:=.ext λh=>∃D,TxSet P w h a (l.map txS) D
theorem Yw{P:Program}{w:World}{H:Hp}{h:Heap}{a:Addr}{l:List (List Nat)}{D:Froz.SD}(T:TxSet P w h a (l.map txS) D):ObjOk P w H h a (Hi P w a l):=
 ⟨⟨D,T⟩,⟨_,T.here⟩,λh1 h2 ⟨D',T'⟩ k=>⟨D',k _ T'.here,T'.ok,T'.ris,T'.led⟩⟩
theorem Ur{P:Program}{w:World}{h:Heap}{a:Addr}{l:List (List Nat)}{D:Froz.SD}(T:TxSet P w h a (l.map txS) D)(z:Nat):Hi P w a l≠Gm a z:=λe=>by
 have e2:=congrFun (HO.ext.inj e) h;have:∃D,TxSet P w h a (l.map txS) D:=⟨D,T⟩;rw[e2]at this;obtain⟨_,_,_,_,_,_,_,q,_⟩:=this;rw[T.here]at q;have:Value.type "set" = Value.type "list" := congrArg Obj.cls (Aj.inj q);exact absurd this (by decide)
theorem Step.put{k:Nat}{H H':Hp}{D:Addr}{o:HO}(st:Step k H H')(hD:H D=none)(hs:SoftAt H' D)(no:∀z,o≠Gm D z):Step k H (L2.upd H' D o):=by
 refine⟨λa u h=>?_,λm h=>?_⟩
 ·have na:a≠D:=λe=>by subst e;rw[hD]at h;cases h
  rw[upd_ne na];exact st.ext a u h
 ·have p:=st.pot m h
  refine⟨p.1,λa z q=>?_,p.3.put hs⟩;by_cases e:a=D
  ·subst e;rw[upd_same]at q;exact absurd (Aj.inj q) (no z)
  ·rw[upd_ne e]at q;exact p.2 a z q
section
variable{X:Cx}
theorem Yx{pins:List (Addr×Obj)}{σ:L2.St}{H:Hp}{s:Shared}{a:Addr}{l:List (List Nat)}(I:L2.Inv X pins σ H s)(h:H a=some (Hi X.prog X.w a l)):∃D,TxSet X.prog X.w s.heap a (l.map txS) D:=(I.hok a _ h).1
theorem Q8{pins:List (Addr×Obj)}{σ:L2.St}{H:Hp}{s s':Shared}{t:Nat}(I:L2.Inv X pins σ H { s with heap:=s'.heap,toks:=t })(g:s'.gens=s.gens)(o:s'.os=s.os):L2.Inv X pins σ H s':=
 ⟨I.ok,o.trans I.os,by rw[g];exact I.bare,I.base,I.loc,I.cell,I.free,I.freeC,I.pin,I.hok,I.len⟩
def Aoe(X:Cx):List V→Hp→VK→Prop:=λxs H Q=>∃v l,xs=[v]∧BRep X.kw H v (.lst (l.map .str))∧l.length≤1000∧∀D,H D=none→(∀z,Hi X.prog X.w D (Ib l)≠Gm D z)→Q (.ref D) (L2.upd H D (Hi X.prog X.w D (Ib l)))
theorem Rq{K:KW}{H:Hp}:∀{vs:List V} {l:List (List Nat)},Reps K H vs (l.map .str)→vs=(l.map txS).map V.str∧∀t∈l,t.length≤sizeLine
 | [],[],_=>⟨rfl,λt h=>by simp at h⟩
 | [],_::_,h=>by simp[Reps]at h
 | _::_,[],h=>by simp[Reps]at h
 | v::vs,t::l,h=>by
  rw[Yzs,Reps,Rep]at h;obtain⟨⟨e,z⟩,h⟩:=h;obtain⟨e2,z2⟩:=Rq h;subst e e2;exact⟨rfl,λx hx=>by
   rcases Ad.mp hx with rfl|q
   ·exact z
   ·exact z2 x q⟩
theorem W7{K:KW}{H:Hp}:∀{l:List (List Nat)},(∀t∈l,t.length≤sizeLine)→Reps K H (l.map λs=>V.str ⟨s.toArray⟩) (l.map .str)
 | [],_=>by rw[Cy,Cy,Reps];trivial
 | t::l,h=>by
  rw[Yzs,Yzs,Reps,Rep];exact⟨⟨rfl,h t (by simp)⟩,W7 λx hx=>h x (by simp[hx])⟩
theorem Anq(hc:X.calm=true):CallR X (.type "set") (Aoe X):=by
 rintro pins s σ H xs us Q I r ⟨v,l,rfl,hv,hl,q⟩;obtain⟨a,vs,rfl,h1,h2,h3⟩:=hv.lstAt;obtain⟨its,rv,il,_⟩:=I.list (.inl h1);rw[Vals.ref1 r];obtain⟨e,z⟩:=Rq h2;subst e;refine Acq (xs:=l.map txS) (I.ok.hd hc) il.isList (by rw[Ho];exact rv) (by rw[Yzi];unfold scanBound;omega) λs' D T k g o=>?_
 have eT:R7 (l.map txS) []=(Ib l).map txS:=Qe l [];rw[eT]at T;have J:=I.laid (h':=s'.heap) (t':=s'.toks) (o:=Hi X.prog X.w s.heap.objs.size (Ib l)) k (Aa _) (Yw T);exact⟨.ref s.heap.objs.size,_,Q8 J g o,rfl,q _ (I.hok.fresh (Aa _)) (Ur T)⟩
def Aik(X:Cx):List V→Hp→VK→Prop:=λxs H Q=>∃D l,xs=[.ref D]∧H D=some (Hi X.prog X.w D (Ib l))∧l.length≤1000∧∀p,H p=none→Q (.ref p) (L2.upd H p (.lst ((M3 l).map λs=>V.str ⟨s.toArray⟩)))
theorem Aka(hc:X.calm=true)(hu:X.A.units+200 < cLine):CallR X (.builtin "sorted") (Aik X):=by
 rintro pins s σ H xs us Q I r ⟨D,l,rfl,hD,hl,q⟩;rw[Vals.ref1 r];obtain⟨B,T⟩:=Yx I hD;have le:=Yy l;refine Acp T (I.ok.hd hc) hu (Ve l) (by unfold scanBound;omega) λs' p out n k g o hp hg rv=>?_
 have J:=I.laid (h':=s'.heap) (t':=s'.toks) (o:=.lst ((M3 l).map λs=>V.str ⟨s.toArray⟩)) k hp ⟨by rw[Yzi];have:=Vb l;rw[sizeLine_eq];omega,out,n,rv,hg⟩;exact⟨.ref p,_,Q8 J g o,rfl,q p (I.hok.fresh hp)⟩
def RS(X:Cx):Km:=λH H' v d=>∃D l,v = .ref D∧d = .lst (l.map .str)∧H D=none∧H' D=some (Hi X.prog X.w D (Ib l))∧l.length≤1000∧∀t∈l,t.length≤sizeLine
variable{e:Expr}{n:Nat}{fa:Env→(Dat→Prop)→Prop}{p pos:Pos}
def Aoc(x:Dat)(Q:Dat→Prop):Prop:=∃l:List (List Nat),x = .lst (l.map .str)∧l.length≤1000∧Q x
def Ah6(x:Dat)(Q:Dat→Prop):Prop:=∃l:List (List Nat),x = .lst (l.map .str)∧Q (.lst ((M3 l).map .str))
def Amw(f:Dat→(Dat→Prop)→Prop)(ds:List Dat)(Q:Dat→Prop):Prop:=
 match ds with
 | [d]=>f d Q
 | _=>False
theorem Al6(hc:X.calm=true)(hg:Gl X "set")(hm:X.mg "set" = none)(ha:QE X e n (RB X.kw) fa)(hs:starEach [e] X.env=[(false,eval e X.env)]):QE X (.Call (.Name "set" p) [e] [] pos) n (RS X) (λδ Q=>fa δ λx=>Aoc x Q):=by
 refine Oz (r:=Aoe X) (W:=Amw Aoc) (RL:=RLb X.kw) (λE=>Anq (X:=X.wish E) hc) (.inr ⟨_,rfl⟩) hg hm (by rfl) (λpins σ E' H H1 vs ds Φ st rl q=>?_) (Rv (R:=RB X.kw) (λ_ _ v d h=>?_) ha hs) (by decide) (by decide) (by rw[hs];rfl) rfl
 ·match ds,rl,q with
  | [d],rl,⟨l,e1,hl,q⟩=>
   subst e1;obtain⟨v,rfl,hv⟩:=rl.one;have hz:∀t∈l,t.length≤sizeLine:=by
    obtain⟨a,vs,_,_,h2,_⟩:=hv.lstAt;exact(Rq h2).2
   refine⟨λw H'=>∃D,w = .ref D∧H1 D=none∧H'=L2.upd H1 D (Hi X.prog X.w D (Ib l))∧∀z,Hi X.prog X.w D (Ib l)≠Gm D z,⟨v,l,rfl,hv,hl,λD hD no=>⟨D,rfl,hD,rfl,no⟩⟩,λw s' t ⟨v',H',I',rv,D,e2,hD,e3,no⟩=>?_⟩;subst e2 e3;have hn:=st.ext.none hD;exact⟨t,.ref D,_,_,I'.unwish,rv,st.put hn (.none hD) no,⟨D,l,rfl,rfl,hn,upd_same,hl,hz⟩,q⟩
 ·show BReps _ _ _ _
  rw[BReps,BReps];exact⟨h,trivial⟩
theorem Aaq(hu:X.A.units+300 < cLine)(hc:X.calm=true)(hg:Gl X "sorted")(hm:X.mg "sorted" = none)(ha:QE X e n (RS X) fa)(hs:starEach [e] X.env=[(false,eval e X.env)]):QE X (.Call (.Name "sorted" p) [e] [] pos) n (ROw X.kw) (λδ Q=>fa δ λx=>Ah6 x Q):=by
 refine Oz (r:=Aik X) (W:=Amw Ah6) (RL:=λH vs ds=>∃v D l,vs=[v]∧v = .ref D∧ds=[.lst (l.map .str)]∧H D=some (Hi X.prog X.w D (Ib l))∧l.length≤1000∧∀t∈l,t.length≤sizeLine) (λE=>Aka (X:=X.wish E) hc (by show X.A.units+200 < cLine;omega)) (.inl ⟨_,rfl⟩) hg hm (by rfl) (λpins σ E' H H1 vs ds Φ st rl q=>?_)
  (Rv (R:=RS X) (λ_ _ v d ⟨D,l,e1,e2,_,h,hl,hz⟩=>⟨v,D,l,rfl,e1,by rw[e2],h,hl,hz⟩) ha hs) (by decide) (by decide) (by rw[hs];rfl) rfl
 obtain⟨v,D,l,rfl,rfl,rfl,h,hl,hz⟩:=rl;obtain⟨l',e,q⟩:=q;have el:l'=l:=by
  have:=congrArg (λd:Dat=>match d with | .lst z=>z|_=>[]) e;have:l.map Dat.str=l'.map Dat.str:=this;exact(List.map_inj_right (λx y e=>by injection e)).mp this.symm
 subst el;refine⟨λw H'=>∃p,w = .ref p∧H1 p=none∧H'=L2.upd H1 p (.lst ((M3 l').map λs=>V.str ⟨s.toArray⟩)),⟨D,l',rfl,h,hl,λp hp=>⟨p,rfl,hp,rfl⟩⟩,λw s' t ⟨v',H',I',rv,p,e2,hp,e3⟩=>?_⟩;subst e2 e3;have hn:=st.ext.none hp;exact⟨t,.ref p,_,.lst ((M3 l').map .str),I'.unwish,rv,st.wrote hn (.none hp),.inl ⟨p,rfl,hn,_,upd_same,by rw[Yzi];have:=Vb l';rw[sizeLine_eq];omega,W7 λt ht=>hz t (mem_sortN.mp ht)⟩,q⟩
end
end SF
namespace SF
open PySem PySem.Spec PyProof.Rows L2
variable[TN]
section
variable{X:Cx}
theorem Aig{pins:List (Addr×Obj)}{s:Shared}{σ:L2.St}{H:Hp}{elt tg iter:Expr}{ifs:List Expr}{scope:Scope}{own:List (Str×Nat)}{pos pos':Pos}{use:Option (Value→Sem Unit)}{Qf:Value→Shared→Prop}{E:Value→Shared→Prop}
  {Go:It→Hp→Prop} (hN:X.N.Nodup) (I:L2.Inv X pins σ H s) (ok:BlkOk X.N X.env.scope scope own) (hs:∀x,foldedSetIterable iter X.env x=pure x)
  (first:wpAny (model X.prog X.w) X.A (eval iter X.env) (λv s1=>wpAny (model X.prog X.w) X.A (pyIter v) (λitv s2=>∃it fp tn J H2,itv = .ref it∧0 < s2.toks∧L2.Inv X pins σ H2 s2∧Turn X.prog X.w X.kw tg J fp it tn∧tn 0 s2.heap∧(∀b∈fp,FpOk X pins H2 b)∧Go J H2) E s1) E s)
  (loop:∀it fp tn J H2 D s3 s4 ce,Go J H2→Turn X.prog X.w X.kw tg J fp it tn→H2 D=none→(∀z,Hi X.prog X.w D []≠Gm D z)→Cmp X pins σ (own.map (·.2)) scope fp (L2.upd H2 D (Hi X.prog X.w D [])) s3 s4 ce→tn 0 s4.heap→0 < s4.toks →
   codeAny (model X.prog X.w) X.A (.compLoop (.SetComp elt [⟨tg,iter,ifs,0⟩] scope pos) 0 (.ref it) (.ref D) ce) (compPost (model X.prog X.w) X.A E use Qf (.ref D) ce.locals) s4) :
  wpAny (model X.prog X.w) X.A (comprehension (.SetComp elt [⟨tg,iter,ifs,0⟩] scope pos) scope X.env pos' (newSet (.type "set")) false (eval iter X.env) use) Qf E s:=by
 have clo:closureFor scope X.env=pure (cloFrom X.env.cells scope.names []):=by
  refine closure_ok ?_;intro y hy e;exact I.ok.has _ (ok.free y hy e)
 refine wpAny_comprehension_free rfl hs clo ok.kind ?_ (thn first ?_)
 ·intro y hy e
  rw[← e];exact ok.uniq y hy
 intro v s1 h1;refine thn h1 ?_;rintro itv s2 ⟨it,fp,tn,J,H2,rfl,ht,I2,T,st,f2,go⟩;have Dn:=I2.hok.fresh (Aa s2.heap.objs.size);refine wpAny_newSet_raw ?_;rintro led rfl;have new:=TxSet.new (P:=X.prog) (w:=X.w) s2.heap;have I3:=I2.laid (t':=s2.toks) (o:=Hi X.prog X.w s2.heap.objs.size []) (λb u=>Heap.get?_push_of_some _) (Aa _) (Yw (l:=[]) new);have f3:∀b∈fp,FpOk X pins (L2.upd H2 s2.heap.objs.size (Hi X.prog X.w s2.heap.objs.size [])) b∧b < (s2.heap.push { cls:=.type "set", dict:=none,data:=.set #[] 0 (.fresh 0 0 (!X.w.params.followText "set-order")) }).objs.size:=by
  intro b hb;obtain⟨o,e,_⟩:=T.obj 0 _ st b hb;have lt:=Heap.lt_size e;obtain⟨k0,k⟩:=f2 b hb;refine⟨⟨?_,k⟩,?_⟩
  ·rw[upd_ne (Cp lt)]
   exact k0
  ·rw[Heap.size_push]
   exact En lt
 refine newEnv_comp ?_;have st4:tn 0 (pushCells ((s2.heap.push { cls:=.type "set", dict:=none,data:=.set #[] 0 (.fresh 0 0 (!X.w.params.followText "set-order")) }).push { cls:=.type "dict", data:=.dict #[] }) scope.names):=by
  refine T.keep 0 _ _ st ?_;intro b _ o e;exact pushCells_keeps _ _ _ _ (Heap.get?_push_of_some _ (Heap.get?_push_of_some _ e))
 have L:=loop it fp tn J H2 s2.heap.objs.size _ _ _ go T Dn (Ur (l:=[]) new) ⟨I3,block_start I3 ok hN f3,λb hb=>(f3 b hb).1,rfl,_,_,rfl⟩ st4 ht;exact PySem.codeAny_compStart_set L (T.self X.A 0 _ _ _ st4 L)
theorem An2{pins:List (Addr×Obj)}{σ:L2.St}{H:Hp}{s:Shared}{E:Value→Shared→Prop}{D:Addr}{l:List (List Nat)}{t:List Nat}{u:Value}{Q:Value→Shared→Prop}(I:L2.Inv X pins σ H s)(hD:H D=some (Hi X.prog X.w D (Ib l)))(hl:l.length≤1000)(r:L2.RelV (.str (txS t)) u)
  (h:∀s',(∀z,Hi X.prog X.w D (Ib (l++[t]))≠Gm D z)→L2.Inv X pins σ (L2.upd H D (Hi X.prog X.w D (Ib (l++[t])))) s'→Q .none s'):wpAny (model X.prog X.w) X.A (call (.builtin "set.add") [.ref D,u]) Q E s:=by
 obtain⟨B,T⟩:=Yx I hD;obtain⟨tk,rfl⟩:=r;have le:=Yy l;refine T.call_add (by rw[Yzi];unfold scanBound;omega) λh' D' T' sb=>?_
 have e:R6 (txS t) ((Ib l).map txS)=(Ib (l++[t])).map txS:=by
  have:=Qe [t] (Ib l);unfold Ib at this ⊢;rw[List.foldl_append];exact this
 rw[e]at T';exact h _ (Ur T') (I.write (e:=D) (t':=s.toks+1) (by rw[hD];trivial) (.inl rfl) (λb u nb hu=>(sb.2 b nb).trans hu) ⟨_,T'.here⟩ (Yw T'))
def txE(fe:Env→(Dat→Prop)→Prop)(δ:Env)(Q:Dat→Prop):Prop:=fe δ λy=>∃t,y = .str t∧Q y
theorem Apa{pins:List (Addr×Obj)}{s:Shared}{σ:L2.St}{H:Hp}{δ:Env}{m:Nat}{Φ:Dat→Prop}{elt tg iter:Expr}{ifs:List Expr}{scope:Scope}{own:List (Str×Nat)}{pos pos':Pos}{p:P}{z:Bool}{n n1 n2:Nat}
  {fi fe:Env→(Dat→Prop)→Prop} {ft:Env→(Bool→Prop)→Prop} {use:Option (Value→Sem Unit)} {Qf:Value→Shared→Prop} {E:Value→Shared→Prop}
  (hc:X.calm=true) (hN:X.N.Nodup) (t0:0 < s.toks) (I:L2.Inv X pins σ H s) (er:EnvRep X.kw σ H δ) (pl:PotLe (n+sizeLine*(n1+n2)+m) H) (hi:QI X tg iter n true z fi) (ok:BlkOk X.N X.env.scope scope own) (hz:z=true→isT p=true) (hv:∀i∈Dm p,i∈own.map (·.2))
  (hg:∀(s:Shared) (H:Hp) (C:Addr) (cl:List (Str×Addr)) (fp:List Addr),K8 (X.blk s H scope (compEnvC scope cl C X.env) fp) tg p) (ht:∀(s:Shared) (H:Hp) (C:Addr) (cl:List (Str×Addr)) (fp:List Addr),QTs (X.blk s H scope (compEnvC scope cl C X.env) fp) ifs n1 ft)
  (he:∀(s:Shared) (H:Hp) (C:Addr) (cl:List (Str×Addr)) (fp:List Addr),QE (X.blk s H scope (compEnvC scope cl C X.env) fp) elt n2 (RV X.kw) fe) (hs:∀x,foldedSetIterable iter X.env x=pure x)
  (h:fi δ λx=>∃ds,Di x=some ds∧ds.length≤1000∧Ff (Eo p (Bb δ (own.map (·.2))) ft (txE fe)) ds λys=>Φ (.lst ys)) (mfi:∀ δ,Bj (fi δ)) (mfe:∀ δ,Bj (fe δ))
  (hRR:∀D C s' m' H' l,0 < s'.toks→L2.Inv X pins σ H' s'→Step (n+sizeLine*(n1+n2)) H H'→H D=none→H' D=some (Hi X.prog X.w D (Ib l))→l.length≤1000→(∀t∈l,t.length≤sizeLine)→Φ (.lst (l.map .str))→s'.heap.Ns C m'→FpOk X pins H' C→compPost (model X.prog X.w) X.A E use Qf (.ref D) C (.ok .next) s') :
  wpAny (model X.prog X.w) X.A (comprehension (.SetComp elt [⟨tg,iter,ifs,0⟩] scope pos) scope X.env pos' (newSet (.type "set")) false (eval iter X.env) use) Qf E s:=by
 refine Aig (Go:=λJ H2=>Step n H H2∧∃ds,Wlk X.kw true z H2 ds J∧ds.length≤1000∧Ff (Eo p (Bb δ (own.map (·.2))) ft (txE fe)) ds λys=>Φ (.lst ys)) hN I ok hs (thn (hi E pins s σ H δ (sizeLine*(n1+n2)+m) (λx=>∃ds,Di x=some ds∧ds.length≤1000∧Ff (Eo p (Bb δ (own.map (·.2))) ft (txE fe)) ds λys=>Φ (.lst ys)) t0 I er (pl.mono (by omega)) (mfi δ _ _ (λ_ ⟨ds,q1,q2⟩=>⟨⟨ds,q1⟩,ds,q1,q2⟩) h)) λv s1 h1=>thn h1 λitv s2 h2=>?_) ?_
 ·obtain⟨t2,it,fp,tn,J,H2,d,ds,e,I2,T,st,f,stp,wk,hl,hd,ds',hd',q⟩:=h2
  rw[hd]at hd'
  cases hd'
  exact⟨it,fp,tn,J,H2,e,t2,I2,T,st,f,stp,ds,wk,q⟩
 rintro it fp tn J H2 D s3 s4 ce ⟨stp,ds,wk,hlen,q⟩ T hDn no c st4 t4;have big1:1000≤sizeLine:=by rw[sizeLine_eq];omega
 obtain⟨C,cl,rfl⟩:=c.made;have pg:=hg s3 (L2.upd H2 D (Hi X.prog X.w D [])) C cl fp;have pt:=ht s3 (L2.upd H2 D (Hi X.prog X.w D [])) C cl fp;have pe:=he s3 (L2.upd H2 D (Hi X.prog X.w D [])) C cl fp;have nfp:∀b∈fp,(L2.upd H2 D (Hi X.prog X.w D [])) b=none:=λb hb=>(c.own b hb).1
 generalize compEnvC scope cl C X.env=ce at c pg pt pe ⊢;have stH3:Step 0 H2 (L2.upd H2 D (Hi X.prog X.w D [])):=(Step.refl H2).put hDn (.none hDn) no;have eD:(L2.upd H2 D (Hi X.prog X.w D [])) D=some (Hi X.prog X.w D (Ib [])):=upd_same;generalize L2.upd H2 D (Hi X.prog X.w D [])=H3 at c pg pt pe nfp stH3 eD;have I4:=c.inn;have er0:EnvRep X.kw (wipe σ (own.map (·.2))) H2 (Bb δ (own.map (·.2))):=(er.ext stp.ext).wipe _;have plB:PotLe (sizeLine*(n1+n2)) H2:=stp.pot _ (pl.mono (by omega));generalize own.map (·.2)=ov at *;refine compLoop_set_any (λk s'=>∃(i:Nat) (H':Hp) (l:List (List Nat)),0 < s'.toks∧(L2.Inv (X.blk s3 H3 scope ce fp) [] (wipe σ ov) H' s'∧tn i s'.heap∧∀b∈fp,H' b=none)∧k=ds.length - i∧i≤ds.length∧Step (i*(n1+n2)) H2 H'∧H' D=some (Hi X.prog X.w D (Ib l))∧l.length≤i∧(∀t∈l,t.length≤sizeLine) ∧
  Ff (Eo p (Bb δ ov) ft (txE fe)) (ds.drop i) λr=>Φ (.lst (l.map Dat.str++r))) ?_ ds.length ⟨0,H3,[],t4,⟨I4,st4,nfp⟩,rfl,Am _,by rw[Dc];exact stH3,eD,Am _,(λt ht=>by simp at ht),q⟩
 rintro k s5 ⟨i,H5,l,t5,⟨I5,st5,n5⟩,rfl,hik,sp5,hD5,hy5,hz5,q5⟩;by_cases hlt:i < ds.length
 ·have e0:ds.drop i=ds[i]::ds.drop (i+1):=Ds hlt
  rw[e0]at q5;have no5:∀z,Hi X.prog X.w D (Ib l)≠Gm D z:=by
   obtain⟨_,T'⟩:=Yx I5 hD5;exact Ur T'
  refine thnF (tkF (X:=X) t5 (T.item (X.blk s3 H3 scope ce fp) rfl rfl rfl hc i [] s5 _ H5 (λ_ _=>False) I5 (Jo I5 n5) st5 (wk.go H5 i (EXr.of sp5.ext) hlt))) λr s6 ⟨t6,u,hr,h6⟩=>?_
  subst hr;refine thnF (tkF (X:=X) t6 h6) λ_ s7 ⟨t7,x,H7,I7,r7,y7,st7,n7⟩=>?_
  obtain⟨sp7,yr⟩:=wk.yld H5 i x H7 _ (EXr.of sp5.ext) (Ab hlt) y7;have I7':=I7.pinned (Jo I7 n7) (T.obj _ _ st7);have sp7':Step (i*(n1+n2)) H2 H7:=(sp5.trans sp7).mono (by omega);have q5:Eo p (Bb δ ov) ft (txE fe) ds[i] _:=q5;unfold Eo at q5;refine thnF (Nr hz pg t7 I7' (er0.ext sp7'.ext) r7 yr q5) λ_ s8 ⟨t8,σ8,δ8,I8,er8,q8,k8⟩=>?_
  have hle:(i+1)*(n1+n2)≤sizeLine*(n1+n2):=Ba _ (by omega);rw[Ay]at hle;refine thnF (pt _ _ s8 σ8 H7 δ8 (n2+0) _ t8 I8 er8 (sp7'.pot _ (plB.mono (by omega))) q8) λb s9 ⟨t9,H9,I9,sp9,q9⟩=>?_
  have wst:wipe σ8 ov=wipe σ ov:=by rw[k8.2 ov hv,Lf]
  have wl:(wipe σ ov).length=σ8.length:=by rw[← wst,wipe_length]
  have ww:∀(j:Nat) v,(wipe σ ov)[j]? = some (some v)→σ8[j]? = some (some v):=λj v e=>(wipe_some (by rw[wst];exact e)).1
  cases b with
  | false=>
   have e9:=sp7.ext.trans sp9.ext;exact⟨_,Ek _ _ hlt,i+1,H9,l,t9,Tv T st7 I9 wl ww,rfl,hlt,(sp7'.trans sp9).mono (by rw[Ay];omega),e9.keep hD5 no5,by omega,hz5,q9⟩
  | true=>
   refine thnF (pe _ _ s9 σ8 H9 δ8 0 _ t9 I9 (er8.ext sp9.ext) ((sp7'.trans sp9).pot _ (plB.mono (by omega))) q9) λzv s10 ⟨t10,yv,H10,dy,I10,r10,sp10,b10,q10⟩=>?_
   have e10:=(sp7.ext.trans sp9.ext).trans sp10.ext;have hD10:H10 D=some (Hi X.prog X.w D (Ib l)):=e10.keep hD5 no5;obtain⟨t,rfl,q10⟩:=q10;have b10:Rep X.kw H10 yv (.str t):=b10;rw[Rep]at b10;obtain⟨rfl,zt⟩:=b10;refine Cr (X:=X) t10 (An2 (X:=X.blk s3 H3 scope ce fp) (Q:=λ_ s11=>(∀z,Hi X.prog X.w D (Ib (l++[t]))≠Gm D z)∧L2.Inv (X.blk s3 H3 scope ce fp) ([]++pinsAt fp s7.heap) σ8 (L2.upd H10 D (Hi X.prog X.w D (Ib (l++[t])))) s11) I10 hD10 (by omega) r10 λs11 no2 I11=>⟨no2,I11⟩) λ_ s11 t11 ⟨no2,I11⟩=>?_
   have q10:Ff (Eo p (Bb δ ov) ft (txE fe)) (ds.drop (i+1)) (λr=>Φ (.lst (l.map Dat.str++(.str t::r)))):=q10;refine⟨_,Ek _ _ hlt,i+1,_,l++[t],t11,Tv T st7 I11 wl ww,rfl,hlt,(((sp7'.trans sp9).trans sp10).mono (by rw[Ay];omega)).put hDn (.ext hD10) no2,upd_same,by simp;omega,λx hx=>?_,by simpa using q10⟩
   rcases Bl.mp hx with hx|hx
   ·exact hz5 x hx
   ·rw[Aq.mp hx]
    exact zt
 ·have ei:i=ds.length:=by omega
  subst ei;refine thnF (tkF (X:=X) t5 (T.done (X.blk s3 H3 scope ce fp) rfl rfl rfl hc ds.length [] s5 _ H5 (λ_ _=>False) I5 (Jo I5 n5) st5 (wk.stop H5 (EXr.of sp5.ext)))) λr s6 ⟨t6,hr,I6⟩=>?_
  subst hr;obtain⟨I7,fC,m',hn⟩:=c.back I6;rw[Gn]at q5;have q5:Φ (.lst (l.map Dat.str++[])):=q5;rw[Bu]at q5;have hmul:ds.length*(n1+n2)≤sizeLine*(n1+n2):=Ba _ (by omega);exact hRR D ce.locals s6 m' H5 l t6 I7 ((stp.trans sp5).mono (by omega)) (stp.ext.none hDn) hD5 (by omega) hz5 q5 hn fC
theorem Ait{elt tg iter:Expr}{ifs:List Expr}{scope:Scope}{own:List (Str×Nat)}{pos:Pos}{p:P}{z:Bool}{n n1 n2:Nat}{fi fe:Env→(Dat→Prop)→Prop}{ft:Env→(Bool→Prop)→Prop}
  (hc:X.calm=true) (hN:X.N.Nodup) (hi:QI X tg iter n true z fi) (ok:BlkOk X.N X.env.scope scope own) (hz:z=true→isT p=true) (hv:∀i∈Dm p,i∈own.map (·.2))
  (hg:∀(s:Shared) (H:Hp) (C:Addr) (cl:List (Str×Addr)) (fp:List Addr),K8 (X.blk s H scope (compEnvC scope cl C X.env) fp) tg p) (ht:∀(s:Shared) (H:Hp) (C:Addr) (cl:List (Str×Addr)) (fp:List Addr),QTs (X.blk s H scope (compEnvC scope cl C X.env) fp) ifs n1 ft)
  (he:∀(s:Shared) (H:Hp) (C:Addr) (cl:List (Str×Addr)) (fp:List Addr),QE (X.blk s H scope (compEnvC scope cl C X.env) fp) elt n2 (RV X.kw) fe) (hs:∀x,foldedSetIterable iter X.env x=pure x) (mfi:∀ δ,Bj (fi δ)) (mfe:∀ δ,Bj (fe δ)) :
  QE X (.SetComp elt [⟨tg,iter,ifs,0⟩] scope pos) (n+sizeLine*(n1+n2)) (RS X) (λδ Q=>fi δ λx=>∃ds,Di x=some ds∧ds.length≤1000∧Ff (Eo p (Bb δ (own.map (·.2))) ft (txE fe)) ds λys=>Q (.lst ys)):=λE pins s σ H δ m Φ t0 I er pl hf=>by
 rw[arm_eval_SetComp];refine Apa hc hN t0 I er pl hi ok hz hv hg ht he hs hf mfi mfe λD C s' m' H' l t' I' st hD hD' hl hz q hn f=>⟨m',hn,λh'' sb=>?_⟩
 obtain⟨f0,f1,f2,f3,f4,f5⟩:=f;exact⟨t',.ref D,H',.lst (l.map .str),I'.turned (t':=s'.toks) (λb o hb e=>(sb.2 b hb).trans e) f0 f1 f3 f4 f5,rfl,st,⟨D,l,rfl,rfl,hD,hD',hl,hz⟩,q⟩
end
end SF
namespace SF
open PySem PySem.Spec PyProof.Rows L2
variable[TN]
def Amt(xs:List (NestedKey×Addr×V))(k:NestedKey)(b:Addr)(v:V):List (NestedKey×Addr×V):=
 if(xs.any λx=>decide (x.1=k))=true then xs.map λx=>if x.1=k then(x.1,x.2.1,v)else x else xs++[(k,b,v)]
theorem KdRel.keys:∀{xs:List (NestedKey×Addr×V)} {us:List (NestedKey×Addr×Value)},KdRel xs us→xs.map (·.1)=us.map (·.1)
 | _,_,.nil=>rfl
 | _,_,.cons r t=>by rw[Yzs,Yzs,r.1,KdRel.keys t]
theorem KdRel.any{k:NestedKey}:∀{xs:List (NestedKey×Addr×V)} {us:List (NestedKey×Addr×Value)},KdRel xs us→(xs.any λx=>decide (x.1=k))=(atKey us k).isSome
 | _,_,.nil=>rfl
 | _,_,.cons (a:=a) (b:=b) r t=>by
  have ih:=KdRel.any (k:=k) t;rw[Jv,ih,r.1];by_cases h:b.1=k<;>simp[atKey,Gh,h]
theorem KdRel.repl{k:NestedKey}{v:V}{u:Value}(rv:RelV v u):∀{xs:List (NestedKey×Addr×V)} {us:List (NestedKey×Addr×Value)},KdRel xs us→KdRel (xs.map λx=>if x.1=k then(x.1,x.2.1,v)else x) (us.map (putAt k u))
 | _,_,.nil=>.nil
 | _,_,.cons (a:=a) (b:=b) r t=>by
  rw[Yzs,Yzs];refine .cons ?_ (KdRel.repl rv t);obtain⟨r1,r2,r3⟩:=r;unfold putAt;by_cases h:b.1=k
  ·rw[if_pos (r1.trans h),if_pos h];exact⟨r1,r2,rv⟩
  ·rw[if_neg (by rw[r1];exact h),if_neg h];exact⟨r1,r2,r3⟩
theorem Vp{α β:Type}{R:α→β→Prop}:∀{xs:List α} {ys:List β} {x:α} {y:β},Paired R xs ys→R x y→Paired R (xs++[x]) (ys++[y])
 | _,_,_,_,.nil,r=>.cons r .nil
 | _,_,_,_,.cons q t,r=>.cons q (Vp t r)
theorem KdRel.put{k:NestedKey}{b:Addr}{v:V}{u:Value}(rv:RelV v u){xs:List (NestedKey×Addr×V)}{us:List (NestedKey×Addr×Value)}(r:KdRel xs us):KdRel (Amt xs k b v) (storedH us k b u):=by
 unfold Amt storedH;rw[r.any]
 cases h:(atKey us k).isSome with
 | true=>rw[if_pos rfl,if_pos rfl];exact KdRel.repl rv r
 | false=>rw[if_neg Bv,if_neg Bv];exact Vp r ⟨rfl,rfl,rv⟩
theorem RepKd.any{K:KW}{H:Hp}{c:Dat}(hc:okK c=true):∀{xs:List (NestedKey×Addr×V)} {l:List (Dat×Dat)},RepKd K H xs l→(xs.any λx=>decide (x.1=nkD c))=Zi l c
 | [],[],_=>rfl
 | [],_::_,h=>by simp[RepKd]at h
 | (_,_,_)::_,[],h=>by simp[RepKd]at h
 | (k,b,v)::xs,(e,d)::l,h=>by
  rw[RepKd]at h;rw[Jv,RepKd.any hc h.2.2,h.1.2.1,Ac4 h.1.1 hc];rfl
theorem RepKd.repl{K:KW}{H:Hp}{c d:Dat}{v:V}(hc:okK c=true)(rd:Rep K H v d):∀{xs:List (NestedKey×Addr×V)} {l:List (Dat×Dat)},RepKd K H xs l→RepKd K H (xs.map λx=>if x.1=nkD c then(x.1,x.2.1,v)else x) (l.map λp=>if eqD p.1 c=true then(p.1,d)else p)
 | [],[],h=>h
 | [],_::_,h=>by simp[RepKd]at h
 | (_,_,_)::_,[],h=>by simp[RepKd]at h
 | (k,b,w)::xs,(e,f)::l,h=>by
  rw[RepKd]at h;rw[Yzs,Yzs];have q:=Ac4 h.1.1 hc;have ih:=RepKd.repl hc rd h.2.2;dsimp only;rw[h.1.2.1]
  cases eb:eqD e c with
  | true=>
   rw[eb]at q;rw[if_pos (of_decide_eq_true q),if_pos rfl,RepKd];exact⟨⟨h.1.1,rfl,h.1.2.2⟩,rd,ih⟩
  | false=>
   rw[eb]at q;rw[if_neg (of_decide_eq_false q),if_neg Bv,RepKd];exact⟨⟨h.1.1,rfl,h.1.2.2⟩,h.2.1,ih⟩
theorem RepKd.app{K:KW}{H:Hp}:∀{xs ys:List (NestedKey×Addr×V)} {l r:List (Dat×Dat)},RepKd K H xs l→RepKd K H ys r→RepKd K H (xs++ys) (l++r)
 | [],_,[],_,_,h=>h
 | [],_,_::_,_,h,_=>by simp[RepKd]at h
 | (_,_,_)::_,_,[],_,h,_=>by simp[RepKd]at h
 | (k,b,w)::xs,ys,(e,f)::l,r,h,h'=>by
  rw[RepKd]at h;rw[Bh,Bh,RepKd];exact⟨h.1,h.2.1,RepKd.app h.2.2 h'⟩
theorem RepKd.length{K:KW}{H:Hp}:∀{xs:List (NestedKey×Addr×V)} {l:List (Dat×Dat)},RepKd K H xs l→xs.length=l.length
 | [],[],_=>rfl
 | [],_::_,h=>by simp[RepKd]at h
 | (_,_,_)::_,[],h=>by simp[RepKd]at h
 | (k,b,w)::xs,(e,f)::l,h=>by
  rw[RepKd]at h;rw[Yzk,Yzk,RepKd.length h.2.2]
theorem RepKd.put{K:KW}{H:Hp}{c d:Dat}{b:Addr}{v:V}(hc:okK c=true)(rb:Rep K H (.ref b) c)(rd:Rep K H v d){xs:List (NestedKey×Addr×V)}{l:List (Dat×Dat)}(h:RepKd K H xs l):RepKd K H (Amt xs (nkD c) b v) (Aso l c d):=by
 unfold Amt Aso;rw[RepKd.any hc h]
 cases Zi l c with
 | true=>rw[if_pos rfl,if_pos rfl];exact RepKd.repl hc rd h
 | false=>
  rw[if_neg Bv,if_neg Bv];refine RepKd.app h ?_;rw[RepKd,RepKd];exact⟨⟨hc,rfl,rb⟩,rd,trivial⟩
end SF
namespace SF
open PySem PySem.Spec PyProof.Rows L2
variable[TN]
theorem RepKd.vals{K:KW}{H:Hp}:∀{xs:List (NestedKey×Addr×V)} {l:List (Dat×Dat)},RepKd K H xs l→Reps K H (xs.map (·.2.2)) (l.map (·.2))
 | [],[],_=>by simp only[Cy];rw[Reps];trivial
 | [],_::_,h=>by simp[RepKd]at h
 | (_,_,_)::_,[],h=>by simp[RepKd]at h
 | (k,b,v)::xs,(e,d)::l,h=>by
  rw[RepKd]at h;simp only[Yzs];rw[Reps];exact⟨h.2.1,RepKd.vals h.2.2⟩
theorem KdRel.vals:∀{xs:List (NestedKey×Addr×V)} {us:List (NestedKey×Addr×Value)},KdRel xs us→L2.Vals (xs.map (·.2.2)) (us.map (·.2.2))
 | _,_,.nil=>.nil
 | _,_,.cons r t=>.cons r.2.2 (KdRel.vals t)
variable{X:Cx}{a:Expr}{n:Nat}{fa:Env→(Dat→Prop)→Prop}{p pos cp ap:Pos}
end SF
namespace SF
open PySem PySem.Spec PyProof.Rows L2
variable[TN]
theorem TupAt.obj{X:Cx}{pins:List (Addr×Obj)}{σ:L2.St}{H:Hp}{s:Shared}{a:Addr}{vs:List V}(I:L2.Inv X pins σ H s)(h:TupAt X.kw H a vs):∃its:Array Value,L2.Vals vs its.toList∧PlainSeq "tuple" s.heap a its:=by
 rcases h with⟨o,h1,h2⟩|⟨o,its,n,h1,h2,h3,h4,h5,h6⟩
 ·obtain⟨h5,_,its,rv,ob,q1,q2,n,q3⟩:=I.hok a _ h1
  rw[h5]at q1;cases q1;exact⟨its.toArray,by simpa using rv,o,n,h5,q2,h2,q3⟩
 ·exact⟨its,h6,o,n,I.kIn a o h1,h2,h3,h4⟩
end SF
namespace SF
open PySem PySem.Spec PyProof.Rows L2
variable[TN]
abbrev look(t:SetTable)(h:Int)(n:Nat):SetTable.Probe:=nth t.mask (runAt t.mask (SetTable.bits h % (t.mask+1)) (SetTable.bits h)) n
theorem Vw(t:SetTable)(h:Int)(c q:Nat):nth t.mask (look t h c) q=look t h (c+q):=(nth_add t.mask c _ q).symm
theorem Xn(m:Nat):∀(n:Nat) {p:SetTable.Probe},p.dummy=none→(nth m p n).dummy=none
 | 0,_,h=>h
 | n+1,p,h=>Xn m n (p:=adv m p) (by unfold adv;split<;>exact h)
theorem Acy{t:SetTable}{hs:List Int}(T:TabOk t hs){h:Int}{K c:Nat}(free:way t.mask h K∉t.place.toList)(full:∀n,n < K→way t.mask h n∈t.place.toList)(few:K < 10*SetTable.turns t.mask)(hc:c≤K)
  {hashAt:Nat→Int} (ha:∀(i:Nat) x,hs[i]? = some x→hashAt i=x) :
  (∃(q i:Nat),c≤q∧q < K∧t.place.toList[i]? = some (way t.mask h q)∧hs[i]? = some h∧(∀(q' i':Nat),c≤q'→q' < q→t.place.toList[i']? = some (way t.mask h q')→hs[i']? ≠ some h)∧t.probe hashAt h (look t h c)=some (.candidate (way t.mask h q) i (look t h (q+1)))) ∨
  ((∀(q' i':Nat),c≤q'→q' < K→t.place.toList[i']? = some (way t.mask h q')→hs[i']? ≠ some h)∧t.probe hashAt h (look t h c)=some (.empty (way t.mask h K) none)):=by
 have at_:∀n,(nth t.mask (look t h c) n).j=way t.mask h (c+n):=λn=>congrArg SetTable.Probe.j (Vw t h c n)
 have known:∀{i j:Nat},t.place.toList[i]? = some j→∃x,hs[i]? = some x:=λ{i j} e=>by
  have l1:=(Ag.mp e).1;rw[Array.length_toList,T.sz]at l1;exact⟨_,Ab l1⟩
 have spec:=go_spec t T.ris T.dm hashAt h (10*SetTable.turns t.mask) (K - c) (look t h c) (Xn _ _ rfl) (by omega) (λn hn=>by rw[at_];exact full _ (by omega)) (by rw[at_,Rk hc];exact free);have back:∀{B:Nat},(∀(q' i':Nat),q' < B→t.place.toList[i']? = some (nth t.mask (look t h c) q').j→hashAt i'≠h)→∀(q' i':Nat),c≤q'→q' < c+B→t.place.toList[i']? = some (way t.mask h q')→hs[i']? ≠ some h:=λ{B} no q' i' h1 h2 e z=>by
  refine no (q' - c) i' (by omega) ?_ (ha _ _ z);rw[at_,Rk h1];exact e
 rcases spec with⟨q,i,h1,h2,h3,h4,h5⟩|⟨h4,h5⟩
 ·refine .inl ⟨c+q,i,by omega,by omega,by rw[← at_];exact h2,?_,back h4,?_⟩
  ·obtain⟨x,hx⟩:=known h2
   rw[hx,← ha _ _ hx,h3]
  ·have e:=h5
   rw[Vw,Vw]at e;exact e
 ·refine .inr ⟨λq' i' a b=>back h4 q' i' a (by omega),?_⟩
  have e:=h5;rw[at_,Rk hc]at e;exact e
section
variable{P:Program}{w:World}{A:Around}{E:Value→Shared→Prop}{s:Shared}
abbrev NIs(P:Program)(w:World)(h:Heap)(k:NestedKey)(a:Addr):Prop:=(nestedKind P w).is h k a
theorem NIs.type{k:NestedKey}{b:Addr}(h:NIs P w s.heap k b):∃ks o vs n,k = .tup ks∧s.heap.get? b=some o∧o.cls = .type "tuple" ∧ o.data = .seq vs n∧NestedAll s.heap ks vs.toList:=by
 obtain⟨h,_⟩:=h
 cases h with
 | tup h1 h2 h3 h4=>exact⟨_,_,_,_,rfl,h1,h2,h3,h4⟩
theorem Aby{h:Heap}:∀{ks:List NestedKey} {vs:List Value},NestedAll h ks vs→∀v∈vs,∃k,NestedIs h k v
 | _,[],_,v,hv=>nomatch hv
 | _,u::vs,.cons a b,v,hv=>by
  rcases Ad.mp hv with e|m
  ·exact⟨_,e ▸ a⟩
  ·exact Aby b v m
theorem Adi{s:Shared}:∀(n:Nat) (k:NestedKey) (v:Value),NestedIs s.heap k v→∀(A:Around) (E:Value→Shared→Prop) (Q:Bool→Shared→Prop),(∀b,Q b s)→wpAny (model P w) A (hashByValue n v) Q E s:=by
 intro n
 induction n with
 | zero=>intro k v x A E Q q;cases x<;>exact wpAny_pure (q _)
 | succ n ih=>
  intro k v x A E Q q
  cases x with
  | none=>exact wpAny_pure (q _)
  | bool=>exact wpAny_pure (q _)
  | int=>exact wpAny_pure (q _)
  | text=>exact wpAny_pure (q _)
  | @tup a o vs m ks h1 h2 h3 h4=>
   have ty:s.TypeIs (.ref a) "tuple" := ⟨o,h1,h2⟩;unfold hashByValue;refine wpAny_bind (wpAny_specialOf ty F.slot_tuple_hash.lookup ?_);show wpAny _ _ (seqItems? (.ref a) >>= _) _ _ s
   refine wpAny_bind (wpAny_seqItems h1 h3 (wpAny_bind ?_));show wpAny _ _ (forIn vs _ _) _ _ s
   rw[← Array.forIn_toList];refine wpAny_forIn_list _ (λrest r z=>(r.1=none∧z=s)∧∀v∈rest,∃k,NestedIs s.heap k v) _ (λv rest r z ⟨⟨_,e⟩,all⟩=>?_) (λr z ⟨⟨e1,e2⟩,_⟩=>?_) _ _ ⟨⟨rfl,rfl⟩,Aby h4⟩
   ·subst e
    obtain⟨k1,x1⟩:=all v Dd;refine wpAny_bind (ih k1 v x1 A E _ λb=>?_)
    cases b with
    | true=>exact wpAny_pure ⟨⟨rfl,rfl⟩,λu hu=>all u (Eh _ hu)⟩
    | false=>exact wpAny_pure (wpAny_pure (q false))
   ·subst e2
    obtain⟨r1,r2⟩:=r;have e1:r1=none:=e1;subst e1;exact wpAny_pure (q true)
theorem Yd{s:Shared}:∀(n:Nat) (k:NestedKey) (v:Value),NestedIs s.heap k v→k.depth≤n→∀(A:Around) (E:Value→Shared→Prop) (Q:Bool→Shared→Prop),Q false s→wpAny (model P w) A (ofAClassStatement n v) Q E s:=by
 intro n
 induction n with
 | zero=>
  intro k v x d A E Q q
  cases x with
  | tup=>simp[NestedKey.depth]at d
  | _=>exact wpAny_pure q
 | succ n ih=>
  intro k v x d A E Q q
  cases x with
  | none=>exact wpAny_pure q
  | bool=>exact wpAny_pure q
  | int=>exact wpAny_pure q
  | text=>exact wpAny_pure q
  | @tup a o vs m ks h1 h2 h3 h4=>
   have ty:s.TypeIs (.ref a) "tuple" := ⟨o,h1,h2⟩;have low:∀{ks:List NestedKey} {vs:List Value},NestedAll s.heap ks vs→NestedKey.depthAll ks≤n→∀v∈vs,∃k,NestedIs s.heap k v∧k.depth≤n:=λ{ks vs} all=>by
    induction all using NestedAll.rec (motive_1:=λ_ _ _=>True)with
    | nil=>intro _ v hv;cases hv
    | cons y1 _ _ ih2=>
     intro dd v hv;simp only[NestedKey.depthAll]at dd
     rcases Ad.mp hv with e|z
     ·subst e;exact⟨_,y1,by omega⟩
     ·exact ih2 (by omega) v z
    | none=>trivial
    | bool=>trivial
    | int=>trivial
    | text=>trivial
    | tup=>trivial
   simp only[NestedKey.depth]at d;unfold ofAClassStatement;refine wpAny_bind (wpAny_typeOf ty ?_);dsimp only;rw[show(("tuple" : String) == "tuple")=true from by decide];simp only[if_true];refine wpAny_bind (wpAny_pure ?_);simp only[Cq,Yzg,if_false];show wpAny _ _ (seqItems? (.ref a) >>= _) _ _ s
   refine wpAny_bind (wpAny_seqItems h1 h3 ?_);dsimp only;refine wpAny_bind ?_;show wpAny _ _ (forIn vs _ _) _ _ s
   rw[← Array.forIn_toList];refine wpAny_forIn_list _ (λrest r z=>(r.1=none∧z=s)∧∀v∈rest,∃k,NestedIs s.heap k v∧k.depth≤n) _ (λv rest r z ⟨⟨_,e⟩,all⟩=>?_) (λr z ⟨⟨e1,e2⟩,_⟩=>?_) _ _ ⟨⟨rfl,rfl⟩,low h4 (by omega)⟩
   ·subst e
    obtain⟨k1,x1,d1⟩:=all v Dd;exact wpAny_bind (ih k1 v x1 d1 A E _ (wpAny_pure ⟨⟨rfl,rfl⟩,λu hu=>all u (Eh _ hu)⟩))
   ·subst e2
    obtain⟨r1,r2⟩:=r;have e1:r1=none:=e1;subst e1;exact wpAny_pure q
theorem Ab7{k:NestedKey}{b:Addr}(hk:NIs P w s.heap k b){ys:List Value}(all:∀y∈ys,∃k' c,y = .ref c∧NIs P w s.heap k' c){Q:Bool→Shared→Prop}(h:Q false s):wpAny (model P w) A (searchCouldBeSeen (.ref b) ys) Q E s:=by
 unfold searchCouldBeSeen;refine wpAny_bind (wpAny_forIn_list _ (λrest r z=>(r.1=none∧z=s)∧∀y∈rest,∃k' c,y = .ref c∧NIs P w s.heap k' c) _ (λv rest r z ⟨⟨_,e⟩,more⟩=>?_) (λr z ⟨⟨e1,e2⟩,_⟩=>?_) _ _ ⟨⟨rfl,rfl⟩,all⟩)
 ·subst e
  obtain⟨k',c,e,hc⟩:=more v Dd;subst e;have next:∀y∈rest,∃k' c,y = .ref c∧NIs P w z.heap k' c:=λu hu=>more u (Eh _ hu)
  dsimp only;split
  ·exact wpAny_pure ⟨⟨rfl,rfl⟩,next⟩
  ·have q1:=λA' E' Q'=>(nestedKind P w).quiet (A:=A') (E:=E') (Q:=Q') hk
   have q2:=λA' E' Q'=>(nestedKind P w).quiet (A:=A') (E:=E') (Q:=Q') hc
   have c1:=Yd (P:=P) (w:=w) 8 _ _ hk.1 hk.2;have c2:=Yd (P:=P) (w:=w) 8 _ _ hc.1 hc.2;refine wpAny_bind (q1 _ _ _ ?_);simp only[Cq,Yzg,if_false];refine wpAny_bind (q2 _ _ _ ?_);simp only[Cq,Yzg,if_false];refine wpAny_bind (c1 _ _ _ ?_);simp only[Yzg,if_false];refine wpAny_bind (c2 _ _ _ ?_);simp only[Yzg,if_false];exact wpAny_pure ⟨⟨rfl,rfl⟩,next⟩
 ·subst e2
  obtain⟨r1,r2⟩:=r;have e1:r1=none:=e1;subst e1;exact wpAny_pure h
end
end SF
namespace SF
open PySem PySem.Spec PyProof.Rows L2
variable[TN]
abbrev KL:=List (Addr×NestedKey)
def Abg(w:World)(p:Addr×NestedKey):Int×Value:=(p.2.hash w,.ref p.1)
structure NSet(P:Program)(w:World)(h:Heap)(a:Addr)(L:KL)(es:Array (Int×Value))(ep:Nat)(t:SetTable):Prop where
 here:∃o,h.get? a=some o∧o.ExactSet∧o.data = .set es ep t
 ents:es.toList=L.map (Abg w)
 tab:TabOk t (L.map λp=>p.2.hash w)
 once:(L.map (·.2)).Nodup
 keys:∀p∈L,NIs P w h p.2 p.1
 led:w.params.followText "set-order" = true∨t.led=true
 room:L.length*5 < t.mask*3
section
variable{P:Program}{w:World}{A:Around}{E:Value→Shared→Prop}{s:Shared}{a:Addr}{L:KL}{es:Array (Int×Value)}{ep:Nat}{t:SetTable}
theorem NSet.size(R:NSet P w s.heap a L es ep t):es.size=L.length:=by
 rw[← Array.length_toList,R.ents,Yzi]
theorem NSet.psize(R:NSet P w s.heap a L es ep t):t.place.size=L.length:=by
 rw[R.tab.sz,Yzi]
theorem NSet.fit(R:NSet P w s.heap a L es ep t):t.fits es.size=true:=by
 have h1:=R.size;have h2:=R.psize;have h3:=R.room;have h4:=R.tab.dm;unfold SetTable.fits SetTable.fill;rw[h4];simp only[Yzh,beq_iff_eq,decide_eq_true_eq];exact⟨by omega,by show t.place.size+0≤t.mask;omega⟩
theorem NSet.few(R:NSet P w s.heap a L es ep t):L.length≤76:=by
 have:=R.room
 rcases R.tab.mok with e|e|e<;>rw[e]at this<;>omega
theorem NSet.ent(R:NSet P w s.heap a L es ep t){i:Nat}{p:Addr×NestedKey}(h:L[i]? = some p):es[i]? = some (p.2.hash w,.ref p.1):=by
 rw[← Array.getElem?_toList,R.ents,Af,h];rfl
theorem NSet.solid(R:NSet P w s.heap a L es ep t):¬ t.gaveWay=true:=by
 have:=R.tab.mok;unfold SetTable.gaveWay
 rcases this with e|e|e<;>rw[e]<;>decide
theorem NSet.hashAt(R:NSet P w s.heap a L es ep t):∀(i:Nat) x,(L.map λp=>p.2.hash w)[i]? = some x→(es[i]?.map (·.1)).getD 0=x:=λi x e=>by
 rw[Af]at e
 cases h:L[i]? with
 | none=>rw[h]at e;cases e
 | some p=>
  rw[h]at e
  cases e
  rw[R.ent h];rfl
theorem NSet.same_slot(R:NSet P w s.heap a L es ep t){i j n:Nat}(hi:t.place.toList[i]? = some n)(hj:t.place.toList[j]? = some n):i=j:=by
 have h1:=slot_live R.tab.ris hi;rw[slot_live R.tab.ris hj]at h1;injection h1 with h1;exact h1.symm
theorem Afy(R:NSet P w s.heap a L es ep t){x:Addr}{k:NestedKey}(hx:NIs P w s.heap k x)(hu:A.units+8 < cLine){K:Nat}(few:K < 10*SetTable.turns t.mask)(free:way t.mask (k.hash w) K∉t.place.toList)(full:∀n,n < K→way t.mask (k.hash w) n∈t.place.toList){Q:SetFound→Shared→Prop}
  (yes:k∈L.map (·.2)→Q (.there none) s) (no:k∉L.map (·.2)→Q (.free (way t.mask (k.hash w) K) false) s) :
  ∀(f c:Nat) (stand:Option SetTable.Probe),stand.getD (t.probeStart (k.hash w))=look t (k.hash w) c→c≤K→K < c+f →
   (∀(i:Nat) p,L[i]? = some p→p.2=k→∃q,c≤q∧q < K∧t.place.toList[i]? = some (way t.mask (k.hash w) q))→wpAny (model P w) A (setSearchFrom a (.ref x) (k.hash w) true f stand) Q E s:=by
 obtain⟨o,ho,hex,hd⟩:=R.here;intro f
 induction f with
 | zero=>intro c stand _ h1 h2;omega
 | succ f ih=>
  intro c stand hst h1 h2 ahead;have st:∀{Q':_→Shared→Prop},Q' (es,ep,t) s→wpAny (model P w) A (setState a) Q' E s:=λq=>wpAny_setState_of ho hd R.fit q
  rw[setSearchFrom_succ];refine wpAny_bind (st ?_);dsimp only;rw[if_neg R.solid,hst];refine wpAny_bind (wpAny_pure ?_)
  rcases Acy R.tab free full few h1 R.hashAt with⟨q,i,q1,q2,q3,q4,q5,q6⟩|⟨q5,q6⟩
  ·rw [q6]
   dsimp only;obtain⟨p,hp⟩:∃p,L[i]? = some p:=by
    rw[Af]at q4
    cases z:L[i]? with
    | none=>rw[z]at q4;cases q4
    | some p=>exact⟨p,rfl⟩
   have pm:p∈L:=Ae hp;have step:wpAny (model P w) A (searchRest a (.ref x) (k.hash w) true f es t (way t.mask (k.hash w) q) i (look t (k.hash w) (q+1))) Q E s:=by
    unfold searchRest;rw[R.ent hp];dsimp only;refine wpAny_bind (wpAny_holding ((nestedKind P w).eqBool hu (R.keys p pm) hx (wpAny_bind (st ?_))));dsimp only;by_cases e:p.2=k
    ·rw[decide_eq_true e]
     exact wpAny_pure (yes (Ac.mpr ⟨p,pm,e⟩))
    ·rw[decide_eq_false e,sameMem]
     have live:=slot_live R.tab.ris q3;simp only[Qt,Yzg,if_false,if_true,live,R.ent hp]
     first
      | refine wpAny_bind (wpAny_pure (wpAny_bind (wpAny_bind (wpAny_isSame_ref_self (wpAny_pure ?_)))))
      | refine wpAny_bind (wpAny_bind (wpAny_isSame_ref_self (wpAny_pure ?_)))
      | refine wpAny_bind (wpAny_isSame_ref_self (wpAny_bind (wpAny_pure ?_)))
     simp only[if_true,Yzg,if_false];refine ih (q+1) _ rfl q2 (by omega) λi0 p0 z1 z2=>?_
     obtain⟨q',a1,a2,a3⟩:=ahead i0 p0 z1 z2;have h0:(L.map λp=>p.2.hash w)[i0]? = some (k.hash w):=by rw[Af,z1,← z2];rfl
     have ge:¬ q' < q:=λlt=>q5 q' i0 a1 lt a3 h0
     have ne:q'≠q:=λe'=>by
      subst e';have:=R.same_slot a3 q3;subst this;rw[hp]at z1;exact e (by rw[Aj.inj z1];exact z2)
     exact⟨q',by omega,a2,a3⟩
   by_cases hl:t.led=true
   ·rw[hl]
    exact wpAny_bind (wpAny_pure step)
   ·rw[Bool.not_eq_true]at hl
    rw[hl];refine wpAny_bind (Ab7 hx (λy hy=>?_) ?_)
    ·obtain⟨e,he,rfl⟩:=Ac.mp hy
     have he:e∈es∧e.1=k.hash w:=by simpa using he
     have he:e∈es.toList:=by simpa using he.1
     rw[R.ents]at he;obtain⟨p2,m2,rfl⟩:=Ac.mp he;exact⟨p2.2,p2.1,rfl,R.keys p2 m2⟩
    ·exact wpAny_bind (wpAny_pure step)
  ·rw[q6]
   dsimp only;refine wpAny_pure (no λm=>?_);obtain⟨p0,m0,e0⟩:=Ac.mp m;obtain⟨i0,hi0,rfl⟩:=List.getElem_of_mem m0;have z1:=Ab hi0;obtain⟨q',a1,a2,a3⟩:=ahead i0 _ z1 e0;exact q5 q' i0 a1 a2 a3 (by rw[Af,z1,← e0];rfl)
theorem As9(R:NSet P w s.heap a L es ep t){x:Addr}{k:NestedKey}(hx:NIs P w s.heap k x)(hu:A.units+8 < cLine){Q:SetFound→Shared→Prop}(yes:k∈L.map (·.2)→Q (.there none) s)
  (no:∀K,k∉L.map (·.2)→way t.mask (k.hash w) K∉t.place.toList→(∀n,n < K→way t.mask (k.hash w) n∈t.place.toList)→Q (.free (way t.mask (k.hash w) K) false) s):wpAny (model P w) A (setSearch a (.ref x) (k.hash w) true) Q E s:=by
 have room:=R.room;have ps:=R.psize;obtain⟨K,few,free,full⟩:=R.tab.first (by rw[Yzi];omega) (k.hash w)
 have small:10*SetTable.turns t.mask≤1420:=by
  unfold SetTable.turns
  rcases R.tab.mok with e|e|e<;>rw[e]<;>omega
 refine Afy R hx hu few free full yes (λn=>no K n free full) 100000 0 none rfl (Am _) (by omega) λi p z1 z2=>?_
 have li:i < t.place.toList.length:=by
  rw[Array.length_toList,ps];exact(Ag.mp z1).1
 have hj:=Ab li;obtain⟨c,h1,h2⟩:=R.tab.before free (h:=k.hash w) (i:=i) (by rw[Af,z1,← z2];rfl) hj;exact⟨c,Am _,h1,by rw[hj,h2]⟩
end
end SF
namespace SF
open PySem PySem.Spec PyProof.Rows L2
variable[TN]
theorem Vk{α:Type}:∀L:List α,(Dz L.length).filterMap (λi=>L[i]?)=L
 | []=>rfl
 | x::L=>by
  have e:Qs (λi=>(x::L)[i]?) (0::(Dz L.length).map Nat.succ)=x::L:=by
   rw[Hq];show x::Qs (λi=>(x::L)[i]?) ((Dz L.length).map Nat.succ)=x::L
   rw[Tt];exact congrArg (x :: ·) (Vk L)
  rw[Yzk,List.range_succ_eq_map];exact e
section
variable{P:Program}{w:World}{A:Around}{E:Value→Shared→Prop}{s:Shared}{a:Addr}{L:KL}{es:Array (Int×Value)}{ep:Nat}{t:SetTable}
theorem NIs.other{h h':Heap}{k:NestedKey}{b:Addr}{o:Obj}(x:NIs P w h k b)(ho:h.get? a=some o)(hd:o.data = .set es ep t)(sb:Heap.SameBut a h h'):NIs P w h' k b:=
 ⟨NestedIs.at (λc u vs n hc hu=>(sb.2 c λe=>by subst e;rw[ho]at hc;cases hc;rw[hd]at hu;cases hu).trans hc) k _ x.1,x.2⟩
theorem NIs.keep{h h':Heap}{k:NestedKey}{b:Addr}(x:NIs P w h k b)(kp:∀c o,h.get? c=some o→h'.get? c=some o):NIs P w h' k b:=
 ⟨NestedIs.at (λc u _ _ hc _=>kp c u hc) k _ x.1,x.2⟩
theorem Af4(ents:es.toList=L.map (Abg w)){order:Array Nat}(pm:order.toList.Perm (Dz L.length)) :
  ∃L':KL,(order.filterMap (es[·]?)).toList=L'.map (Abg w)∧L'.Perm L∧(L'.map λp=>p.2.hash w)=order.toList.map λi=>(es.map (·.1)).getD i 0:=by
 have ent:∀i:Nat,es[i]? = (L[i]?).map (Abg w):=λi=>by rw[← Array.getElem?_toList,ents,Af]
 refine⟨order.toList.filterMap λi=>L[i]?,?_,?_,?_⟩
 ·rw[Array.toList_filterMap,List.map_filterMap]
  exact congrArg (λf=>Qs f order.toList) (funext ent)
 ·have:=pm.filterMap λi=>L[i]?
  rwa [Vk]at this
 ·have low:∀i∈order.toList,i < L.length:=λi hi=>Qp.mp (pm.mem_iff.mp hi)
  revert low
  generalize order.toList=l;intro low
  induction l with
  | nil=>rfl
  | cons i l ih=>
   have hi:=low i (by simp);have e:=Ab hi;have e2:(es.map (·.1))[i]? = some ((L[i]).2.hash w):=by rw[Array.getElem?_map,ent i,e];rfl
   rw[List.filterMap_cons_some e,Yzs,Yzs,ih λj hj=>low j (by simp[hj]),Array.getD_eq_getD_getElem?,e2];rfl
theorem Acu{o:Obj}(ho:s.heap.get? a=some o)(hex:o.ExactSet)(hd:o.data = .set es ep t)(ents:es.toList=L.map (Abg w))(psz:t.place.size=es.size)(dm:t.dummies = #[])(le:es.size≤t.mask)(once:(L.map (·.2)).Nodup)(keys:∀p∈L,NIs P w s.heap p.2 p.1)
  (led:w.params.followText "set-order" = true∨t.led=true) {wanted M:Nat} (hw:SetTable.sizeAbove wanted - 1=M) (hM:MaskOk M) (sm:SetTable.sizeAbove wanted≤128) (room:L.length*5 < M*3) {Q:Unit→Shared→Prop}
  (h:∀h' L' es' ep' t',Heap.SameBut a s.heap h'→NSet P w h' a L' es' ep' t'→L'.Perm L→Q () { s with heap:=h' }):wpAny (model P w) A (setRelay a wanted) Q E s:=by
 have sz:es.size=L.length:=by rw[← Array.length_toList,ents,Yzi]
 have fit:t.fits es.size=true:=by
  unfold SetTable.fits SetTable.fill;rw[dm,psz];simp only[beq_self_eq_true,Hu,decide_eq_true_eq];show es.size+0≤t.mask
  omega
 obtain⟨t',order,e1,e2,T,e3,e4,_,_⟩:=relaid_ok t (hs:=es.map (·.1)) hw hM (by rw[Array.size_map];omega);rw[Array.size_map,sz]at e2;obtain⟨L',r1,r2,r3⟩:=Af4 (w:=w) ents e2;rw[← r3]at T;have sz':(order.filterMap (es[·]?)).size=L.length:=by rw[← Array.length_toList,r1,Yzi,r2.length_eq]
 rw[setRelay_eq];refine wpAny_bind (wpAny_setState_of ho hd fit ?_);dsimp only;rw[if_neg (by rw[sizeLine_eq];omega),e1];refine wpAny_bind ?_;dsimp only;rw[if_neg (by rw[sz',sz];simp)];refine wpAny_pure ?_;dsimp only;have sb:Heap.SameBut a s.heap (s.heap.update a (Obj.putSet (order.filterMap (es[·]?)) t')):=Heap.SameBut.update ..;refine wpAny_storeSet_of ho hd (h _ L' _ (ep+1) t' sb ⟨⟨_,store_at ho hd,⟨hex.1,hex.2.1,hex.2.2⟩,rfl⟩,r1,T,((r2.map (·.2)).nodup_iff).mpr once,λp hp=>(keys p (r2.mem_iff.mp hp)).other ho hd sb,by rw[e4];exact led,by rw[r2.length_eq,e3];exact room⟩ r2) (by rw[sz',sizeLine_eq];rcases hM with e|e|e<;>omega)
theorem NSet.add(R:NSet P w s.heap a L es ep t){x:Addr}{k:NestedKey}(hx:NIs P w s.heap k x)(hu:A.units+8 < cLine)(few:L.length < 76){Q:Bool→Shared→Prop}
  (h:∀b h' L' es' ep' t',Heap.SameBut a s.heap h'→NSet P w h' a L' es' ep' t'→(k∈L.map (·.2)∧L'=L∨k∉L.map (·.2)∧L'.Perm ((x,k)::L))→Q b { s with heap:=h' }):wpAny (model P w) A (setAddHashed a (.ref x) (k.hash w)) Q E s:=by
 obtain⟨o,ho,hex,hd⟩:=R.here;have sz:=R.size;have room:=R.room;have st:∀{A':Around} {Q':_→Shared→Prop},Q' (es,ep,t) s→wpAny (model P w) A' (setState a) Q' E s:=λq=>wpAny_setState_of ho hd R.fit q
 unfold setAddHashed;refine wpAny_holding ?_;rw[setAddHashedIn_succ a (.ref x) (k.hash w) 99999];refine wpAny_bind (st ?_);dsimp only;rw[show byScan (.ref x) es=false from by simp[byScan,Value.scannable]];refine wpAny_bind (As9 R hx hu (λm=>?_) λK nm free full=>?_)
 ·exact wpAny_pure (h false s.heap L es ep t (Heap.SameBut.refl ..) R (.inl ⟨m,rfl⟩))
 ·dsimp only
  refine wpAny_bind (st ?_);obtain⟨p1,p2,p3,p4,p5,p6,_,_,p9⟩:=R.tab.put free full;dsimp only;generalize ep1:t.put (way t.mask (k.hash w) K)=tp at *;obtain⟨t1,q⟩:=tp;dsimp only at *;generalize SetTable.below t.place (way t.mask (k.hash w) K)=q0 at *;subst p1;have rest:∀t2:SetTable,(∃b,t2={ t1 with plain:=b })→wpAny (model P w) A (do
    storeSet a (SetTable.insertAt es q (k.hash w,.ref x)) t2
    if(!false && t2.tooFull)=true then do
      setRelay a (SetTable.grown (es.size+1))
      pure true
     else pure true) Q E s:=λt2 e2=>by
   obtain⟨b,e2⟩:=e2;subst e2;have pm:(L.take q++(x,k)::L.drop q).Perm ((x,k)::L):=by
    have z:=List.perm_middle (a:=(x,k)) (l₁:=L.take q) (l₂:=L.drop q)
    rwa [List.take_append_drop]at z
   have hsh:(L.take q++(x,k)::L.drop q).map (λp=>p.2.hash w)=(L.map λp=>p.2.hash w).take q++k.hash w::(L.map λp=>p.2.hash w).drop q:=by simp[Mw,List.map_drop]
   have ents1:(SetTable.insertAt es q (k.hash w,.ref x)).toList=(L.take q++(x,k)::L.drop q).map (Abg w):=by
    rw[SetTable.toList_insertAt,R.ents];simp[Mw,List.map_drop,Abg]
   rw[← hsh]at p3;generalize L.take q++(x,k)::L.drop q=L1 at *;generalize SetTable.insertAt es q (k.hash w,Value.ref x)=es1 at *;have len1:L1.length=L.length+1:=pm.length_eq;have sz1:es1.size=L.length+1:=by rw[← Array.length_toList,ents1,Yzi,len1]
   have T2:TabOk { t1 with plain:=b } (L1.map λp=>p.2.hash w):=⟨p3.ris,p3.dm,p3.sz,p3.mok,p3.bd,p3.reach⟩;have ld:w.params.followText "set-order" = true∨t1.led=true:=by rw[p5];exact R.led
   have once1:(L1.map (·.2)).Nodup:=((pm.map (·.2)).nodup_iff).mpr (Hw.mpr ⟨nm,R.once⟩);have sb:Heap.SameBut a s.heap (s.heap.update a (Obj.putSet es1 { t1 with plain:=b })):=Heap.SameBut.update ..;have ho1:=store_at (es':=es1) (t':={ t1 with plain:=b }) ho hd;refine wpAny_bind (wpAny_storeSet_of ho hd ?_ (by rw[sz1,sizeLine_eq];omega));generalize s.heap.update a (Obj.putSet es1 { t1 with plain:=b })=h1 at *;have keys1:∀p∈L1,NIs P w h1 p.2 p.1:=λp hp=>by
    rcases Ad.mp (pm.mem_iff.mp hp)with e|m
    ·subst e;exact hx.other ho hd sb
    ·exact(R.keys p m).other ho hd sb
   have psz:t1.place.size=L.length+1:=by
    have:=p3.sz
    rwa [Yzi,len1]at this
   have fill:t1.fill=L.length+1:=by rw[p9,Yzi]
   by_cases full2:SetTable.tooFull { t1 with plain:=b }=true
   ·rw[full2]
    have big:(L.length+1)*5 ≥ t1.mask*3:=by
     have z:=full2;unfold SetTable.tooFull at z;rw[decide_eq_true_eq,show SetTable.fill { t1 with plain:=b }=L.length+1 from fill]at z;exact z
    rw[p4]at big;have go:∀M,SetTable.sizeAbove (SetTable.grown (L.length+1)) - 1=M→MaskOk M→SetTable.sizeAbove (SetTable.grown (L.length+1))≤128→(L.length+1)*5 < M*3→t.mask ≥ L.length+1 →
      wpAny (model P w) A (setRelay a (SetTable.grown (es.size+1))) (λ_ s'=>wpAny (model P w) A (pure true) Q E s') E { s with heap:=h1 }:=λM m1 m2 m3 m4 m5=>by
     rw[sz];refine Acu (s:={ s with heap:=h1 }) ho1 ⟨hex.1,hex.2.1,hex.2.2⟩ rfl ents1 (by rw[sz1];exact psz) p3.dm (by rw[sz1];show _≤t1.mask;rw[p4];exact m5) once1 keys1 ld m1 m2 m3 (by rw[len1];exact m4) λh2 L2 es2 ep2 t2 sb2 R2 pm2=>?_
     exact wpAny_pure (h true h2 L2 es2 ep2 t2 (sb.trans sb2) R2 (.inr ⟨nm,pm2.trans pm⟩))
    refine wpAny_bind ?_
    rcases R.tab.mok with e|e|e<;>rw[e]at big room
    ·have n4:L.length=4:=by omega
     exact go 31 (by rw[n4,size_20]) (.inr (.inl rfl)) (by rw[n4,size_20];decide) (by omega) (by omega)
    ·have n18:L.length=18:=by omega
     exact go 127 (by rw[n18,size_76]) (.inr (.inr rfl)) (by rw[n18,size_76];decide) (by omega) (by omega)
    ·omega
   ·rw[Bool.not_eq_true]at full2
    rw[full2];refine wpAny_pure (h true h1 L1 es1 (ep+1) _ sb ⟨⟨_,ho1,⟨hex.1,hex.2.1,hex.2.2⟩,rfl⟩,ents1,T2,once1,keys1,ld,?_⟩ (.inr ⟨nm,pm⟩));have z:=full2;unfold SetTable.tooFull at z;rw[decide_eq_false_iff_not,show SetTable.fill { t1 with plain:=b }=L.length+1 from fill]at z;rw[len1];show _ < t1.mask*3
    have:¬ (L.length+1)*5 ≥ t1.mask*3:=z;omega
  cases hp:t1.plain with
  | false=>
   rw[if_neg (by decide)];refine wpAny_bind (wpAny_pure ?_);exact rest _ ⟨false,by cases t1;simp_all⟩
  | true=>
   rw[if_pos rfl];refine wpAny_bind (Adi 8 k (.ref x) hx.1 A E _ λb=>?_)
   cases b with
   | true=>exact rest _ ⟨true,by cases t1;simp_all⟩
   | false=>exact rest _ ⟨false,rfl⟩
end
end SF
namespace SF
open PySem PySem.Spec PyProof.Rows L2
variable[TN]
def NSet0(w:World)(h:Heap)(a:Addr)(L:KL):Prop:=∃(es:Array (Int×Value)) (ep:Nat) (t:SetTable),(∃o,h.get? a=some o∧o.ExactSet∧o.data = .set es ep t)∧es.toList=L.map (Abg w)∧TabOk t (L.map λp=>p.2.hash w)∧(L.map (·.2)).Nodup ∧
 (w.params.followText "set-order" = true∨t.led=true)∧L.length*5 < t.mask*3
def HeldN(L seen:KL):Prop:=(∀p∈L,p∈seen)∧∀p∈seen,p.2∈L.map (·.2)
theorem HeldN.nil:HeldN [] []:=⟨λ_ h=>(nomatch h),λ_ h=>(nomatch h)⟩
theorem HeldN.snoc{L L' seen:KL}{x:Addr}{k:NestedKey}(h:HeldN L seen)(c:k∈L.map (·.2)∧L'=L∨k∉L.map (·.2)∧L'.Perm ((x,k)::L)):HeldN L' (seen++[(x,k)]):=by
 rcases c with⟨m,rfl⟩|⟨_,pm⟩
 ·refine⟨λp hp=>J5 _ (h.1 p hp),λp hp=>?_⟩
  rcases Bl.mp hp with hp|hp
  ·exact h.2 p hp
  ·rw[Aq.mp hp];exact m
 ·have pk:=(pm.map (·.2)).mem_iff (a:=k)
  refine⟨λp hp=>?_,λp hp=>?_⟩
  ·rcases Ad.mp (pm.mem_iff.mp hp)with e|hp
   ·rw[e];simp
   ·exact J5 _ (h.1 p hp)
  ·rcases Bl.mp hp with hp|hp
   ·exact(pm.map (·.2)).mem_iff.mpr (Eh _ (h.2 p hp))
   ·rw[Aq.mp hp];exact(pm.map (·.2)).mem_iff.mpr Dd
theorem HeldN.len{L seen:KL}(h:HeldN L seen)(nd:(L.map (·.2)).Nodup):L.length≤seen.length:=by
 have:=nd.length_le_of_subset (l₂:=seen.map (·.2)) λk hk=>by
  obtain⟨p,hp,rfl⟩:=Ac.mp hk;exact Ac.mpr ⟨p,h.1 p hp,rfl⟩
 simpa using this
section
variable{P:Program}{w:World}{A:Around}{E:Value→Shared→Prop}{s:Shared}{a:Addr}{L:KL}{es:Array (Int×Value)}{ep:Nat}{t:SetTable}
theorem NSet.t0(R:NSet P w s.heap a L es ep t):NSet0 w s.heap a L:=⟨es,ep,t,R.here,R.ents,R.tab,R.once,R.led,R.room⟩
theorem NSet0.full{h:Heap}(R:NSet0 w h a L)(keys:∀p∈L,NIs P w h p.2 p.1):∃es ep t,NSet P w h a L es ep t:=
 let ⟨es,ep,t,h1,h2,h3,h4,h5,h6⟩:=R
 ⟨es,ep,t,h1,h2,h3,h4,keys,h5,h6⟩
theorem NSet0.once{h:Heap}(R:NSet0 w h a L):(L.map (·.2)).Nodup:=let ⟨_,_,_,_,_,_,h4,_⟩:=R;h4
theorem NSet0.keep{h h':Heap}(R:NSet0 w h a L)(k:∀o,h.get? a=some o→h'.get? a=some o):NSet0 w h' a L:=
 let ⟨es,ep,t,⟨o,ho,r⟩,q⟩:=R
 ⟨es,ep,t,⟨o,k o ho,r⟩,q⟩
theorem NSet0.new(w:World)(h:Heap):NSet0 w (h.push { cls:=.type "set", dict:=none,data:=.set #[] 0 (.fresh 0 0 (!w.params.followText "set-order")) }) h.objs.size []:=
 ⟨#[],0,.fresh 0 0 (!w.params.followText "set-order"),⟨_,Heap.get?_push_size _ rfl,⟨rfl,rfl,rfl⟩,rfl⟩,rfl,⟨List.Pairwise.nil,rfl,rfl,.inl rfl,λx hx=>(nomatch hx),λi h j hi=>(by simp at hi)⟩,Iz,by
  show _∨(!w.params.followText "set-order")=true
  cases w.params.followText "set-order" <;> simp,by show 0*5 < 7*3;decide⟩
theorem NSet0.add1(R:NSet0 w s.heap a L)(keys:∀p∈L,NIs P w s.heap p.2 p.1){x:Addr}{k:NestedKey}(hx:NIs P w s.heap k x)(hu:A.units+8 < cLine)(few:L.length < 76){Q:Bool→Shared→Prop}
  (h:∀b h' L' n,Heap.SameBut a s.heap h'→NSet0 w h' a L'→(∀p∈L',NIs P w h' p.2 p.1)→(k∈L.map (·.2)∧L'=L∨k∉L.map (·.2)∧L'.Perm ((x,k)::L))→Q b { s with heap:=h',toks:=s.toks+n }):wpAny (model P w) A (setAdd a (.ref x)) Q E s:=by
 obtain⟨es,ep,t,R⟩:=R.full keys;unfold setAdd;refine wpAny_holding (wpAny_bind ((nestedKind P w).pyHash hu hx ?_));exact NSet.add (s:={ s with toks:=s.toks+(nestedKind P w).draws k }) R hx hu few λb h' L' es' ep' t' sb R' c=>h b h' L' _ sb (NSet.t0 (s:={ s with heap:=h' }) R') R'.keys c
theorem NSet0.typeIs(R:NSet0 w s.heap a L):s.TypeIs (.ref a) "set" := let ⟨_,_,_,⟨o,ho,hex,_⟩,_⟩:=R;⟨o,ho,hex.1⟩
theorem NSet0.call_add(R:NSet0 w s.heap a L)(keys:∀p∈L,NIs P w s.heap p.2 p.1){x:Addr}{k:NestedKey}(hx:NIs P w s.heap k x)(hu:A.units+18 < cLine)(few:L.length < 76){Q:Value→Shared→Prop}
  (h:∀h' L' n,Heap.SameBut a s.heap h'→NSet0 w h' a L'→(∀p∈L',NIs P w h' p.2 p.1)→(k∈L.map (·.2)∧L'=L∨k∉L.map (·.2)∧L'.Perm ((x,k)::L))→Q .none { s with heap:=h',toks:=s.toks+n }):wpAny (model P w) A (call (.builtin "set.add") [.ref a,.ref x]) Q E s:=by
 refine wpAny_call_entry F.slot_set_add R.typeIs F.entry_set_add ?_ (F.args_set_add_2 _ _);unfold Builtin.«set.add» Builtin.Frozenset.oneOther;have put:∀{E':Value→Shared→Prop} {Q':Bool→Shared→Prop},(∀b h' L' n,Heap.SameBut a s.heap h'→NSet0 w h' a L'→(∀p∈L',NIs P w h' p.2 p.1)→(k∈L.map (·.2)∧L'=L∨k∉L.map (·.2)∧L'.Perm ((x,k)::L))→Q' b { s with heap:=h',toks:=s.toks+n })→wpAny (model P w) A.in1 (setAdd a (.ref x)) Q' E' s:=λq=>R.add1 keys hx (by show A.units+1+8 < cLine;omega) few q
 wp_walk using put
 intro b h' L' n sb R' k' c
 wp_walk
 exact⟨_,rfl,h h' L' n sb R' k' c⟩
theorem Aqy{I S:Addr}{fp wr:List Addr}{Pv:Nat→Value→Prop}{St:Nat→Heap→Prop}{xs:KL}{R:Result→Shared→Prop}(W:Walks P w A.in1 I fp wr xs.length Pv St)(hS:S∉fp)(val:∀i v,Pv i v→∃p,xs[i]? = some p∧v = .ref p.1)(few:xs.length≤76)(hu:A.units+20 < cLine)
  {h0:Heap} (hk:∀p∈xs,NIs P w h0 p.2 p.1) (hS0:h0.get? S=none) (hw0:∀b∈wr,h0.get? b=none) :
  ∀(r:KL) (i:Nat) (s:Shared) (L:KL),xs.drop i=r→i≤xs.length→St i s.heap→(∀b o,h0.get? b=some o→s.heap.get? b=some o)→NSet0 w s.heap S L→HeldN L (xs.take i) →
   (∀s' L',NSet0 w s'.heap S L'→HeldN L' xs→(∀b o,h0.get? b=some o→s'.heap.get? b=some o)→s'.gens=s.gens→s'.os=s.os→R (.ok (.ret .none)) s') →
   codeAny (model P w) A (.builtin "set.update.loop" ⟨[.ref S,.ref I],[]⟩) R s:=by
 have nw:S∉wr:=λh=>hS (W.sub S h)
 have still:∀{h h':Heap},(∀b o,b∉wr→h.get? b=some o→h'.get? b=some o)→(∀b o,h0.get? b=some o→h.get? b=some o)→∀b o,h0.get? b=some o→h'.get? b=some o:=λk q b o e=>k b o (λm=>by rw[hw0 b m]at e;cases e) (q b o e)
 intro r
 induction r with
 | nil=>
  intro i s L hd hi st kp T hl h;have ei:i=xs.length:=by have:=congrArg Dh hd;simp at this;omega
  subst ei;rw[Wi]at hl;refine codeAny_builtin PyProof.Rows.F.entry_set_update_loop ?_;rw[Around.under_plainId PyProof.Rows.F.plain_set_update_loop _];unfold Builtin.«set.update.loop»; have stop:=λQ E=>W.done s Q E st
  wp_walk using stop
  intro h' tk k1
  wp_walk
  exact h _ L (T.keep λo e=>k1 S o nw e) hl (still k1 kp) rfl rfl
 | cons x r ih=>
  intro i s L hd hi st kp T hl h;have lt:i < xs.length:=by have:=congrArg Dh hd;simp at this;omega
  have hx:xs[i]? = some x:=by
   rw[← Nat.add_zero i,← List.getElem?_drop,hd];rfl
  have hr:xs.drop (i+1)=r:=by rw[← List.drop_drop,hd];rfl
  have tk1:xs.take (i+1)=xs.take i++[x]:=by rw[List.take_add_one,hx];rfl
  refine codeAny_builtin PyProof.Rows.F.entry_set_update_loop ?_;rw[Around.under_plainId PyProof.Rows.F.plain_set_update_loop _];unfold Builtin.«set.update.loop»; have next:=λQ E=>W.item i s Q E lt st
  wp_walk using next
  intro v h' tk pv st' k1;obtain⟨p,hp,rfl⟩:=val i v pv
  cases hx.symm.trans hp
  have kp1:=still k1 kp;have ll:L.length < 76:=by
   have:=hl.len T.once;rw[Br]at this;omega
  have T1:NSet0 w h' S L:=T.keep λo e=>k1 S o nw e
  have put:=λE' Q'=>NSet0.add1 (P:=P) (A:=A.in1) (E:=E') (s:={ s with heap:=h',toks:=tk }) (Q:=Q') T1 (λp hp=>(hk p (Ef (hl.1 p hp))).keep kp1) ((hk x (Ae hx)).keep kp1) (by show A.units+1+8 < cLine;omega) ll
  wp_walk using put
  intro b h2 L2 n sb T2 _ c
  wp_walk
  refine⟨plainId_quiet PyProof.Rows.F.plain_set_update_loop _,ih (i+1) _ L2 hr lt (W.frame _ _ _ st' λb hb o e=>(sb.2 b λz=>hS (z ▸ hb)).trans e) (λb o e=>(sb.2 b λz=>by rw[z,hS0]at e;cases e).trans (kp1 b o e)) T2 (by rw[tk1];exact hl.snoc c) h⟩
end
end SF
namespace SF
open PySem PySem.Spec PyProof.Rows L2
variable[TN]
mutual
def dkN:NestedKey→Dat
 | .text x=>.str x.cps.toList
 | .tup ks=>.tup (dkNs ks)
 | .none=>.non
 | .num i=>.int i
def dkNs:List NestedKey→List Dat
 | []=>[]
 | k::ks=>dkN k::dkNs ks
end
mutual
theorem Abi:∀d:Dat,txk d=true→dkN (nkD d)=d
 | .str s,_=>by rw[nkD,dkN]
 | .tup l,h=>by rw[txk]at h;rw[nkD,dkN,dks_nks l h]
 | .non,h=>by simp[txk]at h
 | .bl _,h=>by simp[txk]at h
 | .int _,h=>by simp[txk]at h
 | .lst _,h=>by simp[txk]at h
 | .dic _,h=>by simp[txk]at h
 | .obj _ _,h=>by simp[txk]at h
 | .pot,h=>by simp[txk]at h
 | .scr _,h=>by simp[txk]at h
 | .kd _,h=>by simp[txk]at h
theorem dks_nks:∀l:List Dat,txks l=true→dkNs (nkDs l)=l
 | [],_=>by rw[nkDs,dkNs]
 | d::l,h=>by
  rw[txks,Yzh]at h;rw[nkDs,dkNs,Abi d h.1,dks_nks l h.2]
end
mutual
theorem Zj:∀a b:Dat,txk a=true→txk b=true→(eqD a b=true ↔ a=b)
 | .str s,b,_,hb=>by
  cases b with
  | str t=>rw[eqD,beq_iff_eq];exact⟨λe=>by rw[e],λe=>by injection e⟩
  | tup l=>exact⟨λe=>by simp[eqD]at e,λe=>by cases e⟩
  | _=>simp[txk]at hb
 | .tup l,b,ha,hb=>by
  cases b with
  | str t=>exact⟨λe=>by simp[eqD]at e,λe=>by cases e⟩
  | tup m=>
   rw[txk]at ha hb;rw[eqD,eqDs_tx l m ha hb];exact⟨λe=>by rw[e],λe=>by injection e⟩
  | _=>simp[txk]at hb
 | .non,_,h,_=>by simp[txk]at h
 | .bl _,_,h,_=>by simp[txk]at h
 | .int _,_,h,_=>by simp[txk]at h
 | .lst _,_,h,_=>by simp[txk]at h
 | .dic _,_,h,_=>by simp[txk]at h
 | .obj _ _,_,h,_=>by simp[txk]at h
 | .pot,_,h,_=>by simp[txk]at h
 | .scr _,_,h,_=>by simp[txk]at h
 | .kd _,_,h,_=>by simp[txk]at h
theorem eqDs_tx:∀a b:List Dat,txks a=true→txks b=true→(eqDs a b=true ↔ a=b)
 | [],[],_,_=>by simp[eqDs]
 | [],_::_,_,_=>by simp[eqDs]
 | _::_,[],_,_=>by simp[eqDs]
 | x::a,y::b,ha,hb=>by
  rw[txks,Yzh]at ha hb;rw[eqDs,Yzh,Zj x y ha.1 hb.1,eqDs_tx a b ha.2 hb.2];simp
end
theorem Aez{a b:Dat}(ha:txk a=true)(hb:txk b=true)(ne:a≠b):eqD a b=false:=by
 cases h:eqD a b with
 | false=>rfl
 | true=>exact absurd ((Zj a b ha hb).mp h) ne
theorem Aey{a:Dat}(ha:txk a=true):eqD a a=true:=(Zj a a ha ha).mpr rfl
mutual
def Mp:Dat→List Nat
 | .str s=>s.map (· + 2)++[1]
 | .tup l=>1::encTs l
 | _=>[]
def encTs:List Dat→List Nat
 | []=>[0]
 | d::l=>Mp d++encTs l
end
theorem G3(a b:Nat)(x y:List Nat):ltS (a::x) (b::y)=if a=b then ltS x y else decide (a < b):=by
 rw[ltS];by_cases e:a=b
 ·subst e;simp
 ·rw[if_neg e,if_neg e]
  by_cases l:a < b<;>simp[l]
theorem Ae0:∀(s t:List Nat) (r q:List Nat),ltS (s.map (· + 2)++1::r) (t.map (· + 2)++1::q)=if s=t then ltS r q else ltS s t
 | [],[],r,q=>by simp[G3]
 | [],b::t,r,q=>by
  rw[if_neg (by simp)];show ltS (1::r) ((b+2)::_)=true
  rw[G3,if_neg (by omega),decide_eq_true (by omega)]
 | a::s,[],r,q=>by
  rw[if_neg (by simp)];show ltS ((a+2)::_) (1::q)=false
  rw[G3,if_neg (by omega),decide_eq_false (by omega)]
 | a::s,b::t,r,q=>by
  show ltS ((a+2)::(s.map (· + 2)++1::r)) ((b+2)::(t.map (· + 2)++1::q))=_
  rw[G3,G3,Ae0 s t r q];by_cases e:a=b
  ·subst e;simp
  ·rw[if_neg (by omega),if_neg (by intro z;injection z with z _;exact e z),if_neg e]
   by_cases l:a < b<;>simp[l]
theorem Aei:∀s:List Nat,ltS s s=false
 | []=>rfl
 | a::s=>by rw[G3,if_pos rfl,Aei s]
theorem Abh:∀(d:Dat),txk d=true→∃a r,Mp d=(a+1)::r:=by
 intro d h
 cases d with
 | str s=>cases s with
  | nil=>exact⟨0,[],rfl⟩
  | cons a s=>exact⟨a+1,s.map (· + 2)++[1],rfl⟩
 | tup l=>exact⟨0,encTs l,rfl⟩
 | _=>simp[txk]at h
mutual
theorem Zb:∀(a b:Dat) (r q:List Nat),txk a=true→txk b=true→Av a b=true→ltS (Mp a++r) (Mp b++q)=if eqD a b=true then ltS r q else ltD a b
 | .str s,b,r,q,_,hb,al=>by
  cases b with
  | str t=>
   rw[Mp,Mp,Cm,Cm];show ltS (s.map (· + 2)++1::r) (t.map (· + 2)++1::q)=_
   rw[Ae0,eqD];by_cases e:s=t
   ·subst e;simp
   ·rw[if_neg e,if_neg (by simpa using e),ltD]
  | tup l=>simp[Av]at al
  | _=>simp[txk]at hb
 | .tup l,b,r,q,ha,hb,al=>by
  cases b with
  | tup m=>
   rw[txk]at ha hb;rw[Av]at al;rw[Mp,Mp,Bh,Bh,G3,if_pos rfl,lts_enc l m r q ha hb al,eqD,ltD]
  | str t=>simp[Av]at al
  | _=>simp[txk]at hb
 | .non,_,_,_,h,_,_=>by simp[txk]at h
 | .bl _,_,_,_,h,_,_=>by simp[txk]at h
 | .int _,_,_,_,h,_,_=>by simp[txk]at h
 | .lst _,_,_,_,h,_,_=>by simp[txk]at h
 | .dic _,_,_,_,h,_,_=>by simp[txk]at h
 | .obj _ _,_,_,_,h,_,_=>by simp[txk]at h
 | .pot,_,_,_,h,_,_=>by simp[txk]at h
 | .scr _,_,_,_,h,_,_=>by simp[txk]at h
 | .kd _,_,_,_,h,_,_=>by simp[txk]at h
theorem lts_enc:∀(a b:List Dat) (r q:List Nat),txks a=true→txks b=true→alikeDs a b=true→ltS (encTs a++r) (encTs b++q)=if eqDs a b=true then ltS r q else ltDs a b
 | [],[],r,q,_,_,_=>by
  show ltS (0::r) (0::q)=_
  rw[G3];simp[eqDs]
 | [],y::b,r,q,_,hb,_=>by
  rw[txks,Yzh]at hb;obtain⟨c,z,e⟩:=Abh y hb.1;rw[encTs,encTs,e,if_neg (by simp[eqDs]),ltDs];show ltS (0::r) ((c+1)::_)=true
  rw[G3,if_neg (by omega),decide_eq_true (by omega)]
 | x::a,[],r,q,ha,_,_=>by
  rw[txks,Yzh]at ha;obtain⟨c,z,e⟩:=Abh x ha.1;rw[encTs,encTs,e,if_neg (by simp[eqDs]),ltDs];show ltS ((c+1)::_) (0::q)=false
  rw[G3,if_neg (by omega),decide_eq_false (by omega)]
 | x::a,y::b,r,q,ha,hb,al=>by
  rw[txks,Yzh]at ha hb;rw[alikeDs,Yzh]at al;rw[encTs,encTs,Cm,Cm,Zb x y _ _ ha.1 hb.1 al.1,lts_enc a b r q ha.2 hb.2 al.2,eqDs,ltDs]
  cases e1:eqD x y<;>simp
end
mutual
theorem Ajr:∀a:Dat,txk a=true→ltD a a=false
 | .str s,_=>by rw[ltD];exact Aei s
 | .tup l,h=>by rw[txk]at h;rw[ltD];exact ltDs_self l h
 | .non,h=>by simp[txk]at h
 | .bl _,h=>by simp[txk]at h
 | .int _,h=>by simp[txk]at h
 | .lst _,h=>by simp[txk]at h
 | .dic _,h=>by simp[txk]at h
 | .obj _ _,h=>by simp[txk]at h
 | .pot,h=>by simp[txk]at h
 | .scr _,h=>by simp[txk]at h
 | .kd _,h=>by simp[txk]at h
theorem ltDs_self:∀a:List Dat,txks a=true→ltDs a a=false
 | [],_=>rfl
 | x::a,h=>by
  rw[txks,Yzh]at h;rw[ltDs,Aey h.1,if_pos rfl,ltDs_self a h.2]
end
theorem Am4{a b:Dat}(ha:txk a=true)(hb:txk b=true)(al:Av a b=true):ltD a b=ltS (Mp a) (Mp b):=by
 have h:=Zb a b [] [] ha hb al;rw[Bu,Bu]at h;rw[h]
 cases e:eqD a b with
 | true=>
  have e:=(Zj a b ha hb).mp e;subst e;rw[if_pos rfl,Ajr a ha];rfl
 | false=>rw[if_neg (by decide)]
theorem Ann{a b:Dat}(ha:txk a=true)(hb:txk b=true)(al:Av a b=true)(h:Mp a=Mp b):a=b:=by
 apply Classical.byContradiction
 intro ne;have h1:=Zb a b [0] [1] ha hb al;have h3:=Zb a b [1] [0] ha hb al;rw[Aez ha hb ne,if_neg (by decide),h]at h1 h3;have e1:∀x r q:List Nat,ltS (x++r) (x++q)=ltS r q:=λx=>by
  induction x with
  | nil=>intro r q;rfl
  | cons a x ih=>intro r q;rw[Bh,Bh,G3,if_pos rfl,ih]
 rw[e1]at h1 h3;rw[← h1]at h3;exact absurd h3 (by decide)
theorem Aae{l m:List Dat}(pm:l.Perm m)(tx:∀d∈l,txk d=true)(al:alikeAll l):Df l=Df m:=by
 have tm:∀d∈m,txk d=true:=λd hd=>tx d (pm.mem_iff.mpr hd)
 have am:alikeAll m:=λx hx y hy=>al x (pm.mem_iff.mpr hx) y (pm.mem_iff.mpr hy)
 have key:∀{l:List Dat},(∀d∈l,txk d=true)→alikeAll l→(Df l).map Mp=(l.map Mp).mergeSort leT:=λ{l} tx al=>by
  unfold Df;refine Tq λa ha b hb=>?_
  show(!ltD b a) = !ltS (Mp b) (Mp a)
  rw[Am4 (tx b hb) (tx a ha) (al b hb a ha)]
 have e:(Df l).map Mp=(Df m).map Mp:=by rw[key tx al,key tm am,W9 (pm.map Mp)]
 have sl:∀d∈Df l,d∈l:=λd hd=>(Fo l _).mem_iff.mp hd
 have sm:∀d∈Df m,d∈l:=λd hd=>pm.mem_iff.mpr ((Fo m _).mem_iff.mp hd)
 revert e sl sm
 generalize Df l=a;generalize Df m=b;intro e sl sm
 induction a generalizing b with
 | nil=>cases b with
  | nil=>rfl
  | cons y b=>cases e
 | cons x a ih=>cases b with
  | nil=>cases e
  | cons y b=>
   rw[Yzs,Yzs]at e;injection e with e1 e2;have hx:=sl x (by simp);have hy:=sm y (by simp);rw[Ann (tx x hx) (tx y hy) (al x hx y hy) e1,ih b e2 (λd hd=>sl d (by simp[hd])) λd hd=>sm d (by simp[hd])]
theorem Su:∀(l:List Dat),(∀d∈l,txk d=true)→∀d,d∈Hk l ↔ d∈l
 | [],_,d=>by rw[Hk]
 | x :: l,tx,d=>by
  have ih:=Su l (λd hd=>tx d (by simp[hd])) d;rw[Hk,Ad,Ad,Pb,ih];constructor
  ·rintro(h|⟨h,_⟩)
   ·exact .inl h
   ·exact .inr h
  ·rintro(h|h)
   ·exact .inl h
   ·by_cases e:d=x
    ·exact .inl e
    ·refine .inr ⟨h,?_⟩
     rw[Aez (tx x (by simp)) (tx d (by simp[h])) λz=>e z.symm];rfl
theorem Uh:∀(l:List Dat),(∀d∈l,txk d=true)→(Hk l).Nodup
 | [],_=>by rw[Hk];exact Iz
 | x::l,tx=>by
  have tl:∀d∈l,txk d=true:=λd hd=>tx d (by simp[hd])
  rw[Hk];refine Hw.mpr ⟨λh=>?_,(Uh l tl).filter _⟩;obtain⟨h1,h2⟩:=Pb.mp h;rw[Aey (tx x (by simp))]at h2
  cases h2
theorem O9:∀l:List Dat,(Hk l).length≤l.length
 | []=>Aa _
 | x::l=>by
  rw[Hk,Yzk,Yzk];have h1:=List.length_filter_le (λy=>!eqD x y) (Hk l);have h2:=O9 l;omega
end SF
namespace SF
open PySem PySem.Spec PyProof.Rows L2
variable[TN]
theorem Aga{α β:Type}{f:α→β}{l1 l2:List β}(h:l1.Perm l2):∀L:List α,l1=L.map f→∃L':List α,L'.Perm L∧l2=L'.map f:=by
 induction h with
 | nil=>
  intro L e
  cases L with
  | nil=>exact⟨[],.nil,rfl⟩
  | cons _ _=>cases e
 | cons x _ ih=>
  intro L e
  cases L with
  | nil=>cases e
  | cons y L=>
   rw[Yzs]at e;injection e with e1 e2;obtain⟨L',p,e3⟩:=ih L e2;exact⟨y::L',.cons y p,by rw[Yzs,e1,e3]⟩
 | swap x y l=>
  intro L e
  match L,e with
  | a::b::L,e=>
   rw[Yzs,Yzs]at e;injection e with e1 e2;injection e2 with e2 e3;exact⟨b::a::L,.swap a b L,by rw[Yzs,Yzs,e1,e2,e3]⟩
  | [],e=>cases e
  | [_],e=>cases e
 | trans _ _ ih1 ih2=>
  intro L e;obtain⟨L1,p1,e1⟩:=ih1 L e;obtain⟨L2,p2,e2⟩:=ih2 L1 e1;exact⟨L2,p2.trans p1,e2⟩
mutual
theorem Aao{h:Heap}:∀(d:Dat) (v:Value) (as:List Addr),txk d=true→Reads h v (Ar d) as→as=[]
 | .str s,v,as,_,r=>by rw[Ar]at r;cases r;rfl
 | .tup l,v,as,t,r=>by
  rw[txk]at t;rw[Ar]at r
  cases r with
  | tuple _ _ _ r=>exact reads_txs l _ as t r
 | .non,_,_,h,_=>by simp[txk]at h
 | .bl _,_,_,h,_=>by simp[txk]at h
 | .int _,_,_,h,_=>by simp[txk]at h
 | .lst _,_,_,h,_=>by simp[txk]at h
 | .dic _,_,_,h,_=>by simp[txk]at h
 | .obj _ _,_,_,h,_=>by simp[txk]at h
 | .pot,_,_,h,_=>by simp[txk]at h
 | .scr _,_,_,h,_=>by simp[txk]at h
 | .kd _,_,_,h,_=>by simp[txk]at h
theorem reads_txs{h:Heap}:∀(l:List Dat) (vs:List Value) (as:List Addr),txks l=true→ReadsAll h vs (toPys l) as→as=[]
 | [],vs,as,_,r=>by rw[toPys]at r;cases r;rfl
 | d::l,vs,as,t,r=>by
  rw[txks,Yzh]at t;rw[toPys]at r
  cases r with
  | cons a b=>rw[Aao d _ _ t.1 a,reads_txs l _ _ t.2 b];rfl
end
mutual
theorem Amy:∀(n:Nat) (d:Dat),okk n d=true→∀m,n≤m→okd m d
 | _,.non,_,m,_=>by cases m<;>trivial
 | _,.bl _,_,m,_=>by cases m<;>trivial
 | _,.int _,_,m,_=>by cases m<;>trivial
 | _,.str _,_,m,_=>by cases m<;>trivial
 | n+1,.tup l,h,m,hm=>by
  rw[okk]at h
  cases m with
  | zero=>omega
  | succ m=>exact okks_okd n l h m (by omega)
 | 0,.tup l,h,_,_=>by simp[okk]at h
 | n,.lst _,h,_,_=>by cases n<;>simp[okk]at h
 | n,.dic _,h,_,_=>by cases n<;>simp[okk]at h
 | n,.obj _ _,h,_,_=>by cases n<;>simp[okk]at h
 | n,.pot,h,_,_=>by cases n<;>simp[okk]at h
 | n,.scr _,h,_,_=>by cases n<;>simp[okk]at h
 | n,.kd _,h,_,_=>by cases n<;>simp[okk]at h
theorem okks_okd:∀(n:Nat) (l:List Dat),okks n l=true→∀m,n≤m→∀x∈l,okd m x
 | _,[],_,_,_,x,hx=>nomatch hx
 | n,d::l,h,m,hm,x,hx=>by
  rw[okks,Yzh]at h
  rcases Ad.mp hx with e|hx
  ·rw[e];exact Amy n d h.1 m hm
  ·exact okks_okd n l h.2 m hm x hx
end
theorem Aec{d:Dat}(h:okK d=true):okd 60 d:=by
 cases d with
 | tup l=>exact okks_okd 7 l h 59 (by omega)
 | _=>simp[okK]at h
section
variable{P:Program}{w:World}{A:Around}{E:Value→Shared→Prop}{s:Shared}{a:Addr}{L:KL}
theorem Acr{p:Addr}{items:Array Value}{xs:KL}(hh:A.handled=none)(hu:A.units+30 < cLine)(hl:s.heap.IsList p items)(hx:items.toList=xs.map λq=>Value.ref q.1)(hk:∀q∈xs,NIs P w s.heap q.2 q.1)(few:xs.length≤76){Q:Value→Shared→Prop}
  (h:∀s' L,NSet0 w s'.heap s.heap.objs.size L→HeldN L xs→(∀b o,s.heap.get? b=some o→s'.heap.get? b=some o)→s'.gens=s.gens→s'.os=s.os→Q (.ref s.heap.objs.size) s'):wpAny (model P w) A (call (.type "set") [.ref p]) Q E s:=by
 have T:=NSet0.new w s.heap;have lp:p < s.heap.objs.size:=by obtain⟨_,q,_⟩:=hl;exact Heap.lt_size q
 have zs:items.size=xs.length:=by rw[← Array.length_toList,hx,Yzi]
 have old:∀b o,s.heap.get? b=some o→∀z,(s.heap.push z).get? b=some o:=λb o e z=>Heap.get?_push_of_some _ e
 have hl1:∀z,(s.heap.push z).IsList p items:=λz=>hl.push _
 refine Xc (T := "list") (Post:=λs'=>(∃L,NSet0 w s'.heap s.heap.objs.size L∧HeldN L xs)∧(∀b o,s.heap.get? b=some o→s'.heap.get? b=some o)∧s'.gens=s.gens∧s'.os=s.os) (λo=>⟨hl.typeIs,(hl.push o).typeIs⟩) F.sub_list_set F.sub_list_frozenset (by decide) (by decide) (by decide) (λA' E' Q' q=>wpAny_pyIter_list (hl1 _) q) (λR post=>?_) λs' ⟨⟨L,T3,hd⟩,k,g,o⟩=>h s' L T3 hd k g o
 have z1:(s.heap.push { cls:=.type "set", dict:=none,data:=.set #[] 0 (.fresh 0 0 (!w.params.followText "set-order")) }).objs.size=s.heap.objs.size+1:=Heap.size_push ..;have hl2:(s.heap.push { cls:=.type "set", dict:=none,data:=.set #[] 0 (.fresh 0 0 (!w.params.followText "set-order")) }).IsList p items:=hl1 _;have old2:∀b o,s.heap.get? b=some o→(s.heap.push { cls:=.type "set", dict:=none,data:=.set #[] 0 (.fresh 0 0 (!w.params.followText "set-order")) }).get? b=some o:=λb o e=>old b o e _
 generalize s.heap.push { cls:=.type "set", dict:=none,data:=.set #[] 0 (.fresh 0 0 (!w.params.followText "set-order")) }=h1 at *;have apart:s.heap.objs.size∉[h1.objs.size,p]:=by
  simp only[Ad,Yzm,or_false,not_or];exact⟨by rw[z1];exact Cp (Nat.lt_succ_self _),Jb lp⟩
 have walk:=Walks.list (prog:=P) (w:=w) (A:=A.in1.in1.in1) hh h1.objs.size p (by rw[z1];exact Cp (En lp)) items;rw[zs]at walk;refine Aqy walk apart (λi v hv=>?_) few (by show A.units+1+1+20 < cLine;omega) (h0:=s.heap) hk (Heap.get?_none_of_le (Aa _)) (λb hb=>?_) xs 0 { s with heap:=h1.push { cls:=.type "list_iterator", data:=.fields #[.ref p,.int 0 0] } } [] rfl (Am _) ⟨⟨_,Heap.get?_push_size _ rfl,rfl,rfl⟩,hl2.push _⟩ (λb o e=>Heap.get?_push_of_some _ (old2 b o e)) (T.keep λo e=>Heap.get?_push_of_some _ e) HeldN.nil λs' L' T' hd' k' g' o'=>post s' ⟨⟨L',T',hd'⟩,k',g',o'⟩
 ·have hi:i < xs.length:=by rw[← zs];exact(Array.getElem?_eq_some_iff.mp hv).1
  have e:items.toList[i]? = some v:=by rw[Array.getElem?_toList];exact hv
  rw[hx,Af,Ab hi]at e;exact⟨_,Ab hi,(Aj.inj e).symm⟩
 ·rw[Aq.mp hb]
  exact Heap.get?_none_of_le (by rw[z1];exact Mv _)
theorem Aa1(T:NSet0 w s.heap a L)(hh:A.handled=none)(hu:A.units+200 < cLine)(rd:∀p∈L,∃as,Reads s.heap (.ref p.1) (Ar (dkN p.2)) as)(tx:∀p∈L,txk (dkN p.2)=true)(al:alikeAll (L.map λp=>dkN p.2))(ok:∀p∈L,okd 60 (dkN p.2)∧Gj (dkN p.2)=true)(few:L.length≤100){Q:Value→Shared→Prop}
  (h:∀s' q out n,(∀b o,s.heap.get? b=some o→s'.heap.get? b=some o)→s'.gens=s.gens→s'.os=s.os→s.heap.objs.size≤q→s'.heap.get? q=some (seqObj "list" (List.toArray out) n) →
   PySem.W.EachIs (λv d=>∃p∈L,v=Value.ref p.1∧d=dkN p.2) out (Df (L.map λp=>dkN p.2))→Q (.ref q) s'):wpAny (model P w) A (call (.builtin "sorted") [.ref a]) Q E s:=by
 obtain⟨es,ep,t,⟨o,ho,hex,hd⟩,ents,tab,once,led,room⟩:=T;have sz:es.size=L.length:=by rw[← Array.length_toList,ents,Yzi]
 have fit:t.fits es.size=true:=by
  have h1:=tab.sz;rw[Yzi]at h1;unfold SetTable.fits SetTable.fill;rw[tab.dm];simp only[Yzh,beq_iff_eq,decide_eq_true_eq];exact⟨by omega,by show t.place.size+0≤t.mask;omega⟩
 refine Calls.call_function_entry kind_sorted plain_sorted entry_sorted (args_sorted1 _) ?_;have col:=λQ'=>collect_set (P:=P) (A:=A.in1) (E:=E) (Q:=Q') hh ⟨o,ho,hex.1,hd⟩ fit (by rw[sz];unfold scanBound;omega) tab.ris led
 unfold Builtin.«sorted»; dsimp only[List.headD]
 wp_walk using col
 intro s1 vs k1 z1 g1 o1 pm;obtain⟨L',pL,e1⟩:=Aga (f:=λp:Addr×NestedKey=>Value.ref p.1) pm.symm L (by rw[ents,Dk];rfl);subst e1;have ml:∀p∈L',p∈L:=λp hp=>pL.mem_iff.mp hp
 have lz:(L'.map λp:Addr×NestedKey=>Value.ref p.1).length≤sizeLine:=by rw[Yzi,pL.length_eq,sizeLine_eq];omega
 refine wpAny_bind (wpAny_newList ?_ (by first|exact lz|(rw[Ao];exact lz)));have made:(s1.heap.push { cls:=.type "list", data:=.seq (L'.map λp:Addr×NestedKey=>Value.ref p.1).toArray }).get? s1.heap.objs.size=some (seqObj "list" (L'.map λp:Addr×NestedKey=>Value.ref p.1).toArray 0):=Heap.get?_push_size _ rfl;have each:∀l:KL,(∀p∈l,p∈L)→PySem.W.EachIs (λv d=>∃p∈L,v=Value.ref p.1∧d=dkN p.2) (l.map λp=>Value.ref p.1) (l.map λp=>dkN p.2):=λl=>by
  induction l with
  | nil=>intro _;exact .nil
  | cons p l ih=>intro hm;exact .cons ⟨p,hm p (by simp),rfl,rfl⟩ (ih λq hq=>hm q (by simp[hq]))
 have eR:=each L' ml;have er:PySem.W.EachIs (λv b=>∃as,Reads (s1.heap.push { cls:=.type "list", data:=.seq (L'.map λp:Addr×NestedKey=>Value.ref p.1).toArray }) v (Ar b) as∧s1.heap.objs.size∉as) (L'.map λp=>Value.ref p.1) (L'.map λp=>dkN p.2):=eR.mono λv d ⟨p,hp,e1,e2⟩=>by
  subst e1 e2;obtain⟨as,r⟩:=rd p hp;have e:=Aao _ _ _ (tx p hp) r;subst e;exact⟨[],PyProof.Rows.Reads.keeps (λb o e=>Heap.get?_push_of_some _ (k1 b o e)) r,by simp⟩
 have perm2:(L'.map λp=>dkN p.2).Perm (L.map λp=>dkN p.2):=pL.map _;have al2:alikeAll (L'.map λp=>dkN p.2):=λx hx y hy=>al x (perm2.mem_iff.mp hx) y (perm2.mem_iff.mp hy)
 have ok2:∀z∈L'.map (λp=>dkN p.2),okd 60 z∧Gj z=true:=λz hz=>by
  obtain⟨p,hp,rfl⟩:=Ac.mp hz;exact ok p (ml p hp)
 refine wpAny_bind (wpAny_holding (PySem.W.list_sort_data made eR er (Ku al2) (Kr al2 λz hz=>(ok2 z hz).2) (by rw[Yzi];rw[Yzi]at lz;exact lz) (λb hb=>?_) λout ho2 eo=>?_))
 ·have:=(Dg 60 _ (ok2 b hb).1).2
  show A.units+1+1+_ < cLine
  omega
 rw[Qz al2 λz hz=>(ok2 z hz).1,Aae perm2 (λd hd=>by obtain⟨p,hp,rfl⟩:=Ac.mp hd;exact tx p (ml p hp)) al2]at eo;obtain⟨c,hc⟩:=PyProof.Rows.sortedHeap_at (vs:=L'.map λp:Addr×NestedKey=>Value.ref p.1) (out:=out.toArray) made;refine wpAny_pure ⟨_,rfl,h _ s1.heap.objs.size out c (λb o e=>?_) g1 o1 z1 hc eo⟩;have q:=k1 b o e;have lt:=Heap.lt_size q;exact(PyProof.Rows.sortedHeap_old (Cp lt) (by rw[Heap.size_push];exact En lt)).trans (Heap.get?_push_of_some _ q)
end
end SF
namespace SF
open PySem PySem.Spec PyProof.Rows L2
variable[TN]
def nsO(w:World)(a:Addr)(L:KL):HO:=.ext λh=>NSet0 w h a L
theorem Ac3{P:Program}{w:World}{H:Hp}{h:Heap}{a:Addr}{L:KL}(T:NSet0 w h a L):ObjOk P w H h a (nsO w a L):=by
 refine⟨T,?_,λh1 h2 T' k=>NSet0.keep T' λo e=>k o e⟩;obtain⟨_,_,_,⟨o,ho,_⟩,_⟩:=T;exact⟨o,ho⟩
theorem Aed{w:World}{h:Heap}{a b:Addr}{L:KL}(T:NSet0 w h a L)(z:Nat):nsO w a L≠Gm b z:=λe=>by
 obtain⟨es,ep,t,⟨o,ho,hex,hd⟩,rest⟩:=T;have live:o.isFreed=false:=by
  obtain⟨c,d,dt,sl⟩:=o;have hd:dt = .set es ep t:=hd;subst hd;rfl
 obtain⟨h,hz,hh⟩:=Uz o live a;have here:(h.push o).get? a=some o:=by
  rw[← hz];exact Heap.get?_push_size _ live
 have T:NSet0 w (h.push o) a L:=⟨es,ep,t,⟨o,here,hex,hd⟩,rest⟩;have T:=(congrFun (HO.ext.inj e) (h.push o)).mp T;obtain⟨_,_,_,_,_,_,_,q,_⟩:=T;have same:∀u,(h.push o).get? b=some u→u=o:=λu q=>by
  by_cases hb:b=h.objs.size
  ·subst hb
   rw[Heap.get?_push_size _ live]at q;exact(Aj.inj q).symm
  ·rw[Heap.get?_push_ne _ _ _ hb]at q
   exact hh b _ q
 have e3:=hex.1;rw[← same _ q]at e3;exact absurd (show Value.type "list" = Value.type "set" from e3) (by decide)
theorem Y7{w:World}{h:Heap}{a:Addr}{L:KL}(T:NSet0 w h a L)(z:Nat):nsO w a L≠Gm a z:=Aed T z
section
variable{X:Cx}
def TabN(X:Cx)(H:Hp)(L:KL)(l:List Dat):Prop:=(∀p∈L,Rep X.kw H (.ref p.1) (dkN p.2))∧∀k,k∈L.map (·.2) ↔ k∈l.map nkD
theorem TabN.ext{H H':Hp}{L:KL}{l:List Dat}(e:Ext H H')(h:TabN X H L l):TabN X H' L l:=⟨λp hp=>Rep.ext e _ _ (h.1 p hp),h.2⟩
theorem TabN.mem{H:Hp}{L:KL}{l:List Dat}(h:TabN X H L l)(ok:Agy l){p:Addr×NestedKey}(hp:p∈L):∃d∈l,p.2=nkD d∧dkN p.2=d:=by
 obtain⟨d,hd,e⟩:=Ac.mp ((h.2 p.2).mp (Ac.mpr ⟨p,hp,rfl⟩));exact⟨d,hd,e.symm,by rw[← e,Abi d (ok d hd).2.1]⟩
theorem TabN.keys{pins:List (Addr×Obj)}{σ:L2.St}{H:Hp}{s:Shared}{L:KL}{l:List Dat}(I:L2.Inv X pins σ H s)(h:TabN X H L l)(ok:Agy l):∀p∈L,NIs X.prog X.w s.heap p.2 p.1:=λp hp=>by
 obtain⟨d,hd,e1,e2⟩:=h.mem ok hp;have r:=h.1 p hp;rw[e2]at r;obtain⟨b,e3,_,q⟩:=Rep.key I (ok d hd).1 r (u:=.ref p.1) rfl;injection e3 with e3;subst e3;rw[e1];exact q
theorem Xg{pins:List (Addr×Obj)}{σ:L2.St}{H:Hp}{s:Shared}(I:L2.Inv X pins σ H s):∀{vs:List V} {l:List Dat} {us:List Value},Reps X.kw H vs l→L2.Vals vs us→Agy l→∃ks:KL,vs=ks.map (λp=>V.ref p.1)∧us=ks.map (λp=>Value.ref p.1)∧ks.map (·.2)=l.map nkD∧∀p∈ks,NIs X.prog X.w s.heap p.2 p.1∧Rep X.kw H (.ref p.1) (dkN p.2)
 | [],[],_,_,.nil,_=>⟨[],rfl,rfl,rfl,λp hp=>nomatch hp⟩
 | [],_::_,_,h,_,_=>by simp[Reps]at h
 | _::_,[],_,h,_,_=>by simp[Reps]at h
 | v::vs,d::l,u::us,h,.cons r1 r2,ok=>by
  rw[Reps]at h;obtain⟨ks,e1,e2,e3,e4⟩:=Xg I h.2 r2 λd hd=>ok d (by simp[hd])
  obtain⟨o1,o2,_⟩:=ok d (by simp);obtain⟨b,rfl,rfl,q⟩:=Rep.key I o1 h.1 r1;refine⟨(b,nkD d)::ks,by rw[e1];rfl,by rw[e2];rfl,by rw[Yzs,e3];rfl,λp hp=>?_⟩
  rcases Ad.mp hp with e|hp
  ·subst e
   exact⟨q,by rw[Abi d o2];exact h.1⟩
  ·exact e4 p hp
theorem Aj3{H:Hp}{L ks:KL}{l:List Dat}(h:HeldN L ks)(e:ks.map (·.2)=l.map nkD)(r:∀p∈ks,Rep X.kw H (.ref p.1) (dkN p.2)):TabN X H L l:=
 ⟨λp hp=>r p (h.1 p hp),λk=>by
  rw[← e];constructor
  ·intro hk
   obtain⟨p,hp,rfl⟩:=Ac.mp hk;exact Ac.mpr ⟨p,h.1 p hp,rfl⟩
  ·intro hk
   obtain⟨p,hp,rfl⟩:=Ac.mp hk;exact h.2 p hp⟩
def Aof(X:Cx):List V→Hp→VK→Prop:=λxs H Q=>∃v l,xs=[v]∧BRep X.kw H v (.lst l)∧l.length≤76∧Wx l∧∀D L,H D=none→(∀z,nsO X.w D L≠Gm D z)→TabN X H L l→Q (.ref D) (L2.upd H D (nsO X.w D L))
theorem Anr(hc:X.calm=true)(hu:X.A.units+60 < cLine):CallR X (.type "set") (Aof X):=by
 rintro pins s σ H xs us Q I r ⟨v,l,rfl,hv,hl,ok,q⟩;obtain⟨a,vs,rfl,h1,h2,h3⟩:=hv.lstAt;obtain⟨its,rv,il,_⟩:=I.list (.inl h1);rw[Vals.ref1 r];obtain⟨ks,e1,e2,e3,hk⟩:=Xg I h2 rv ok.1;have len:ks.length=l.length:=by rw[← Pg (f:=λp:Addr×NestedKey=>p.2),e3,Yzi]
 refine Acr (xs:=ks) (I.ok.hd hc) (by omega) il.isList (by rw[Ho];exact e2) (λq hq=>(hk q hq).1) (by omega) λs' L T hd k g o=>?_
 have J:=I.laid (h':=s'.heap) (t':=s'.toks) (o:=nsO X.w s.heap.objs.size L) k (Aa _) (Ac3 T);exact⟨.ref s.heap.objs.size,_,Q8 J g o,rfl,q _ L (I.hok.fresh (Aa _)) (Y7 T) (Aj3 hd e3 λp hp=>(hk p hp).2)⟩
def Ail(X:Cx):List V→Hp→VK→Prop:=λxs H Q=>∃D L l,xs=[.ref D]∧H D=some (nsO X.w D L)∧TabN X H L l∧Wx l∧l.length≤76∧∀p vs,H p=none→Reps X.kw H vs (Df (Hk l))→Q (.ref p) (L2.upd H p (.lst vs))
theorem Yc{K:KW}{H:Hp}{L:KL}(hr:∀p∈L,Rep K H (.ref p.1) (dkN p.2)):∀{out:List Value} {ds:List Dat},PySem.W.EachIs (λv d=>∃p∈L,v=Value.ref p.1∧d=dkN p.2) out ds→∃vs,L2.Vals vs out∧Reps K H vs ds
 | [],[],.nil=>⟨[],.nil,by rw[Reps];trivial⟩
 | _::_,_::_,.cons ⟨p,hp,e1,e2⟩ b=>by
  obtain⟨vs,h1,h2⟩:=Yc hr b;subst e1 e2;exact⟨.ref p.1::vs,.cons rfl h1,by rw[Reps];exact⟨hr p hp,h2⟩⟩
theorem TabN.sorts{H:Hp}{L:KL}{l:List Dat}(h:TabN X H L l)(nd:(L.map (·.2)).Nodup)(ok:Wx l):Df (L.map λp=>dkN p.2)=Df (Hk l)∧alikeAll (L.map λp=>dkN p.2):=by
 have tx:∀d∈l,txk d=true:=λd hd=>(ok.1 d hd).2.1
 have sub:∀d∈L.map (λp=>dkN p.2),d∈l:=λd hd=>by
  obtain⟨p,hp,rfl⟩:=Ac.mp hd;obtain⟨d,hd,_,e⟩:=h.mem ok.1 hp;rw[e];exact hd
 have al:alikeAll (L.map λp=>dkN p.2):=λx hx y hy=>ok.2 x (sub x hx) y (sub y hy)
 refine⟨Aae ?_ (λd hd=>tx d (sub d hd)) al,al⟩;refine(List.perm_ext_iff_of_nodup ?_ (Uh l tx)).mpr λd=>?_
 ·have e:L.map (λp=>dkN p.2)=(L.map (·.2)).map dkN:=by rw[Dk];rfl
  rw[e,List.Nodup,Uo];refine List.Pairwise.imp_of_mem (λ{a b} ha hb ne e2=>ne ?_) nd;obtain⟨p,hp,rfl⟩:=Ac.mp ha;obtain⟨q,hq,rfl⟩:=Ac.mp hb;obtain⟨d1,_,a1,a2⟩:=h.mem ok.1 hp;obtain⟨d2,_,b1,b2⟩:=h.mem ok.1 hq;rw[a1,b1,← a2,← b2,e2]
 ·rw[Su l tx]
  constructor
  ·exact sub d
  ·intro hd
   obtain⟨p,hp,e⟩:=Ac.mp ((h.2 (nkD d)).mpr (Ac.mpr ⟨d,hd,rfl⟩));exact Ac.mpr ⟨p,hp,by rw[e,Abi d (tx d hd)]⟩
theorem Akb(hc:X.calm=true)(hu:X.A.units+200 < cLine):CallR X (.builtin "sorted") (Ail X):=by
 rintro pins s σ H xs us Q I r ⟨D,L,l,rfl,hD,tab,ok,hl,q⟩;rw[Vals.ref1 r];have T:NSet0 X.w s.heap D L:=(I.hok D _ hD).1;obtain⟨es,al⟩:=tab.sorts T.once ok;have len:L.length≤l.length:=by
  have:=T.once.length_le_of_subset (l₂:=l.map nkD) λk hk=>(tab.2 k).mp hk
  simpa using this
 refine Aa1 T (I.ok.hd hc) hu (λp hp=>?_) (λp hp=>?_) al (λp hp=>?_) (by omega) λs' p out n k g o hp hg eo=>?_
 ·obtain⟨d,hd,_,e⟩:=tab.mem ok.1 hp
  exact Rep.reads I _ 60 _ _ (by rw[e];exact Aec (ok.1 d hd).1) (tab.1 p hp) rfl
 ·obtain⟨d,hd,_,e⟩:=tab.mem ok.1 hp
  rw[e];exact(ok.1 d hd).2.1
 ·obtain⟨d,hd,_,e⟩:=tab.mem ok.1 hp
  rw[e];exact⟨Aec (ok.1 d hd).1,(ok.1 d hd).2.2⟩
 ·rw[es]at eo
  obtain⟨vs,rv,rr⟩:=Yc tab.1 eo;have sl:(Df (Hk l)).length≤l.length:=by
   unfold Df;rw[Cv];exact O9 l
  have J:=I.laid (h':=s'.heap) (t':=s'.toks) (o:=.lst vs) k hp ⟨by rw[rr.length,sizeLine_eq];omega,out,n,rv,hg⟩;exact⟨.ref p,_,Q8 J g o,rfl,q p vs (I.hok.fresh hp) rr⟩
def RN(X:Cx):Km:=λH H' v d=>∃D l L,v = .ref D∧d = .lst l∧H D=none∧H' D=some (nsO X.w D L)∧TabN X H' L l∧Wx l∧l.length≤76
variable{e:Expr}{n:Nat}{fa:Env→(Dat→Prop)→Prop}{p pos:Pos}
def Aod(x:Dat)(Q:Dat→Prop):Prop:=∃l,x = .lst l∧l.length≤76∧Wx l∧Q x
def Aoa(x:Dat)(Q:Dat→Prop):Prop:=∃l,x = .lst l∧Q (.lst (Df (Hk l)))
theorem Al7(hc:X.calm=true)(hu:X.A.units+60 < cLine)(hg:Gl X "set")(hm:X.mg "set" = none)(ha:QE X e n (RB X.kw) fa)(hs:starEach [e] X.env=[(false,eval e X.env)]):QE X (.Call (.Name "set" p) [e] [] pos) n (RN X) (λδ Q=>fa δ λx=>Aod x Q):=by
 refine Oz (r:=Aof X) (W:=Amw Aod) (RL:=RLb X.kw) (λE=>Anr (X:=X.wish E) hc hu) (.inr ⟨_,rfl⟩) hg hm (by rfl) (λpins σ E' H H1 vs ds Φ st rl q=>?_) (Rv (R:=RB X.kw) (λ_ _ v d h=>?_) ha hs) (by decide) (by decide) (by rw[hs];rfl) rfl
 ·match ds,rl,q with
  | [d],rl,⟨l,e1,hl,ok,q⟩=>
   subst e1;obtain⟨v,rfl,hv⟩:=rl.one;refine⟨λw H'=>∃D L,w = .ref D∧H1 D=none∧H'=L2.upd H1 D (nsO X.w D L)∧(∀z,nsO X.w D L≠Gm D z)∧TabN X H1 L l,⟨v,l,rfl,hv,hl,ok,λD L hD no tab=>⟨D,L,rfl,hD,rfl,no,tab⟩⟩,λw s' t ⟨v',H',I',rv,D,L,e2,hD,e3,no,tab⟩=>?_⟩;subst e2 e3;have hn:=st.ext.none hD;have st2:Step 0 H1 (L2.upd H1 D (nsO X.w D L)):=Step.upd hD no;exact⟨t,.ref D,_,_,I'.unwish,rv,st.put hn (.none hD) no,⟨D,l,L,rfl,rfl,hn,upd_same,tab.ext st2.ext,ok,hl⟩,q⟩
 ·show BReps _ _ _ _
  rw[BReps,BReps];exact⟨h,trivial⟩
theorem Aar(hu:X.A.units+300 < cLine)(hc:X.calm=true)(hg:Gl X "sorted")(hm:X.mg "sorted" = none)(ha:QE X e n (RN X) fa)(hs:starEach [e] X.env=[(false,eval e X.env)]):QE X (.Call (.Name "sorted" p) [e] [] pos) n (ROw X.kw) (λδ Q=>fa δ λx=>Aoa x Q):=by
 refine Oz (r:=Ail X) (W:=Amw Aoa) (RL:=λH vs ds=>∃(v:V) (D:Addr) (l:List Dat) (L:KL),vs=[v]∧v = .ref D∧ds=[.lst l]∧H D=some (nsO X.w D L)∧TabN X H L l∧Wx l∧l.length≤76) (λE=>Akb (X:=X.wish E) hc (by show X.A.units+200 < cLine;omega)) (.inl ⟨_,rfl⟩) hg hm (by rfl) (λpins σ E' H H1 vs ds Φ st rl q=>?_)
  (Rv (R:=RN X) (λ_ _ v d ⟨D,l,L,e1,e2,_,h,tab,ok,hl⟩=>⟨v,D,l,L,rfl,e1,by rw[e2],h,tab,ok,hl⟩) ha hs) (by decide) (by decide) (by rw[hs];rfl) rfl
 obtain⟨v,D,l,L,rfl,rfl,rfl,h,tab,ok,hl⟩:=rl;obtain⟨l',e,q⟩:=q;injection e with e;subst e;have sl:(Df (Hk l)).length≤l.length:=by
  unfold Df;rw[Cv];exact O9 l
 refine⟨λw H'=>∃p vs,w = .ref p∧H1 p=none∧Reps X.kw H1 vs (Df (Hk l))∧H'=L2.upd H1 p (.lst vs),⟨D,L,l,rfl,h,tab,ok,hl,λp vs hp rr=>⟨p,vs,rfl,hp,rr,rfl⟩⟩,λw s' t ⟨v',H',I',rv,p,vs,e2,hp,rr,e3⟩=>?_⟩;subst e2 e3;have hn:=st.ext.none hp;have st2:Step 0 H1 (L2.upd H1 p (.lst vs)):=Step.upd hp λz e=>nomatch e
 exact⟨t,.ref p,_,.lst (Df (Hk l)),I'.unwish,rv,st.wrote hn (.none hp),.inl ⟨p,rfl,hn,vs,upd_same,by rw[sizeLine_eq];omega,Reps.ext st2.ext _ _ rr⟩,q⟩
end
end SF
namespace SF
open PySem PySem.Spec PyProof.Rows L2
variable[TN]
section
variable{X:Cx}
theorem Afz{pins:List (Addr×Obj)}{s:Shared}{σ:L2.St}{H:Hp}{elt tg iter:Expr}{ifs:List Expr}{scope:Scope}{own:List (Str×Nat)}{pos pos':Pos}{use:Option (Value→Sem Unit)}{Qf:Value→Shared→Prop}{E:Value→Shared→Prop}
  {Go:It→Hp→Prop} (hN:X.N.Nodup) (I:L2.Inv X pins σ H s) (ok:BlkOk X.N X.env.scope scope own) (hs:∀x,foldedSetIterable iter X.env x=pure x)
  (first:wpAny (model X.prog X.w) X.A (eval iter X.env) (λv s1=>wpAny (model X.prog X.w) X.A (pyIter v) (λitv s2=>∃it fp tn J H2,itv = .ref it∧0 < s2.toks∧L2.Inv X pins σ H2 s2∧Turn X.prog X.w X.kw tg J fp it tn∧tn 0 s2.heap∧(∀b∈fp,FpOk X pins H2 b)∧Go J H2) E s1) E s)
  (loop:∀it fp tn J H2 D s3 s4 ce,Go J H2→Turn X.prog X.w X.kw tg J fp it tn→H2 D=none→(∀z,nsO X.w D []≠Gm D z)→Cmp X pins σ (own.map (·.2)) scope fp (L2.upd H2 D (nsO X.w D [])) s3 s4 ce→tn 0 s4.heap→0 < s4.toks →
   codeAny (model X.prog X.w) X.A (.compLoop (.SetComp elt [⟨tg,iter,ifs,0⟩] scope pos) 0 (.ref it) (.ref D) ce) (compPost (model X.prog X.w) X.A E use Qf (.ref D) ce.locals) s4) :
  wpAny (model X.prog X.w) X.A (comprehension (.SetComp elt [⟨tg,iter,ifs,0⟩] scope pos) scope X.env pos' (newSet (.type "set")) false (eval iter X.env) use) Qf E s:=by
 have clo:closureFor scope X.env=pure (cloFrom X.env.cells scope.names []):=by
  refine closure_ok ?_;intro y hy e;exact I.ok.has _ (ok.free y hy e)
 refine wpAny_comprehension_free rfl hs clo ok.kind ?_ (thn first ?_)
 ·intro y hy e
  rw[← e];exact ok.uniq y hy
 intro v s1 h1;refine thn h1 ?_;rintro itv s2 ⟨it,fp,tn,J,H2,rfl,ht,I2,T,st,f2,go⟩;have Dn:=I2.hok.fresh (Aa s2.heap.objs.size);refine wpAny_newSet_raw ?_;rintro led rfl;have new:=NSet0.new X.w s2.heap;have I3:=I2.laid (t':=s2.toks) (o:=nsO X.w s2.heap.objs.size []) (λb u=>Heap.get?_push_of_some _) (Aa _) (Ac3 new);have f3:∀b∈fp,FpOk X pins (L2.upd H2 s2.heap.objs.size (nsO X.w s2.heap.objs.size [])) b∧b < (s2.heap.push { cls:=.type "set", dict:=none,data:=.set #[] 0 (.fresh 0 0 (!X.w.params.followText "set-order")) }).objs.size:=by
  intro b hb;obtain⟨o,e,_⟩:=T.obj 0 _ st b hb;have lt:=Heap.lt_size e;obtain⟨k0,k⟩:=f2 b hb;refine⟨⟨?_,k⟩,?_⟩
  ·rw[upd_ne (Cp lt)]
   exact k0
  ·rw[Heap.size_push]
   exact En lt
 refine newEnv_comp ?_;have st4:tn 0 (pushCells ((s2.heap.push { cls:=.type "set", dict:=none,data:=.set #[] 0 (.fresh 0 0 (!X.w.params.followText "set-order")) }).push { cls:=.type "dict", data:=.dict #[] }) scope.names):=by
  refine T.keep 0 _ _ st ?_;intro b _ o e;exact pushCells_keeps _ _ _ _ (Heap.get?_push_of_some _ (Heap.get?_push_of_some _ e))
 have L:=loop it fp tn J H2 s2.heap.objs.size _ _ _ go T Dn (Y7 new) ⟨I3,block_start I3 ok hN f3,λb hb=>(f3 b hb).1,rfl,_,_,rfl⟩ st4 ht;exact PySem.codeAny_compStart_set L (T.self X.A 0 _ _ _ st4 L)
theorem An3{pins:List (Addr×Obj)}{σ:L2.St}{H:Hp}{s:Shared}{E:Value→Shared→Prop}{D:Addr}{L:KL}{l:List Dat}{d:Dat}{v:V}{u:Value}{Q:Value→Shared→Prop}(hu:X.A.units+60 < cLine)(I:L2.Inv X pins σ H s)(hD:H D=some (nsO X.w D L))(tab:TabN X H L l)(ok:Agy l)(hl:l.length < 76)(r:L2.RelV v u)(hv:Rep X.kw H v d)(hd:okK d=true∧txk d=true∧Gj d=true)
  (h:∀s' L',(∀z,nsO X.w D L'≠Gm D z)→TabN X (L2.upd H D (nsO X.w D L')) L' (l++[d])→L2.Inv X pins σ (L2.upd H D (nsO X.w D L')) s'→Q .none s'):wpAny (model X.prog X.w) X.A (call (.builtin "set.add") [.ref D,u]) Q E s:=by
 have T:NSet0 X.w s.heap D L:=(I.hok D _ hD).1;obtain⟨b,rfl,rfl,key⟩:=Rep.key I hd.1 hv r;have len:L.length≤l.length:=by
  have:=T.once.length_le_of_subset (l₂:=l.map nkD) λk hk=>(tab.2 k).mp hk
  simpa using this
 refine NSet0.call_add (P:=X.prog) T (tab.keys I ok) key (by omega) (by omega) λh' L' n sb T' _ c=>?_
 have J:=I.write (e:=D) (t':=s.toks+n) (by rw[hD];trivial) (.inl rfl) (λb u nb hu=>(sb.2 b nb).trans hu) (by obtain⟨_,_,_,⟨o,ho,_⟩,_⟩:=T';exact⟨o,ho⟩) (Ac3 T');refine h _ L' (Y7 T') ⟨λp hp=>?_,λk=>?_⟩ J
 ·refine Rep.wr (.inr (.inr ⟨_,rfl,λ_=>Aed T⟩)) _ hD _ _ ?_
  rcases c with⟨_,rfl⟩|⟨_,pm⟩
  ·exact tab.1 p hp
  ·rcases Ad.mp (pm.mem_iff.mp hp)with e|hp
   ·subst e;rw[Abi d hd.2.1];exact hv
   ·exact tab.1 p hp
 ·rw[Gg,Bl,← tab.2 k]
  rcases c with⟨m,rfl⟩|⟨_,pm⟩
  ·exact⟨.inl,λz=>z.elim id λz=>by rw[Aq.mp z];exact m⟩
  ·rw[(pm.map (·.2)).mem_iff,Yzs,Ad]
   exact⟨λz=>z.elim (λe=>.inr (by rw[e];exact Aq.mpr rfl)) .inl,λz=>z.elim .inr λz=>.inl (Aq.mp z)⟩
def Adc(fe:Env→(Dat→Prop)→Prop)(δ:Env)(Q:Dat→Prop):Prop:=fe δ λy=>(okK y=true∧txk y=true∧Gj y=true)∧Q y
theorem Alp{pins:List (Addr×Obj)}{s:Shared}{σ:L2.St}{H:Hp}{δ:Env}{m:Nat}{Φ:Dat→Prop}{elt tg iter:Expr}{ifs:List Expr}{scope:Scope}{own:List (Str×Nat)}{pos pos':Pos}{p:P}{z:Bool}{n n1 n2:Nat}
  {fi fe:Env→(Dat→Prop)→Prop} {ft:Env→(Bool→Prop)→Prop} {use:Option (Value→Sem Unit)} {Qf:Value→Shared→Prop} {E:Value→Shared→Prop}
  (hc:X.calm=true) (hu:X.A.units+100 < cLine) (hN:X.N.Nodup) (t0:0 < s.toks) (I:L2.Inv X pins σ H s) (er:EnvRep X.kw σ H δ) (pl:PotLe (n+sizeLine*(n1+n2)+m) H) (hi:QI X tg iter n true z fi) (ok:BlkOk X.N X.env.scope scope own) (hz:z=true→isT p=true) (hv:∀i∈Dm p,i∈own.map (·.2))
  (hg:∀(s:Shared) (H:Hp) (C:Addr) (cl:List (Str×Addr)) (fp:List Addr),K8 (X.blk s H scope (compEnvC scope cl C X.env) fp) tg p) (ht:∀(s:Shared) (H:Hp) (C:Addr) (cl:List (Str×Addr)) (fp:List Addr),QTs (X.blk s H scope (compEnvC scope cl C X.env) fp) ifs n1 ft)
  (he:∀(s:Shared) (H:Hp) (C:Addr) (cl:List (Str×Addr)) (fp:List Addr),QE (X.blk s H scope (compEnvC scope cl C X.env) fp) elt n2 (RV X.kw) fe) (hs:∀x,foldedSetIterable iter X.env x=pure x)
  (h:fi δ λx=>∃ds,Di x=some ds∧ds.length≤76∧Ff (Eo p (Bb δ (own.map (·.2))) ft (Adc fe)) ds λys=>alikeAll ys∧Φ (.lst ys)) (mfi:∀ δ,Bj (fi δ)) (mfe:∀ δ,Bj (fe δ))
  (hRR:∀D C s' m' H' l L,0 < s'.toks→L2.Inv X pins σ H' s'→Step (n+sizeLine*(n1+n2)) H H'→H D=none→H' D=some (nsO X.w D L)→TabN X H' L l→Wx l→l.length≤76→Φ (.lst l)→s'.heap.Ns C m'→FpOk X pins H' C→compPost (model X.prog X.w) X.A E use Qf (.ref D) C (.ok .next) s') :
  wpAny (model X.prog X.w) X.A (comprehension (.SetComp elt [⟨tg,iter,ifs,0⟩] scope pos) scope X.env pos' (newSet (.type "set")) false (eval iter X.env) use) Qf E s:=by
 refine Afz (Go:=λJ H2=>Step n H H2∧∃ds,Wlk X.kw true z H2 ds J∧ds.length≤76∧Ff (Eo p (Bb δ (own.map (·.2))) ft (Adc fe)) ds λys=>alikeAll ys∧Φ (.lst ys)) hN I ok hs (thn (hi E pins s σ H δ (sizeLine*(n1+n2)+m) (λx=>∃ds,Di x=some ds∧ds.length≤76∧Ff (Eo p (Bb δ (own.map (·.2))) ft (Adc fe)) ds λys=>alikeAll ys∧Φ (.lst ys)) t0 I er (pl.mono (by omega)) (mfi δ _ _ (λ_ ⟨ds,q1,q2⟩=>⟨⟨ds,q1⟩,ds,q1,q2⟩) h)) λv s1 h1=>thn h1 λitv s2 h2=>?_) ?_
 ·obtain⟨t2,it,fp,tn,J,H2,d,ds,e,I2,T,st,f,stp,wk,hl,hd,ds',hd',q⟩:=h2
  rw[hd]at hd'
  cases hd'
  exact⟨it,fp,tn,J,H2,e,t2,I2,T,st,f,stp,ds,wk,q⟩
 rintro it fp tn J H2 D s3 s4 ce ⟨stp,ds,wk,hlen,q⟩ T hDn no c st4 t4;have big1:76≤sizeLine:=by rw[sizeLine_eq];omega
 obtain⟨C,cl,rfl⟩:=c.made;have pg:=hg s3 (L2.upd H2 D (nsO X.w D [])) C cl fp;have pt:=ht s3 (L2.upd H2 D (nsO X.w D [])) C cl fp;have pe:=he s3 (L2.upd H2 D (nsO X.w D [])) C cl fp;have nfp:∀b∈fp,(L2.upd H2 D (nsO X.w D [])) b=none:=λb hb=>(c.own b hb).1
 generalize compEnvC scope cl C X.env=ce at c pg pt pe ⊢;have stH3:Step 0 H2 (L2.upd H2 D (nsO X.w D [])):=(Step.refl H2).put hDn (.none hDn) no;have eD:(L2.upd H2 D (nsO X.w D [])) D=some (nsO X.w D []):=upd_same;generalize L2.upd H2 D (nsO X.w D [])=H3 at c pg pt pe nfp stH3 eD;have I4:=c.inn;have er0:EnvRep X.kw (wipe σ (own.map (·.2))) H2 (Bb δ (own.map (·.2))):=(er.ext stp.ext).wipe _;have plB:PotLe (sizeLine*(n1+n2)) H2:=stp.pot _ (pl.mono (by omega));generalize own.map (·.2)=ov at *;refine compLoop_set_any (λk s'=>∃(i:Nat) (H':Hp) (l:List Dat) (L:KL),0 < s'.toks∧(L2.Inv (X.blk s3 H3 scope ce fp) [] (wipe σ ov) H' s'∧tn i s'.heap∧∀b∈fp,H' b=none)∧k=ds.length - i∧i≤ds.length∧Step (i*(n1+n2)) H2 H'∧H' D=some (nsO X.w D L)∧TabN X H' L l∧Agy l∧l.length≤i ∧
  Ff (Eo p (Bb δ ov) ft (Adc fe)) (ds.drop i) λr=>alikeAll (l++r)∧Φ (.lst (l++r))) ?_ ds.length ⟨0,H3,[],[],t4,⟨I4,st4,nfp⟩,rfl,Am _,by rw[Dc];exact stH3,eD,⟨λp hp=>(nomatch hp),λk=>Iff.rfl⟩,(λt ht=>by simp at ht),Am _,q⟩
 rintro k s5 ⟨i,H5,l,L,t5,⟨I5,st5,n5⟩,rfl,hik,sp5,hD5,tab5,mk5,hy5,q5⟩;by_cases hlt:i < ds.length
 ·have e0:ds.drop i=ds[i]::ds.drop (i+1):=Ds hlt
  rw[e0]at q5;have no5:∀z,nsO X.w D L≠Gm D z:=by
   have T5:NSet0 X.w s5.heap D L:=(I5.hok D _ hD5).1;exact Y7 T5
  refine thnF (tkF (X:=X) t5 (T.item (X.blk s3 H3 scope ce fp) rfl rfl rfl hc i [] s5 _ H5 (λ_ _=>False) I5 (Jo I5 n5) st5 (wk.go H5 i (EXr.of sp5.ext) hlt))) λr s6 ⟨t6,u,hr,h6⟩=>?_
  subst hr;refine thnF (tkF (X:=X) t6 h6) λ_ s7 ⟨t7,x,H7,I7,r7,y7,st7,n7⟩=>?_
  obtain⟨sp7,yr⟩:=wk.yld H5 i x H7 _ (EXr.of sp5.ext) (Ab hlt) y7;have I7':=I7.pinned (Jo I7 n7) (T.obj _ _ st7);have sp7':Step (i*(n1+n2)) H2 H7:=(sp5.trans sp7).mono (by omega);have q5:Eo p (Bb δ ov) ft (Adc fe) ds[i] _:=q5;unfold Eo at q5;refine thnF (Nr hz pg t7 I7' (er0.ext sp7'.ext) r7 yr q5) λ_ s8 ⟨t8,σ8,δ8,I8,er8,q8,k8⟩=>?_
  have hle:(i+1)*(n1+n2)≤sizeLine*(n1+n2):=Ba _ (by omega);rw[Ay]at hle;refine thnF (pt _ _ s8 σ8 H7 δ8 (n2+0) _ t8 I8 er8 (sp7'.pot _ (plB.mono (by omega))) q8) λb s9 ⟨t9,H9,I9,sp9,q9⟩=>?_
  have wst:wipe σ8 ov=wipe σ ov:=by rw[k8.2 ov hv,Lf]
  have wl:(wipe σ ov).length=σ8.length:=by rw[← wst,wipe_length]
  have ww:∀(j:Nat) v,(wipe σ ov)[j]? = some (some v)→σ8[j]? = some (some v):=λj v e=>(wipe_some (by rw[wst];exact e)).1
  cases b with
  | false=>
   have e9:=sp7.ext.trans sp9.ext;exact⟨_,Ek _ _ hlt,i+1,H9,l,L,t9,Tv T st7 I9 wl ww,rfl,hlt,(sp7'.trans sp9).mono (by rw[Ay];omega),e9.keep hD5 no5,tab5.ext e9,mk5,by omega,q9⟩
  | true=>
   refine thnF (pe _ _ s9 σ8 H9 δ8 0 _ t9 I9 (er8.ext sp9.ext) ((sp7'.trans sp9).pot _ (plB.mono (by omega))) q9) λzv s10 ⟨t10,yv,H10,dy,I10,r10,sp10,b10,q10⟩=>?_
   have e10:=(sp7.ext.trans sp9.ext).trans sp10.ext;have hD10:H10 D=some (nsO X.w D L):=e10.keep hD5 no5;obtain⟨okd10,q10⟩:=q10;have b10:Rep X.kw H10 yv dy:=b10;refine Cr (X:=X) t10 (An3 (X:=X.blk s3 H3 scope ce fp) (Q:=λ_ s11=>∃L',(∀z,nsO X.w D L'≠Gm D z)∧TabN X (L2.upd H10 D (nsO X.w D L')) L' (l++[dy])∧L2.Inv (X.blk s3 H3 scope ce fp) ([]++pinsAt fp s7.heap) σ8 (L2.upd H10 D (nsO X.w D L')) s11) (show X.A.units+60 < cLine by omega) I10 hD10 (tab5.ext e10) mk5 (by omega) r10 b10 okd10 λs11 L' no2 tab2 I11=>⟨L',no2,tab2,I11⟩) λ_ s11 t11 ⟨L',no2,tab2,I11⟩=>?_
   have q10:Ff (Eo p (Bb δ ov) ft (Adc fe)) (ds.drop (i+1)) (λr=>alikeAll (l++(dy::r))∧Φ (.lst (l++(dy::r)))):=q10;refine⟨_,Ek _ _ hlt,i+1,_,l++[dy],L',t11,Tv T st7 I11 wl ww,rfl,hlt,(((sp7'.trans sp9).trans sp10).mono (by rw[Ay];omega)).put hDn (.ext hD10) no2,upd_same,tab2,λx hx=>?_,by simp;omega,by simpa using q10⟩
   rcases Bl.mp hx with hx|hx
   ·exact mk5 x hx
   ·rw[Aq.mp hx]
    exact okd10
 ·have ei:i=ds.length:=by omega
  subst ei;refine thnF (tkF (X:=X) t5 (T.done (X.blk s3 H3 scope ce fp) rfl rfl rfl hc ds.length [] s5 _ H5 (λ_ _=>False) I5 (Jo I5 n5) st5 (wk.stop H5 (EXr.of sp5.ext)))) λr s6 ⟨t6,hr,I6⟩=>?_
  subst hr;obtain⟨I7,fC,m',hn⟩:=c.back I6;rw[Gn]at q5;have q5:alikeAll (l++[])∧Φ (.lst (l++[])):=q5;rw[Bu]at q5;have hmul:ds.length*(n1+n2)≤sizeLine*(n1+n2):=Ba _ (by omega);exact hRR D ce.locals s6 m' H5 l L t6 I7 ((stp.trans sp5).mono (by omega)) (stp.ext.none hDn) hD5 tab5 ⟨mk5,q5.1⟩ (by omega) q5.2 hn fC
theorem Af7{elt tg iter:Expr}{ifs:List Expr}{scope:Scope}{own:List (Str×Nat)}{pos:Pos}{p:P}{z:Bool}{n n1 n2:Nat}{fi fe:Env→(Dat→Prop)→Prop}{ft:Env→(Bool→Prop)→Prop}
  (hc:X.calm=true) (hu:X.A.units+100 < cLine) (hN:X.N.Nodup) (hi:QI X tg iter n true z fi) (ok:BlkOk X.N X.env.scope scope own) (hz:z=true→isT p=true) (hv:∀i∈Dm p,i∈own.map (·.2))
  (hg:∀(s:Shared) (H:Hp) (C:Addr) (cl:List (Str×Addr)) (fp:List Addr),K8 (X.blk s H scope (compEnvC scope cl C X.env) fp) tg p) (ht:∀(s:Shared) (H:Hp) (C:Addr) (cl:List (Str×Addr)) (fp:List Addr),QTs (X.blk s H scope (compEnvC scope cl C X.env) fp) ifs n1 ft)
  (he:∀(s:Shared) (H:Hp) (C:Addr) (cl:List (Str×Addr)) (fp:List Addr),QE (X.blk s H scope (compEnvC scope cl C X.env) fp) elt n2 (RV X.kw) fe) (hs:∀x,foldedSetIterable iter X.env x=pure x) (mfi:∀ δ,Bj (fi δ)) (mfe:∀ δ,Bj (fe δ)) :
  QE X (.SetComp elt [⟨tg,iter,ifs,0⟩] scope pos) (n+sizeLine*(n1+n2)) (RN X) (λδ Q=>fi δ λx=>∃ds,Di x=some ds∧ds.length≤76∧Ff (Eo p (Bb δ (own.map (·.2))) ft (Adc fe)) ds λys=>alikeAll ys∧Q (.lst ys)):=λE pins s σ H δ m Φ t0 I er pl hf=>by
 rw[arm_eval_SetComp];refine Alp hc hu hN t0 I er pl hi ok hz hv hg ht he hs hf mfi mfe λD C s' m' H' l L t' I' st hD hD' tab mem hl q hn f=>⟨m',hn,λh'' sb=>?_⟩
 obtain⟨f0,f1,f2,f3,f4,f5⟩:=f;exact⟨t',.ref D,H',.lst l,I'.turned (t':=s'.toks) (λb o hb e=>(sb.2 b hb).trans e) f0 f1 f3 f4 f5,rfl,st,⟨D,l,L,rfl,rfl,hD,hD',tab,mem,hl⟩,q⟩
end
end SF
namespace SF
open PySem PySem.Spec PyProof.Rows L2
variable[TN]
theorem SlotRep.ownAt{K:KW}{H:Hp}{x:Option (Option V)}{d:Dat}(h:SlotRep K H x (.own d)):∃a,x=some (some (.ref a))∧OwnS K H a d:=by
 match x,h with
 | some (some v),⟨a,e,o⟩=>subst e;exact⟨a,rfl,o⟩
theorem SlotRep.valAt{K:KW}{H:Hp}{x:Option (Option V)}{d:Dat}(h:SlotRep K H x (.val d)):∃v,x=some (some v)∧Rep K H v d:=by
 match x,h with
 | some (some v),h=>exact⟨v,rfl,h⟩
structure EnvS(K:KW)(σ:L2.St)(H0 H:Hp)(δ:Env):Prop where
 rep:EnvRep K σ H δ
 dis:∀(i j:Nat) (d d':Dat),i≠j→δ[i]? = some (Slot.own d)→δ[j]? = some (Slot.own d')→σ[i]? ≠ σ[j]?
 fresh:∀(i:Nat) (d:Dat) (a:Addr),δ[i]? = some (Slot.own d)→σ[i]? = some (some (.ref a))→H0 a=none
theorem EnvS.ext{K:KW}{σ:L2.St}{H0 H H':Hp}{δ:Env}(e:Ext H H')(h:EnvS K σ H0 H δ):EnvS K σ H0 H' δ:=⟨h.rep.ext e,h.dis,h.fresh⟩
theorem EnvS.kp{K:KW}{σ σ':L2.St}{H0 H:Hp}{δ δ':Env}{vs:List Nat}(h:EnvS K σ H0 H δ)(er:EnvRep K σ' H δ')(k:Kp vs σ δ σ' δ'):EnvS K σ' H0 H δ':=by
 refine⟨er,λi j d d' hij hi hj=>?_,λi d a hi ha=>?_⟩
 ·obtain⟨h1,e1⟩:=k.1 i d hi
  obtain⟨h2,e2⟩:=k.1 j d' hj;rw[e1,e2];exact h.dis i j d d' hij h1 h2
 ·obtain⟨h1,e1⟩:=k.1 i d hi
  rw[e1]at ha;exact h.fresh i d a h1 ha
theorem EnvS.ownAt{K:KW}{σ:L2.St}{H0 H:Hp}{δ:Env}{i:Nat}{l:List Dat}(h:EnvS K σ H0 H δ)(hi:δ[i]? = some (Slot.own (.lst l))):∃a vs,σ[i]? = some (some (.ref a))∧H a=some (.lst vs)∧l.length≤sizeLine∧Reps K H vs l∧H0 a=none:=by
 obtain⟨a,q,vs,h1,h2,h3⟩:=(h.rep.2 i _ hi).ownAt;exact⟨a,vs,q,h1,h2,h3,h.fresh i _ a hi q⟩
theorem EnvS.ownS{K:KW}{σ:L2.St}{H0 H:Hp}{δ:Env}(h:EnvS K σ H0 H δ)(i:Nat){a:Addr}{d:Dat}(o:OwnS K H a d)(h0:H0 a=none)(ap:∀(j:Nat) (d':Dat),δ[j]? = some (Slot.own d')→σ[j]? ≠ some (some (.ref a))):EnvS K (σ.set i (some (.ref a))) H0 H (δ.set i (.own d)):=by
 have hl:=h.rep.1;refine⟨h.rep.set i (s:=.own d) ⟨a,rfl,o⟩,λj k d1 d2 hjk hj hk=>?_,λj d1 b hj hb=>?_⟩
 ·rw [Be]at hj hk ⊢
  rw[Be];by_cases e1:i=j
  ·have e2:¬ i=k:=λe=>hjk (e1.symm.trans e)
   subst e1;by_cases lt:i < δ.length
   ·simp only[e2,if_false]at hk
    simp only[if_true,e2,if_false,show i < σ.length by omega];exact λe=>ap k d2 hk e.symm
   ·simp[lt]at hj
  ·by_cases e2:i=k
   ·subst e2
    by_cases lt:i < δ.length
    ·simp only[e1,if_false]at hj
     simp only[if_true,e1,if_false,show i < σ.length by omega];exact ap j d1 hj
    ·simp[lt]at hk
   ·simp only[e1,e2,if_false]at hj hk ⊢
    exact h.dis j k d1 d2 hjk hj hk
 ·rw[Be]at hj hb
  by_cases e1:i=j
  ·subst e1
   by_cases lt:i < δ.length
   ·simp only[if_true,show i < σ.length by omega,Aj.injEq,V.ref.injEq]at hb
    subst hb;exact h0
   ·simp[lt]at hj
  ·simp only[e1,if_false]at hj hb
   exact h.fresh j d1 b hj hb
theorem EnvS.own{K:KW}{σ:L2.St}{H0 H:Hp}{δ:Env}(h:EnvS K σ H0 H δ)(i:Nat){a:Addr}{d:Dat}(o:Own K H a d)(h0:H0 a=none)(ap:∀(j:Nat) (d':Dat),δ[j]? = some (Slot.own d')→σ[j]? ≠ some (some (.ref a))):EnvS K (σ.set i (some (.ref a))) H0 H (δ.set i (.own d)):=h.ownS i o.s h0 ap
theorem EnvS.apart{K:KW}{σ:L2.St}{H0 H:Hp}{δ:Env}(h:EnvS K σ H0 H δ){a:Addr}(ha:H a=none)(j:Nat)(d:Dat)(hj:δ[j]? = some (Slot.own d)):σ[j]? ≠ some (some (.ref a)):=λe=>by
 have sr:=h.rep.2 j _ hj;rw[e]at sr;obtain⟨b,e1,o⟩:=sr
 cases e1
 obtain⟨d,o⟩:=o.box
 cases d with
 | lst l=>obtain⟨vs,h1,_⟩:=o;rw[ha]at h1;cases h1
 | dic l=>obtain⟨vs,h1,_⟩:=o;rw[ha]at h1;cases h1
 | kd l=>obtain⟨vs,⟨_,h1⟩,_⟩:=o;rw[ha]at h1;cases h1
 | _=>exact o.elim
theorem EnvS.put{K:KW}{σ:L2.St}{H0 H:Hp}{δ:Env}{i:Nat}{a:Addr}{u o:HO}{d:Dat}{sl:Slot}(h:EnvS K σ H0 H δ)(hi:δ[i]? = some (Slot.own d))(ha:σ[i]? = some (some (.ref a)))(hu:Chg u)(hx:H a=some u)(new:SlotRep K (upd H a o) (some (some (.ref a))) sl) :
  EnvS K σ H0 (upd H a o) (δ.set i sl):=by
 have lt:i < δ.length:=by
  by_cases q:i < δ.length
  ·exact q
  ·rw[Bq (by omega)]at hi;cases hi
 have back:∀(j:Nat) (d':Dat),(δ.set i sl)[j]? = some (Slot.own d')→∃d'',δ[j]? = some (Slot.own d''):=λj d' hj=>by
  rw[Be]at hj;by_cases e:i=j
  ·subst e;exact⟨d,hi⟩
  ·simp only[e,if_false]at hj;exact⟨d',hj⟩
 refine⟨⟨by rw[Ec];exact h.rep.1,λj s hj=>?_⟩,λj k d1 d2 hjk hj hk=>?_,λj d1 b hj hb=>?_⟩
 ·rw [Be]at hj
  by_cases e:i=j
  ·subst e
   simp only[if_true,lt]at hj
   cases hj
   rw[ha];exact new
  ·simp only[e,if_false]at hj
   have sr:=h.rep.2 j _ hj
   cases s with
   | no=>trivial
   | val d'=>
    obtain⟨v,q,sr⟩:=sr.valAt;rw[q];exact Rep.wr hu _ hx _ _ sr
   | own d'=>
    have ne:=h.dis i j d d' e hi hj;obtain⟨b,q,w⟩:=sr.ownAt;rw[q];have nb:b≠a:=λe=>by subst e;exact ne (ha.trans q.symm)
    refine⟨b,rfl,w.imp λd' w=>?_⟩
    cases d' with
    | lst l=>
     obtain⟨vs,h1,h2,h3⟩:=w;exact⟨vs,by rw[upd_ne nb];exact h1,h2,Reps.wr hu _ hx _ _ h3⟩
    | dic l=>
     obtain⟨vs,h1,h2,h3⟩:=w;exact⟨vs,by rw[upd_ne nb];exact h1,h2,RepKv.wr hu _ hx _ _ h3⟩
    | kd l=>
     obtain⟨vs,⟨hm,h1⟩,h2,nd,h3⟩:=w;exact⟨vs,⟨hm,by rw[upd_ne nb];exact h1⟩,h2,nd,RepKd.wr hu _ hx _ _ h3⟩
    | _=>exact w.elim
 ·obtain⟨e1,q1⟩:=back j d1 hj
  obtain⟨e2,q2⟩:=back k d2 hk;exact h.dis j k e1 e2 hjk q1 q2
 ·obtain⟨e1,q1⟩:=back j d1 hj
  exact h.fresh j e1 b q1 hb
theorem EnvS.wr{K:KW}{σ:L2.St}{H0 H:Hp}{δ:Env}{i:Nat}{a:Addr}{xs ys:List V}{d:Dat}{r:List Dat}(h:EnvS K σ H0 H δ)(hi:δ[i]? = some (Slot.own d))(ha:σ[i]? = some (some (.ref a)))(hx:H a=some (.lst xs))(hz:r.length≤sizeLine)(hr:Reps K H ys r) :
  EnvS K σ H0 (upd H a (.lst ys)) (δ.set i (.own (.lst r))):=h.put hi ha (.inl ⟨_,rfl⟩) hx ⟨a,rfl,ys,upd_same,hz,Reps.wr (.inl ⟨_,rfl⟩) _ hx _ _ hr⟩
theorem EnvS.frz{K:KW}{σ:L2.St}{H0 H:Hp}{δ:Env}{i:Nat}{a:Addr}{xs:List V}{r:List Dat}{o:Obj}(h:EnvS K σ H0 H δ)(hi:δ[i]? = some (Slot.own (.lst r)))(ha:σ[i]? = some (some (.ref a)))(hx:H a=some (.lst xs))(hz:r.length≤sizeLine)(hr:Reps K H xs r) :
  EnvS K σ H0 (upd H a (.frz o (.lst xs))) (δ.set i (.val (.lst r))):=h.put hi ha (.inl ⟨_,rfl⟩) hx (by
 show Rep _ _ _ _
 rw[Rep];exact⟨a,xs,rfl,⟨o,upd_same⟩,hz,Reps.wr (.inl ⟨_,rfl⟩) _ hx _ _ hr⟩)
theorem EnvS.dicAt{K:KW}{σ:L2.St}{H0 H:Hp}{δ:Env}{i:Nat}{l:List (Dat×Dat)}(h:EnvS K σ H0 H δ)(hi:δ[i]? = some (Slot.own (.dic l))):∃a vs,σ[i]? = some (some (.ref a))∧H a=some (.dK vs)∧l.length≤sizeLine∧RepKv K H vs l∧H0 a=none:=by
 obtain⟨a,q,vs,h1,h2,h3⟩:=(h.rep.2 i _ hi).ownAt;exact⟨a,vs,q,h1,h2,h3,h.fresh i _ a hi q⟩
theorem EnvS.kdAt{K:KW}{σ:L2.St}{H0 H:Hp}{δ:Env}{i:Nat}{l:List (Dat×Dat)}(h:EnvS K σ H0 H δ)(hi:δ[i]? = some (Slot.own (.kd l))):∃a xs,σ[i]? = some (some (.ref a))∧(a == sysModules)=false∧H a=some (kdO K a xs)∧l.length≤sizeLine∧(xs.map (·.1)).Nodup∧RepKd K H xs l∧H0 a=none:=by
 obtain⟨a,q,xs,⟨hm,h1⟩,h2,nd,h3⟩:=(h.rep.2 i _ hi).ownAt;exact⟨a,xs,q,hm,h1,h2,nd,h3,h.fresh i _ a hi q⟩
structure StepS(n:Nat)(H0 H H':Hp):Prop where
 ext:Ext H0 H'
 exs:ExtS H H'
 pot:∀m,PotLe (n+m) H→PotLe m H'
theorem StepS.refl{H0 H:Hp}(e:Ext H0 H):StepS 0 H0 H H:=⟨e,.refl H,λm h=>by rwa [Fq]at h⟩
theorem StepS.trans{n n':Nat}{H0 H H1 H2:Hp}(a:StepS n H0 H H1)(b:StepS n' H0 H1 H2):StepS (n+n') H0 H H2:=
 ⟨b.ext,a.exs.trans b.exs,λm h=>b.pot m (a.pot (n'+m) (by rw[← Nat.add_assoc];exact h))⟩
theorem StepS.mono{n n':Nat}{H0 H H':Hp}(a:StepS n H0 H H')(le:n≤n'):StepS n' H0 H H':=⟨a.ext,a.exs,λm h=>a.pot m (h.mono (by omega))⟩
theorem StepS.of{n:Nat}{H0 H H':Hp}(e:Ext H0 H)(a:Step n H H'):StepS n H0 H H':=⟨e.trans a.ext,.of a.ext,a.pot⟩
theorem StepS.put{H0 H:Hp}{a:Addr}{u o:HO}(hu:Chg u)(e:Ext H0 H)(h:H a=some u)(h0:H0 a=none)(no:∀z,o≠Gm a z):StepS 0 H0 H (L2.upd H a o):=by
 refine⟨λb ob hb=>?_,λb ob hb=>?_,λm p=>?_⟩
 ·have nb:b≠a:=λz=>by subst z;rw[h0]at hb;cases hb
  rw[upd_ne nb];exact e b ob hb
 ·by_cases nb:b=a
  ·subst nb
   rw[h]at hb
   cases hb
   exact .inl hu
  ·rw[upd_ne nb]
   exact .inr (.inl hb)
 ·rw[Fq]at p
  refine⟨p.1,λb z hb=>?_,p.3.put (.chg h hu)⟩;by_cases nb:b=a
  ·subst nb;rw[upd_same]at hb;exact absurd (Aj.inj hb) (no z)
  ·rw[upd_ne nb]at hb;exact p.2 b z hb
theorem StepS.wr{H0 H:Hp}{a:Addr}{xs:List V}{o:HO}(e:Ext H0 H)(h:H a=some (.lst xs))(h0:H0 a=none)(no:∀z,o≠Gm a z):StepS 0 H0 H (L2.upd H a o):=.put (.inl ⟨_,rfl⟩) e h h0 no
section
variable{X:Cx}
theorem Amg{elt tg iter:Expr}{ifs:List Expr}{scope:Scope}{own:List (Str×Nat)}{pos:Pos}{p:P}{z:Bool}{n n1 n2:Nat}{fi fe:Env→(Dat→Prop)→Prop}{ft:Env→(Bool→Prop)→Prop}
  (hc:X.calm=true) (hN:X.N.Nodup) (hi:QI X tg iter n true z fi) (ok:BlkOk X.N X.env.scope scope own) (hz:z=true→isT p=true) (hv:∀i∈Dm p,i∈own.map (·.2))
  (hg:∀(s:Shared) (H:Hp) (C:Addr) (cl:List (Str×Addr)) (fp:List Addr),K8 (X.blk s H scope (compEnvC scope cl C X.env) fp) tg p) (ht:∀(s:Shared) (H:Hp) (C:Addr) (cl:List (Str×Addr)) (fp:List Addr),QTs (X.blk s H scope (compEnvC scope cl C X.env) fp) ifs n1 ft)
  (he:∀(s:Shared) (H:Hp) (C:Addr) (cl:List (Str×Addr)) (fp:List Addr),QE (X.blk s H scope (compEnvC scope cl C X.env) fp) elt n2 (RV X.kw) fe) (hs:∀x,foldedSetIterable iter X.env x=pure x) (mfi:∀ δ,Bj (fi δ)) :
  QE X (.ListComp elt [⟨tg,iter,ifs,0⟩] scope pos) (n+sizeLine*(n1+n2)) (ROw X.kw) (λδ Q=>fi δ λx=>∃ds,Di x=some ds∧Ff (Eo p (Bb δ (own.map (·.2))) ft fe) ds λys=>Q (.lst ys)):=λE pins s σ H δ m Φ t0 I er pl hf=>by
 rw[eval_ListComp];refine Aju hc hN t0 I er pl hi ok hz hv hg ht he hs hf mfi λD C s' m' H' ys t' I' st hD ow q hn f=>⟨m',hn,λh'' sb=>?_⟩
 obtain⟨f0,f1,f2,f3,f4,f5⟩:=f;exact⟨t',.ref D,H',.lst ys,I'.turned (t':=s'.toks) (λb o hb e=>(sb.2 b hb).trans e) f0 f1 f3 f4 f5,rfl,st,.inl ⟨D,rfl,hD,ow⟩,q⟩
end
end SF
namespace SF
open PySem PySem.Spec PyProof.Rows L2
variable[TN]
def SO(X:Cx)(pins:List (Addr×Obj))(n:Nat)(H0 H:Hp)(D:Post)(fl:Flow)(s':Shared):Prop:=
 0 < s'.toks∧match fl with
 | .next=>∃ σ' H' δ',L2.Inv X pins σ' H' s'∧EnvS X.kw σ' H0 H' δ'∧StepS n H0 H H'∧D.nx δ'
 | .cont=>∃ σ' H' δ',L2.Inv X pins σ' H' s'∧EnvS X.kw σ' H0 H' δ'∧StepS n H0 H H'∧D.ct δ'
 | .brk=>∃ σ' H' δ',L2.Inv X pins σ' H' s'∧EnvS X.kw σ' H0 H' δ'∧StepS n H0 H H'∧D.bk δ'
 | .ret u=>∃v σ' H' d δ',L2.Inv X pins σ' H' s'∧L2.RelV v u∧Rep X.kw H' v d∧EnvS X.kw σ' H0 H' δ'∧StepS n H0 H H'∧D.rt δ' d
def Q1(X:Cx)(st:Stmt)(n:Nat)(F:Env→Post→Prop):Prop:=
 ∀(E:Value→Shared→Prop),PassesOwn (model X.prog X.w) X.A X.env E→∀(pins:List (Addr×Obj)) (s:Shared) (σ:L2.St) (H0 H:Hp) (δ:Env) (m:Nat) (D:Post),0 < s.toks→L2.Inv X pins σ H s→EnvS X.kw σ H0 H δ→Ext H0 H→PotLe (n+m) H→F δ D →
  wpAny (model X.prog X.w) X.A (PySem.exec st X.env) (SO X pins n H0 H D) E s
def QS(X:Cx)(sts:List Stmt)(n:Nat)(F:Env→Post→Prop):Prop:=
 ∀(E:Value→Shared→Prop),PassesOwn (model X.prog X.w) X.A X.env E→∀(pins:List (Addr×Obj)) (s:Shared) (σ:L2.St) (H0 H:Hp) (δ:Env) (m:Nat) (D:Post),0 < s.toks→L2.Inv X pins σ H s→EnvS X.kw σ H0 H δ→Ext H0 H→PotLe (n+m) H→F δ D →
  wpAny (model X.prog X.w) X.A (PySem.execs sts X.env) (SO X pins n H0 H D) E s
section
variable{X:Cx}{st:Stmt}{sts:List Stmt}{n n' n'':Nat}{e:Expr}{pos:Pos}{fe fi:Env→(Dat→Prop)→Prop}{gc:Env→(Bool→Prop)→Prop}
theorem SO.le{pins:List (Addr×Obj)}{H0 H H1:Hp}{D:Post}{fl:Flow}{s':Shared}{k:Nat}(a:StepS n' H0 H H1)(hk:n'+n≤k)(h:SO X pins n H0 H1 D fl s'):SO X pins k H0 H D fl s':=by
 obtain⟨t,h⟩:=h;refine⟨t,?_⟩
 cases fl with
 | next=>obtain⟨σ',H',δ',h1,h2,h3,h4⟩:=h;exact⟨σ',H',δ',h1,h2,(a.trans h3).mono hk,h4⟩
 | cont=>obtain⟨σ',H',δ',h1,h2,h3,h4⟩:=h;exact⟨σ',H',δ',h1,h2,(a.trans h3).mono hk,h4⟩
 | brk=>obtain⟨σ',H',δ',h1,h2,h3,h4⟩:=h;exact⟨σ',H',δ',h1,h2,(a.trans h3).mono hk,h4⟩
 | ret u=>obtain⟨v,σ',H',d,δ',h1,h2,h3,h6,h4,h5⟩:=h;exact⟨v,σ',H',d,δ',h1,h2,h3,h6,(a.trans h4).mono hk,h5⟩
theorem qs_nil:QS X [] 0 (λδ D=>D.nx δ):=λE hE pins s σ H0 H δ m D t I es ex pl hf=>wpAny_execs_nil ⟨t,σ,H,δ,I,es,StepS.refl ex,hf⟩
theorem Al3{F1 F2:Env→Post→Prop}(h1:Q1 X st n F1)(h2:QS X sts n' F2):QS X (st::sts) (n+n') (λδ D=>F1 δ { D with nx:=λδ'=>F2 δ' D }):=λE hE pins s σ H0 H δ m D t I es ex pl hf=>by
 refine wpAny_execs_cons (thn (h1 E hE pins s σ H0 H δ (n'+m) _ t I es ex (pl.mono (by omega)) hf) λf s1 q=>?_);obtain⟨t1,q⟩:=q
 cases f with
 | next=>
  obtain⟨σ1,H1,δ1,I1,es1,st1,q1⟩:=q;exact thn (h2 E hE pins s1 σ1 H0 H1 δ1 m D t1 I1 es1 st1.ext (st1.pot _ (pl.mono (by omega))) q1) λf s2 q2=>q2.le st1 (Aa _)
 | cont=>obtain⟨σ',H',δ',h1,h2,h3,h4⟩:=q;exact⟨t1,σ',H',δ',h1,h2,h3.mono (by omega),h4⟩
 | brk=>obtain⟨σ',H',δ',h1,h2,h3,h4⟩:=q;exact⟨t1,σ',H',δ',h1,h2,h3.mono (by omega),h4⟩
 | ret u=>obtain⟨v,σ',H',d,δ',h1,h2,h3,h6,h4,h5⟩:=q;exact⟨t1,v,σ',H',d,δ',h1,h2,h3,h6,h4.mono (by omega),h5⟩
theorem Apo{i:Nat}{F:Env→Post→Prop}(h:QS X sts n F):QS X sts n (λδ D=>Dy δ i λd=>F (δ.set i (.val d)) D):=λE hE pins s σ H0 H δ m D t I es ex pl hf=>by
 have hf:Dy δ i λd=>F (δ.set i (.val d)) D:=hf
 unfold Dy at hf
 split at hf
 ·rename_i d hi
  have no:=Y5 hi;have hi:=Ja hi;obtain⟨a,ha,ow⟩:=(es.rep.2 i _ hi).ownAt;have ow:=ow.plain no;have h0:=es.fresh i _ a hi ha;have fin:∀{u:HO},H a=some u→Chg u→(∀o:Obj,Rep X.kw (L2.upd H a (.frz o u)) (.ref a) d)→wpAny (model X.prog X.w) X.A (PySem.execs sts X.env) (λf s'=>SO X pins n H0 H D f s') E s:=λ{u} hx hu hr=>by
   obtain⟨o,I'⟩:=Wg hu I hx;have st:=StepS.put (o:=.frz o u) hu ex hx h0 (λ_ q=>nomatch q);exact thn (h E hE pins s σ H0 _ _ m D t I' (es.put (sl:=.val d) hi ha hu hx (hr o)) st.ext (st.pot _ (pl.mono (by omega))) hf) λf s2 q2=>q2.le st (by omega)
  cases d with
  | lst l=>
   obtain⟨vs,h1,h2,h3⟩:=ow;refine fin h1 (.inl ⟨_,rfl⟩) λo=>?_
   rw[Rep];exact⟨a,vs,rfl,⟨o,upd_same⟩,h2,Reps.wr (.inl ⟨_,rfl⟩) _ h1 _ _ h3⟩
  | dic l=>
   obtain⟨vs,h1,h2,h3⟩:=ow;refine fin h1 (.inr (.inl ⟨_,rfl⟩)) λo=>?_
   rw[Rep];exact⟨a,vs,rfl,⟨o,upd_same⟩,h2,RepKv.wr (.inr (.inl ⟨_,rfl⟩)) _ h1 _ _ h3⟩
  | kd l=>
   obtain⟨xs,⟨hm,h1⟩,h2,nd,h3⟩:=ow;refine fin h1 (Chg.kd nd) λo=>?_
   rw[Rep];exact⟨a,xs,rfl,⟨hm,o,upd_same⟩,h2,nd,RepKd.wr (Chg.kd nd) _ h1 _ _ h3⟩
  | _=>exact ow.elim
 ·exact hf.elim
theorem Aqn(he:QE X e n (RV X.kw) fe)(hs:swapsWith e none pos.line X.env=pure false):Q1 X (.Expr e pos) n (λδ D=>fe δ λ_=>D.nx δ):=λE hE pins s σ H0 H δ m D t I es ex pl hf=>
 wpAny_Expr_any (thn (he E pins s σ H δ m _ t I es.rep pl hf) λv s1 ⟨t1,x,H1,d,I1,r1,st1,b1,q1⟩=>⟨t1,σ,H1,δ,I1,es.ext st1.ext,.of ex st1,q1⟩) I.quiet hs
theorem Aqf(he:QE X e n (RV X.kw) fe):Q1 X (.Return (some e) pos) n (λδ D=>fe δ (D.rt δ)):=λE hE pins s σ H0 H δ m D t I es ex pl hf=>
 wpAny_Return_some (thn (he E pins s σ H δ m _ t I es.rep pl hf) λv s1 ⟨t1,x,H1,d,I1,r1,st1,b1,q1⟩=>⟨t1,x,σ,H1,d,δ,I1,r1,b1,es.ext st1.ext,.of ex st1,q1⟩)
theorem q1_retN:Q1 X (.Return none pos) 0 (λδ D=>D.rt δ .non):=λE hE pins s σ H0 H δ m D t I es ex pl hf=>
 wpAny_Return_none ⟨t,.non,σ,H,.non,δ,I,rfl,by rw[Rep],es,StepS.refl ex,hf⟩
theorem q1_pass:Q1 X (.Pass pos) 0 (λδ D=>D.nx δ):=λE hE pins s σ H0 H δ m D t I es ex pl hf=>
 wpAny_Pass ⟨t,σ,H,δ,I,es,StepS.refl ex,hf⟩
theorem Aqj{a b:List Stmt}{Fa Fb:Env→Post→Prop}(hc:QT X e n gc)(ha:QS X a n' Fa)(hb:QS X b n'' Fb):Q1 X (.If e a b pos) (n+(n'+n'')) (λδ D=>gc δ λk=>if k=true then Fa δ D else Fb δ D):=λE hE pins s σ H0 H δ m D t I es ex pl hf=>by
 refine wpAny_If (thn (hc E pins s σ H δ (n'+n''+m) _ t I es.rep (pl.mono (by omega)) hf) λk s1 ⟨t1,H1,I1,st1,q1⟩=>?_);have ss:=StepS.of ex st1
 cases k with
 | true=>
  rw[if_pos rfl]at q1;exact thn (ha E hE pins s1 σ H0 H1 δ m D t1 I1 (es.ext st1.ext) ss.ext (st1.pot _ (pl.mono (by omega))) q1) λf s2 q2=>q2.le ss (by omega)
 | false=>
  rw[if_neg Bv]at q1;exact thn (hb E hE pins s1 σ H0 H1 δ m D t1 I1 (es.ext st1.ext) ss.ext (st1.pot _ (pl.mono (by omega))) q1) λf s2 q2=>q2.le ss (by omega)
variable{i:Nat}{x:Str}{px:Pos}
theorem Aqe(hN:X.N.Nodup)(hi:X.N[i]? = some x)(hx:Loc X.env.scope x)(hfn:X.fn x=true∨X.env.scope.names.lookup x=some .local)(he:QE X e n (RV X.kw) fe)(hs:swapsWith e (some (.Name x px)) pos.line X.env=pure false) :
  Q1 X (.Assign [.Name x px] e pos) n (λδ D=>fe δ λd=>D.nx (δ.set i (.val d))):=λE hE pins s σ H0 H δ m D t I es ex pl hf=>by
 refine wpAny_Assign_Name (thn (he E pins s σ H δ m _ t I es.rep pl hf) λv s1 ⟨t1,y,H1,d,I1,r1,st1,b1,q1⟩=>?_) hs;refine Cr (X:=X) t1 (store_ok (Q:=λ_ s2=>L2.Inv X pins (σ.set i (some y)) H1 s2) I1 hN hi hx r1 (λs2 I2=>I2) hfn) λ_ s2 t2 I2=>?_
 have b1:Rep X.kw H1 y d:=b1;exact⟨t2,_,H1,_,I2,(es.ext st1.ext).kp ((es.rep.ext st1.ext).set i (s:=.val d) b1) (Kp.set σ δ i (some y) d),.of ex st1,q1⟩
theorem RO.fresh{K:KW}{H H':Hp}{v:V}{d:Dat}(h:RO K H H' v d)(hb:Jt d=true):∃a,v = .ref a∧H a=none∧Own K H' a d:=by
 rcases h with h|⟨h,_⟩
 ·exact h
 ·cases d<;>simp_all [Jt,Aq6]
theorem Aqi(hN:X.N.Nodup)(hi:X.N[i]? = some x)(hx:Loc X.env.scope x)(hfn:X.fn x=true∨X.env.scope.names.lookup x=some .local)(he:QE X e n (ROw X.kw) fe)(hs:swapsWith e (some (.Name x px)) pos.line X.env=pure false) :
  Q1 X (.Assign [.Name x px] e pos) n (λδ D=>fe δ λd=>Jt d=true∧D.nx (δ.set i (.own d))):=λE hE pins s σ H0 H δ m D t I es ex pl hf=>by
 refine wpAny_Assign_Name (thn (he E pins s σ H δ m _ t I es.rep pl hf) λv s1 ⟨t1,y,H1,d,I1,r1,st1,b1,hb,q1⟩=>?_) hs;refine Cr (X:=X) t1 (store_ok (Q:=λ_ s2=>L2.Inv X pins (σ.set i (some y)) H1 s2) I1 hN hi hx r1 (λs2 I2=>I2) hfn) λ_ s2 t2 I2=>?_
 have b1:RO X.kw H H1 y d:=b1;obtain⟨a,rfl,hn,ow⟩:=b1.fresh hb;exact⟨t2,_,H1,_,I2,(es.ext st1.ext).own i ow (ex.none hn) (es.apart hn),.of ex st1,q1⟩
theorem Aqc{tg:Expr}{p:P}(ht:K8 X tg p)(he:QE X e n (RV X.kw) fe)(hs:swapsWithSole [tg] e pos.line X.env=pure false)(hw:swappedStores [tg] e X.env=pure none)(h1:(assignEach [tg] X.env).map (·.2)=[assign tg X.env]) :
  Q1 X (.Assign [tg] e pos) n (λδ D=>fe δ λd=>Cz p d δ D.nx):=λE hE pins s σ H0 H δ m D t I es ex pl hf=>by
 refine wpAny_Assign_stores (thn (he E pins s σ H δ m _ t I es.rep pl hf) λv s1 ⟨t1,y,H1,d,I1,r1,st1,b1,q1⟩=>?_) hs hw;rw[h1];exact thn (Nr (z:=false) (λe=>nomatch e) ht t1 I1 (es.rep.ext st1.ext) r1 b1 q1) λ_ s2 ⟨t2,σ2,δ2,I2,er2,q2,k2⟩=>⟨t2,σ2,H1,δ2,I2,(es.ext st1.ext).kp er2 k2,.of ex st1,q2⟩
section
variable{elt tg iter:Expr}{ifs:List Expr}{scope:Scope}{own:List (Str×Nat)}{cpos:Pos}{p:P}{z:Bool}{n1 n2:Nat}{ft:Env→(Bool→Prop)→Prop}
theorem Ajt{pins:List (Addr×Obj)}{s:Shared}{σ:L2.St}{H0 H:Hp}{δ:Env}{m:Nat}{D:Post}{Φ:List Dat→Prop}{E:Value→Shared→Prop}(hc:X.calm=true)(hN:X.N.Nodup)(hy:X.N[i]? = some x)(hyl:X.env.scope.names.lookup x=some .local)
  (hsw:swapsWith (.ListComp elt [⟨tg,iter,ifs,0⟩] scope cpos) (some (.Name x px)) pos.line X.env=pure true) (hi:QI X tg iter n true z fi) (ok:BlkOk X.N X.env.scope scope own) (hz:z=true→isT p=true) (hv:∀i∈Dm p,i∈own.map (·.2))
  (hg:∀(s:Shared) (H:Hp) (C:Addr) (cl:List (Str×Addr)) (fp:List Addr),K8 (X.blk s H scope (compEnvC scope cl C X.env) fp) tg p) (ht:∀(s:Shared) (H:Hp) (C:Addr) (cl:List (Str×Addr)) (fp:List Addr),QTs (X.blk s H scope (compEnvC scope cl C X.env) fp) ifs n1 ft)
  (he:∀(s:Shared) (H:Hp) (C:Addr) (cl:List (Str×Addr)) (fp:List Addr),QE (X.blk s H scope (compEnvC scope cl C X.env) fp) elt n2 (RV X.kw) fe) (hs:∀x,foldedSetIterable iter X.env x=pure x) (mfi:∀ δ,Bj (fi δ))
  (t:0 < s.toks) (I:L2.Inv X pins σ H s) (es:EnvS X.kw σ H0 H δ) (ex:Ext H0 H) (pl:PotLe (n+sizeLine*(n1+n2)+m) H) (hf:fi δ λx=>∃ds,Di x=some ds∧Ff (Eo p (Bb δ (own.map (·.2))) ft fe) ds Φ)
  (k:∀ys σ' H' s',0 < s'.toks→L2.Inv X pins σ' H' s'→EnvS X.kw σ' H0 H' (δ.set i (.own (.lst ys)))→StepS (n+sizeLine*(n1+n2)) H0 H H'→Φ ys→SO X pins (n+sizeLine*(n1+n2)) H0 H D .next s') :
  wpAny (model X.prog X.w) X.A (PySem.exec (.Assign [.Name x px] (.ListComp elt [⟨tg,iter,ifs,0⟩] scope cpos) pos) X.env) (SO X pins (n+sizeLine*(n1+n2)) H0 H D) E s:=by
 rw[exec_Assign_Name_used _ _ _ _ hsw];refine wpAny_bind (wpAny_standAt (wpAny_bind ?_));show wpAny _ X.A (do let _ ← comprehension (.ListComp elt [⟨tg,iter,ifs,0⟩] scope cpos) scope X.env (firstIterPos [⟨tg,iter,ifs,0⟩] cpos) (newList []) false (eval iter X.env) (some (assign (.Name x px) X.env))) _ _ s
 refine wpAny_bind (thn (Aju (Qf:=λ_ s'=>SO X pins (n+sizeLine*(n1+n2)) H0 H D .next s') hc hN t I es.rep pl hi ok hz hv hg ht he hs hf mfi λL C s' m' H' ys t' I' st hL ow q hn f=>?_) λ_ s' hq=>wpAny_pure (wpAny_pure hq));show wpAny _ _ (assign (.Name x px) X.env (.ref L)) _ _ _
 refine wpAny_assign_Name ?_;refine Cr (X:=X) t' (store_ok2 (Q:=λ_ s2=>L2.Inv X pins (σ.set i (some (.ref L))) H' s2∧∃a,Heap.SameBut a s'.heap s2.heap∧(a=X.env.locals∨X.env.cells.lookup x=some a)) (v:=V.ref L) I' hN hy (.inl hyl) rfl (λs2 I2 ha=>⟨I2,ha⟩) (.inr hyl)) λ_ s2 t2 ⟨I2,a,sb,ha⟩=>?_
 obtain⟨f0,f1,f2,f3,f4,f5⟩:=f;have haC:C≠a:=by
  rcases ha with z|z
  ·rw[z];exact f1
  ·exact λe=>f4 x a z e.symm
 refine⟨m',hn.sameBut sb haC,λh3 sb3=>?_⟩;exact k ys _ H' _ t2 (I2.turned (t':=s2.toks) (λb o hb e=>(sb3.2 b hb).trans e) f0 f1 f3 f4 f5) ((es.ext st.ext).own i ow (ex.none hL) (es.apart hL)) (.of ex st) q
theorem Ai3(hc:X.calm=true)(hN:X.N.Nodup)(hy:X.N[i]? = some x)(hyl:X.env.scope.names.lookup x=some .local)
  (hsw:swapsWith (.ListComp elt [⟨tg,iter,ifs,0⟩] scope cpos) (some (.Name x px)) pos.line X.env=pure true) (hi:QI X tg iter n true z fi) (ok:BlkOk X.N X.env.scope scope own) (hz:z=true→isT p=true) (hv:∀i∈Dm p,i∈own.map (·.2))
  (hg:∀(s:Shared) (H:Hp) (C:Addr) (cl:List (Str×Addr)) (fp:List Addr),K8 (X.blk s H scope (compEnvC scope cl C X.env) fp) tg p) (ht:∀(s:Shared) (H:Hp) (C:Addr) (cl:List (Str×Addr)) (fp:List Addr),QTs (X.blk s H scope (compEnvC scope cl C X.env) fp) ifs n1 ft)
  (he:∀(s:Shared) (H:Hp) (C:Addr) (cl:List (Str×Addr)) (fp:List Addr),QE (X.blk s H scope (compEnvC scope cl C X.env) fp) elt n2 (RV X.kw) fe) (hs:∀x,foldedSetIterable iter X.env x=pure x) (mfi:∀ δ,Bj (fi δ)) :
  Q1 X (.Assign [.Name x px] (.ListComp elt [⟨tg,iter,ifs,0⟩] scope cpos) pos) (n+sizeLine*(n1+n2)) (λδ D=>fi δ λx=>∃ds,Di x=some ds∧Ff (Eo p (Bb δ (own.map (·.2))) ft fe) ds λys=>Jt (.lst ys)=true∧D.nx (δ.set i (.own (.lst ys)))):=λE hE pins s σ H0 H δ m D t I es ex pl hf=>
 Ajt hc hN hy hyl hsw hi ok hz hv hg ht he hs mfi t I es ex pl hf λys σ' H' s' t' I' es' st q=>⟨t',σ',H',_,I',es',st,q.2⟩
theorem Ai2(hc:X.calm=true)(hN:X.N.Nodup)(hy:X.N[i]? = some x)(hyl:X.env.scope.names.lookup x=some .local)
  (hsw:swapsWith (.ListComp elt [⟨tg,iter,ifs,0⟩] scope cpos) (some (.Name x px)) pos.line X.env=pure true) (hi:QI X tg iter n true z fi) (ok:BlkOk X.N X.env.scope scope own) (hz:z=true→isT p=true) (hv:∀i∈Dm p,i∈own.map (·.2))
  (hg:∀(s:Shared) (H:Hp) (C:Addr) (cl:List (Str×Addr)) (fp:List Addr),K8 (X.blk s H scope (compEnvC scope cl C X.env) fp) tg p) (ht:∀(s:Shared) (H:Hp) (C:Addr) (cl:List (Str×Addr)) (fp:List Addr),QTs (X.blk s H scope (compEnvC scope cl C X.env) fp) ifs n1 ft)
  (he:∀(s:Shared) (H:Hp) (C:Addr) (cl:List (Str×Addr)) (fp:List Addr),QE (X.blk s H scope (compEnvC scope cl C X.env) fp) elt n2 (RV X.kw) fe) (hs:∀x,foldedSetIterable iter X.env x=pure x) (mfi:∀ δ,Bj (fi δ)) :
  Q1 X (.Assign [.Name x px] (.ListComp elt [⟨tg,iter,ifs,0⟩] scope cpos) pos) (n+sizeLine*(n1+n2)) (λδ D=>fi δ λx=>∃ds,Di x=some ds∧Ff (Eo p (Bb δ (own.map (·.2))) ft fe) ds λys=>D.nx (δ.set i (.val (.lst ys)))):=λE hE pins s σ H0 H δ m D t I es ex pl hf=>
 Ajt hc hN hy hyl hsw hi ok hz hv hg ht he hs mfi t I es ex pl hf λys σ' H' s' t' I' es' st q=>by
  have lt:i < δ.length:=by
   rw[← es.rep.1,I.len];exact(Ag.mp hy).1
  have hi':(δ.set i (.own (.lst ys)))[i]? = some (Slot.own (.lst ys)):=by rw[Be];simp[lt]
  obtain⟨a,xs,ha,hx,hz,hr,h0⟩:=es'.ownAt hi';obtain⟨o,I2⟩:=Wh I' hx;have st2:=StepS.wr (o:=.frz o (.lst xs)) st.ext hx h0 (λ_ q=>nomatch q);have es2:=es'.frz (o:=o) hi' ha hx hz hr;rw[List.set_set]at es2;exact⟨t',σ',_,_,I2,es2,(st.trans st2).mono (by omega),q⟩
end
end
end SF
namespace SF
open PySem PySem.Spec PyProof.Rows L2
variable[TN]
section
variable{X:Cx}{st:Stmt}{body:List Stmt}{n n' n'':Nat}{e iter tg c:Expr}{pos:Pos}{fe fi:Env→(Dat→Prop)→Prop}{gc:Env→(Bool→Prop)→Prop}{F:Env→Post→Prop}{p:P}{z:Bool}
theorem Aql(hc:X.calm=true)(hi:QI X tg iter n false z fi)(hz:z=true→isT p=true)(hg:K8 X tg p)(hb:QS X body n' F)(hs:∀x,foldedSetIterable iter X.env x=pure x)(mfi:∀ δ,Bj (fi δ)) :
  Q1 X (.For tg iter body [] pos) (n+sizeLine*n') (λδ D=>fi δ λx=>∃ds,Di x=some ds∧G5 p F ds δ D):=λE hp pins s σ H0 H δ m D t I es ex pl hf=>by
 refine wpAny_For (thn (hi E pins s σ H δ (sizeLine*n'+m) (λx=>∃ds,Di x=some ds∧G5 p F ds δ D) t I es.rep (pl.mono (by omega)) (mfi δ _ _ (λx ⟨ds,q1,q2⟩=>⟨⟨ds,q1⟩,ds,q1,q2⟩) hf)) λxv s1 hx=>thn hx λitv s2 h2=>?_) hs;obtain⟨t2,it,fp,tn,J,H2,dx,ds,e,I2,T,st2,f2,stp,wk,hlen,hds,ds',hds',q⟩:=h2;rw[hds]at hds'
 cases hds'
 subst e;have sp0:=StepS.of ex stp;have stat:∀{H':Hp},(∀b∈fp,H' b=none)→∀b∈fp,FpOk X pins H' b:=λhn b hb=>⟨hn b hb,(f2 b hb).2⟩
 have plB:PotLe (sizeLine*n') H2:=stp.pot _ (pl.mono (by omega));refine codeAny_forLoop_any (λk s'=>∃i σ' H' δ',0 < s'.toks∧L2.Inv X pins σ' H' s'∧tn i s'.heap∧(∀b∈fp,H' b=none)∧k=ds.length - i∧i≤ds.length∧EnvS X.kw σ' H0 H' δ'∧StepS (i*n') H0 H2 H'∧G5 p F (ds.drop i) δ' D) ?_ ds.length
  ⟨0,σ,H2,δ,t2,I2,st2,λb hb=>(f2 b hb).1,rfl,Am _,es.ext stp.ext,by rw[Dc];exact StepS.refl sp0.ext,q⟩
 rintro k s3 ⟨i,σ3,H3,δ3,t3,I3,st3,fr3,rfl,hik,es3,sp3,q3⟩;have ex3:EXr false H2 H3:=sp3.exs;by_cases hlt:i < ds.length
 ·have hx:ds[i]? = some ds[i]:=Ab hlt
  have e0:ds.drop i=ds[i]::ds.drop (i+1):=Ds hlt;rw[e0,G5]at q3;refine wpAny_passesOwn hp (thn (tkF (X:=X) t3 (T.item X rfl rfl rfl hc i pins s3 σ3 H3 E I3 (stat fr3) st3 (wk.go H3 i ex3 hlt))) λr s4 ⟨t4,u,hr,h4⟩=>?_);subst hr;refine wpAny_passesOwn hp (thn (tkF (X:=X) t4 h4) λ_ s5 ⟨t5,x,H5,I5,r5,y5,st5,fr5⟩=>?_);obtain⟨sp5,yr⟩:=wk.yld H3 i x H5 _ ex3 hx y5;have I5':=I5.pinned (stat fr5) (T.obj _ _ st5);refine wpAny_passesOwn hp (thn (Nr hz hg t5 I5' (es3.rep.ext sp5.ext) r5 yr q3) λ_ s6 ⟨t6,σ6,δ6,I6,er6,q6,k6⟩=>?_);have hle:(i+1)*n'≤sizeLine*n':=Ba _ (by omega);rw[Ay]at hle;have sp5':=StepS.of sp3.ext sp5;have sp53:=sp3.trans sp5';refine wpAny_passesOwn hp (thn (hb E hp _ s6 σ6 H0 H5 δ6 0 _ t6 I6 ((es3.ext sp5.ext).kp er6 k6) sp5'.ext (sp53.pot _ (plB.mono (by omega))) q6) λf s7 q7=>?_);obtain⟨t7,q7⟩:=q7;have again:∀{σ7:L2.St} {H7:Hp} {δ7:Env},L2.Inv X (pins++pinsAt fp s5.heap) σ7 H7 s7→EnvS X.kw σ7 H0 H7 δ7→StepS n' H0 H5 H7→G5 p F (ds.drop (i+1)) δ7 D →
    ∃m,m < ds.length - i∧∃i σ' H' δ',0 < s7.toks∧L2.Inv X pins σ' H' s7∧tn i s7.heap∧(∀b∈fp,H' b=none)∧m=ds.length - i∧i≤ds.length∧EnvS X.kw σ' H0 H' δ'∧StepS (i*n') H0 H2 H'∧G5 p F (ds.drop i) δ' D:=λ{σ7 H7 δ7} I7 es7 sp7 q7=>by
   refine⟨ds.length - (i+1),by omega,i+1,σ7,H7,δ7,t7,I7.unpinned,T.keep _ _ _ st5 λb hb o e=>(I7.pin (b,o) (Cu _ (Cu _ (mem_pinsAt hb e)))).1,λb hb=>?_,rfl,hlt,es7,(sp53.trans sp7).mono (by rw[Ay];omega),q7⟩;obtain⟨o,e,d⟩:=T.obj _ _ st5 b hb;exact(I7.pin (b,o) (Cu _ (Cu _ (mem_pinsAt hb e)))).2.1
  have outp:∀{H7:Hp},StepS n' H0 H5 H7→StepS (n+sizeLine*n') H0 H H7:=λ{H7} sp7=>((sp0.trans sp53).trans sp7).mono (by omega)
  cases f with
  | next=>obtain⟨σ7,H7,δ7,I7,es7,sp7,n7⟩:=q7;exact again I7 es7 sp7 n7
  | cont=>obtain⟨σ7,H7,δ7,I7,es7,sp7,n7⟩:=q7;exact again I7 es7 sp7 n7
  | brk=>obtain⟨σ7,H7,δ7,I7,es7,sp7,n7⟩:=q7;exact⟨t7,σ7,H7,δ7,I7.unpinned,es7,outp sp7,n7⟩
  | ret v=>obtain⟨x7,σ7,H7,d7,δ7,I7,r7,b7,es7,sp7,q7⟩:=q7;exact⟨t7,x7,σ7,H7,d7,δ7,I7.unpinned,r7,b7,es7,outp sp7,q7⟩
 ·have ei:i=ds.length:=by omega
  subst ei;rw[Gn,G5]at q3;refine wpAny_passesOwn hp (thn (tkF (X:=X) t3 (T.done X rfl rfl rfl hc ds.length pins s3 σ3 H3 E I3 (stat fr3) st3 (wk.stop H3 ex3))) λr s4 ⟨t4,hr,I4⟩=>?_);subst hr;have hmul:ds.length*n'≤sizeLine*n':=Ba _ hlen;exact wpAny_execs_nil ⟨t4,σ3,H3,δ3,I4,es3,(sp0.trans sp3).mono (by omega),q3⟩
theorem Aqb(hc:QT X c n gc)(hb:QS X body n' F):Q1 X (.While c body [] pos) (big*(n+n')) (λδ D=>∃k,k≤big∧Nq gc F k δ D):=λE hp pins s σ H0 H δ m D t I es ex pl hf=>by
 obtain⟨k,hk,hf⟩:=hf;have plB:PotLe (big*(n+n')) H:=pl.mono (by omega);refine wpAny_While (codeAny_whileLoop (λj s'=>∃ σ' H' δ',0 < s'.toks∧L2.Inv X pins σ' H' s'∧j≤k∧EnvS X.kw σ' H0 H' δ'∧StepS ((k - j)*(n+n')) H0 H H'∧Nq gc F j δ' D) ?_ k ⟨σ,H,δ,t,I,Aa _,es,by rw[Nat.sub_self,Dc];exact StepS.refl ex,hf⟩);rintro j s1 ⟨σ1,H1,δ1,t1,I1,hj,es1,sp1,w1⟩
 cases j with
 | zero=>rw[Nq]at w1;exact w1.elim
 | succ j=>
  rw[Nq]at w1;have hle:(k - (j+1)+1)*(n+n')≤big*(n+n'):=Ba _ (by omega);rw[Ay]at hle;have hj1:k - (j+1)+1=k - j:=by omega
  refine wpAny_passesOwn hp (thn (hc E pins s1 σ1 H1 δ1 n' _ t1 I1 es1.rep (sp1.pot _ (plB.mono (by omega))) w1) λb s2 ⟨t2,H2,I2,st2,q2⟩=>?_);have sp2:=sp1.trans (StepS.of sp1.ext st2)
  cases b with
  | true=>
   rw[if_pos rfl]at q2 ⊢;refine wpAny_passesOwn hp (thn (hb E hp pins s2 σ1 H0 H2 δ1 0 _ t2 I2 (es1.ext st2.ext) sp2.ext (sp2.pot _ (plB.mono (by omega))) q2) λf s3 q3=>?_);obtain⟨t3,q3⟩:=q3;have again:∀{σ7:L2.St} {H7:Hp} {δ7:Env},L2.Inv X pins σ7 H7 s3→EnvS X.kw σ7 H0 H7 δ7→StepS n' H0 H2 H7→Nq gc F j δ7 D →
     ∃m,m < j+1∧∃ σ' H' δ',0 < s3.toks∧L2.Inv X pins σ' H' s3∧m≤k∧EnvS X.kw σ' H0 H' δ'∧StepS ((k - m)*(n+n')) H0 H H'∧Nq gc F m δ' D:=λ{σ7 H7 δ7} I7 es7 sp7 q7=>
    ⟨j,by omega,σ7,H7,δ7,t3,I7,by omega,es7,(sp2.trans sp7).mono (by rw[← hj1,Ay];omega),q7⟩
   have outp:∀{H7:Hp},StepS n' H0 H2 H7→StepS (big*(n+n')) H0 H H7:=λ{H7} sp7=>(sp2.trans sp7).mono (by omega)
   cases f with
   | next=>obtain⟨σ7,H7,δ7,I7,es7,sp7,n7⟩:=q3;exact again I7 es7 sp7 n7
   | cont=>obtain⟨σ7,H7,δ7,I7,es7,sp7,n7⟩:=q3;exact again I7 es7 sp7 n7
   | brk=>obtain⟨σ7,H7,δ7,I7,es7,sp7,n7⟩:=q3;exact⟨t3,σ7,H7,δ7,I7,es7,outp sp7,n7⟩
   | ret v=>obtain⟨x7,σ7,H7,d7,δ7,I7,r7,b7,es7,sp7,q7⟩:=q3;exact⟨t3,x7,σ7,H7,d7,δ7,I7,r7,b7,es7,outp sp7,q7⟩
  | false=>
   rw[if_neg Bv]at q2 ⊢;exact wpAny_execs_nil ⟨t2,σ1,H2,δ1,I2,es1.ext st2.ext,sp2.mono (by omega),q2⟩
variable{i:Nat}{x:Str}{px apos cpos:Pos}
theorem Je{pins:List (Addr×Obj)}{s:Shared}{σ:L2.St}{H:Hp}{a:Addr}{E:Value→Shared→Prop}{Q:Value→Shared→Prop}(hN:X.N[i]? = some x)(hv:Vis X.env.scope x)(hd:(x == ("__debug__" : Str))=false)(hcd:(x == ("__classdict__" : Str))=false)(I:L2.Inv X pins σ H s)(ha:σ[i]? = some (some (.ref a)))(k:Q (.ref a) s) :
  wpAny (model X.prog X.w) X.A (eval (.Name x px) X.env) Q E s:=
 raw_name hN hv I ha (λu r=>by obtain rfl:u = .ref a:=r;exact k) hd hcd
theorem Aqo(hN:X.N[i]? = some x)(hv:Vis X.env.scope x)(hd:(x == ("__debug__" : Str))=false)(hcd:(x == ("__classdict__" : Str))=false)(he:QE X e n (RV X.kw) fe)(hbase:attributeBase (.Name x px) "append" X.env (eval (.Name x px) X.env)=eval (.Name x px) X.env)
  (hfew:((backTo cpos (starEach [e] X.env)).all (λx=>!x.1) && (backToKw cpos (keywordEach [] X.env)).all (λx=>x.1.isSome)
   && decide ([e].length+([]:List Keyword).length+(if([]:List Keyword).isEmpty then 0 else 1) < 30))=true) (hline:(apos.endLine == cpos.line)=true) (hs:starEach [e] X.env=[(false,eval e X.env)]) :
  Q1 X (.Expr (.Call (.Attribute (.Name x px) "append" apos) [e] [] cpos) pos) n (λδ D=>Dy δ i λx=>∃l,x = .lst l∧fe δ λd=>l.length < big∧D.nx (δ.set i (.own (.lst (l++[d]))))):=λE hp pins s σ H0 H δ m D t I es ex pl hf=>by
 have hf:Dy δ i _:=hf;unfold Dy at hf
 split at hf
 ·rename_i d hi
  have hi:=Ja hi;obtain⟨l,rfl,hf⟩:=hf;obtain⟨a,xs,ha,hx,hz,hr,h0⟩:=es.ownAt hi;refine wpAny_Expr_any ?_ I.quiet rfl;refine wpAny_Call_method_late hbase hfew hline rfl (Je hN hv hd hcd I ha ?_);obtain⟨z,its,k,r,q⟩:=I.hok a _ hx;refine⟨"list", "list.append", PySem.F.plainAttrs_list,PySem.F.slot_list_append,PySem.F.type_list_append,⟨_,q,rfl⟩,λb e=>(Value.ref.inj e) ▸ ⟨_,q,rfl⟩,?_⟩;rw[hs];refine Calls.callWith_builtin rfl (Calls.evalArgs_plain (Calls.spliced_cons (thn (he E pins s σ H δ m _ t I es.rep pl hf) λv s1 ⟨t1,y,H1,d,I1,r1,st1,b1,hl,q1⟩=>Calls.spliced_nil ?_)));have hx1:H1 a=some (.lst xs):=st1.ext.keep hx λ_ q=>nomatch q
  have hr1:=Reps.ext st1.ext _ _ hr;have b1:Rep X.kw H1 y d:=b1;have ss:=StepS.of ex st1;refine Cr (X:=X) t1 (app_ok (X:=X) (Q:=λ_ s2=>L2.Inv X pins σ (upd H1 a (.lst (xs++[y]))) s2) I1 hx1 (by rw[hr1.length];exact hl) r1 λs2 I2=>I2) λ_ s2 t2 I2=>?_
  exact⟨t2,σ,_,_,I2,(es.ext st1.ext).wr hi ha hx1 (by rw[Yzj];exact hl) (hr1.snoc b1),(ss.trans (StepS.wr (o:=.lst _) ss.ext hx1 h0 λ_ q=>nomatch q)).mono (by omega),q1⟩
 ·exact hf.elim
theorem Reps.erase{K:KW}{H:Hp}:∀{vs:List V} {ds:List Dat} (k:Nat),Reps K H vs ds→Reps K H (vs.eraseIdx k) (ds.eraseIdx k)
 | [],[],_,h=>by simpa using h
 | [],_::_,_,h=>by simp[Reps]at h
 | _::_,[],_,h=>by simp[Reps]at h
 | v::vs,d::ds,0,h=>by rw[Reps]at h;simpa using h.2
 | v::vs,d::ds,k+1,h=>by
  rw[Reps]at h;rw[Ab5,Ab5,Reps];exact⟨h.1,Reps.erase k h.2⟩
theorem Aqg(hN:X.N[i]? = some x)(hv:Vis X.env.scope x)(hd:(x == ("__debug__" : Str))=false)(hcd:(x == ("__classdict__" : Str))=false)(he:QE X e n (RV X.kw) fe)(hbase:attributeBase (.Name x px) "pop" X.env (eval (.Name x px) X.env)=eval (.Name x px) X.env)
  (hfew:((backTo cpos (starEach [e] X.env)).all (λx=>!x.1) && (backToKw cpos (keywordEach [] X.env)).all (λx=>x.1.isSome)
   && decide ([e].length+([]:List Keyword).length+(if([]:List Keyword).isEmpty then 0 else 1) < 30))=true) (hline:(apos.endLine == cpos.line)=true) (hs:starEach [e] X.env=[(false,eval e X.env)]) :
  Q1 X (.Expr (.Call (.Attribute (.Name x px) "pop" apos) [e] [] cpos) pos) n (λδ D=>Dy δ i λx=>∃l,x = .lst l∧fe δ λk=>∃j n,k = .int j∧ixN l.length j=some n∧D.nx (δ.set i (.own (.lst (l.eraseIdx n))))):=λE hp pins s σ H0 H δ m D t I es ex pl hf=>by
 have hf:Dy δ i _:=hf;unfold Dy at hf
 split at hf
 ·rename_i d hi
  have hi:=Ja hi;obtain⟨l,rfl,hf⟩:=hf;obtain⟨a,xs,ha,hx,hz,hr,h0⟩:=es.ownAt hi;refine wpAny_Expr_any ?_ I.quiet rfl;refine wpAny_Call_method_late hbase hfew hline rfl (Je hN hv hd hcd I ha ?_);obtain⟨z,its,k,r,q⟩:=I.hok a _ hx;refine⟨"list", "list.pop", PySem.F.plainAttrs_list,PySem.F.slot_list_pop,PySem.F.type_list_pop,⟨_,q,rfl⟩,λb e=>(Value.ref.inj e) ▸ ⟨_,q,rfl⟩,?_⟩;rw[hs];refine Calls.callWith_builtin rfl (Calls.evalArgs_plain (Calls.spliced_cons (thn (he E pins s σ H δ m _ t I es.rep pl hf) λv s1 ⟨t1,y,H1,d,I1,r1,st1,b1,j,k,ed,hk,q1⟩=>Calls.spliced_nil ?_)));subst ed;have hx1:H1 a=some (.lst xs):=st1.ext.keep hx λ_ q=>nomatch q
  have hr1:=Reps.ext st1.ext _ _ hr;have b1:Rep X.kw H1 y (.int j):=b1;rw[Rep]at b1;subst b1;have hlx:xs.length=l.length:=hr1.length;obtain⟨k1,k2,k3,k4⟩:=ixN_seq hk;have hy:∃y,xs[k]? = some y:=⟨_,Ab (by omega)⟩;obtain⟨y,hy⟩:=hy;have hzl:l.length≤16777216:=hz;have ss:=StepS.of ex st1;refine Cr (X:=X) t1 (mt_popAt (X:=X.wish E) pins s1 σ H1 (.ref a) [.int j] (.ref a) [v] (λ_ H'=>H'=upd H1 a (.lst (xs.eraseIdx k))) (I1.wish E) rfl (.cons r1 .nil) ⟨a,xs,j,k,y,rfl,rfl,hx1,by omega,by omega,by rw[hlx];exact k1,hy,rfl⟩) λw s2 t2 ⟨v2,H2,I2,r2,e2⟩=>?_
  subst e2;exact⟨t2,σ,_,_,I2.unwish,(es.ext st1.ext).wr hi ha hx1 (Bo (by rw[List.length_eraseIdx];split<;>omega) hz) (hr1.erase k),(ss.trans (StepS.wr (o:=.lst _) ss.ext hx1 h0 λ_ q=>nomatch q)).mono (by omega),q1⟩
 ·exact hf.elim
theorem Aqk{e2:Expr}{n2:Nat}{fe2:Env→(Dat→Prop)→Prop}(hN:X.N[i]? = some x)(hv:Vis X.env.scope x)(hd:(x == ("__debug__" : Str))=false)(hcd:(x == ("__classdict__" : Str))=false)(he:QE X e n (RV X.kw) fe)(he2:QE X e2 n2 (RV X.kw) fe2)(hbase:attributeBase (.Name x px) "insert" X.env (eval (.Name x px) X.env)=eval (.Name x px) X.env)
  (hfew:((backTo cpos (starEach [e,e2] X.env)).all (λx=>!x.1) && (backToKw cpos (keywordEach [] X.env)).all (λx=>x.1.isSome)
   && decide ([e,e2].length+([]:List Keyword).length+(if([]:List Keyword).isEmpty then 0 else 1) < 30))=true) (hline:(apos.endLine == cpos.line)=true) (hs:starEach [e,e2] X.env=(false,eval e X.env)::starEach [e2] X.env) (hs2:starEach [e2] X.env=[(false,eval e2 X.env)]) :
  Q1 X (.Expr (.Call (.Attribute (.Name x px) "insert" apos) [e,e2] [] cpos) pos) (n+n2) (λδ D=>Dy δ i λx=>∃l,x = .lst l∧fe δ λk=>fe2 δ λd=>∃j:Int,k = .int j∧0≤j∧j < 2 ^ 63∧l.length < big∧D.nx (δ.set i (.own (.lst (l.take j.toNat++[d]++l.drop j.toNat))))):=λE hp pins s σ H0 H δ m D t I es ex pl hf=>by
 have hf:Dy δ i _:=hf;unfold Dy at hf
 split at hf
 ·rename_i d hi
  have hi:=Ja hi;obtain⟨l,rfl,hf⟩:=hf;obtain⟨a,xs,ha,hx,hz,hr,h0⟩:=es.ownAt hi;refine wpAny_Expr_any ?_ I.quiet rfl;refine wpAny_Call_method_late hbase hfew hline rfl (Je hN hv hd hcd I ha ?_);obtain⟨z,its,k,r,q⟩:=I.hok a _ hx;refine⟨"list", "list.insert", PySem.F.plainAttrs_list,PySem.F.slot_list_insert,PySem.F.type_list_insert,⟨_,q,rfl⟩,λb e=>(Value.ref.inj e) ▸ ⟨_,q,rfl⟩,?_⟩;rw[hs,hs2];refine Calls.callWith_builtin rfl (Calls.evalArgs_plain (Calls.spliced_cons (thn (he E pins s σ H δ (n2+m) _ t I es.rep (pl.mono (by omega)) hf) λv s1 ⟨t1,y,H1,d1,I1,r1,st1,b1,q1⟩=>Calls.spliced_cons (thn (he2 E pins s1 σ H1 δ m _ t1 I1 (es.rep.ext st1.ext) (st1.pot _ (pl.mono (by omega))) q1) λv2 s2 ⟨t2,y2,H2,d2,I2,r2,st2,b2,j,ed,j0,j1,jl,q2⟩=>Calls.spliced_nil ?_))));subst ed;have st:=st1.trans st2;have hx2:H2 a=some (.lst xs):=st.ext.keep hx λ_ q=>nomatch q
  have hr2:=Reps.ext st.ext _ _ hr;have b1:Rep X.kw H1 y (.int j):=b1;have b2:Rep X.kw H2 y2 d2:=b2;rw[Rep]at b1;subst b1;have hlx:xs.length=l.length:=hr2.length;have ss:=StepS.of ex st;have jl':xs.length < sizeLine:=by rw[hlx];exact jl
  have hn:Reps X.kw H2 (xs.take j.toNat++[y2]++xs.drop j.toNat) (l.take j.toNat++[d2]++l.drop j.toNat):=by
   refine((hr2.take _).append ?_).append (hr2.drop _);rw[Reps,Reps];exact⟨b2,trivial⟩
  have hln:(l.take j.toNat++[d2]++l.drop j.toNat).length=l.length+1:=by
   rw[Yzj,Yzj,Br,Fv,Ph];omega
  refine Cr (X:=X) t2 (mt_insert (X:=X.wish E) pins s2 σ H2 (.ref a) [.int j,y2] (.ref a) [v,v2] (λ_ H'=>H'=upd H2 a (.lst (xs.take j.toNat++[y2]++xs.drop j.toNat))) (I2.wish E) rfl (.cons r1 (.cons r2 .nil)) ⟨a,xs,j,y2,rfl,rfl,hx2,jl',j0,j1,rfl⟩) λw s3 t3 ⟨v3,H3,I3,r3,e3⟩=>?_
  subst e3;exact⟨t3,σ,_,_,I3.unwish,(es.ext st.ext).wr hi ha hx2 (by rw[hln];exact jl) hn,(ss.trans (StepS.wr (o:=.lst _) ss.ext hx2 h0 λ_ q=>nomatch q)).mono (by omega),q2⟩
 ·exact hf.elim
theorem Ari{pins:List (Addr×Obj)}{s:Shared}{σ:L2.St}{H:Hp}{E:Value→Shared→Prop}{a b:Addr}{xs zs:List V}{Q:Value→Shared→Prop}(I:L2.Inv X pins σ H s)(hH:H a=some (.lst xs))(hb:Rd H b (.lst zs))(hz:xs.length+zs.length≤sizeLine)(k:∀s',L2.Inv X pins σ (upd H a (.lst (xs++zs))) s'→Q .none s') :
  wpAny (model X.prog X.w) X.A (call (.builtin "list.extend") [.ref a,.ref b]) Q E s:=by
 obtain⟨_,us,n,r,_,e⟩:=I.lstM hH;obtain⟨_,us2,n2,r2,e2⟩:=hb.ok I.hok;rw[r.length,r2.length]at hz;have fits:Builtin.List.listTooLong (us.toArray.size+us2.toArray.size)=false:=notLongL (by simpa using hz);have len:(xs++zs).length≤sizeLine:=by simpa [r.length,r2.length]using hz
 refine call_meets PySem.F.slot_list_extend ⟨_,e,rfl⟩ PySem.F.entry_list_extend (PySem.F.args_list_extend_2 _ _) (AutoSeq1.list_extend_list_list_0 a us.toArray n b us2.toArray n2 (by rw[fits,Qt];decide) ?_ ?_) ⟨e,e2,k _ (I.lset (its':=us++us2) hH e (by simp) (r.append r2) len)⟩
 ·simp;omega
 ·simp;omega
theorem Reps.app{K:KW}{H:Hp}{vs ws:List V}{ds es:List Dat}(h:Reps K H vs ds)(h':Reps K H ws es):Reps K H (vs++ws) (ds++es):=h.append h'
theorem Aqm(hN:X.N[i]? = some x)(hv:Vis X.env.scope x)(hd:(x == ("__debug__" : Str))=false)(hcd:(x == ("__classdict__" : Str))=false)(he:QE X e n (RB X.kw) fe)(hbase:attributeBase (.Name x px) "extend" X.env (eval (.Name x px) X.env)=eval (.Name x px) X.env)
  (hfew:((backTo cpos (starEach [e] X.env)).all (λx=>!x.1) && (backToKw cpos (keywordEach [] X.env)).all (λx=>x.1.isSome)
   && decide ([e].length+([]:List Keyword).length+(if([]:List Keyword).isEmpty then 0 else 1) < 30))=true) (hline:(apos.endLine == cpos.line)=true) (hs:starEach [e] X.env=[(false,eval e X.env)]) :
  Q1 X (.Expr (.Call (.Attribute (.Name x px) "extend" apos) [e] [] cpos) pos) n (λδ D=>Dy δ i λx=>∃l,x = .lst l∧fe δ λd=>∃r,d = .lst r∧l.length+r.length≤big∧D.nx (δ.set i (.own (.lst (l++r))))):=λE hp pins s σ H0 H δ m D t I es ex pl hf=>by
 have hf:Dy δ i _:=hf;unfold Dy at hf
 split at hf
 ·rename_i d hi
  have hi:=Ja hi;obtain⟨l,rfl,hf⟩:=hf;obtain⟨a,xs,ha,hx,hz,hr,h0⟩:=es.ownAt hi;refine wpAny_Expr_any ?_ I.quiet rfl;refine wpAny_Call_method_late hbase hfew hline rfl (Je hN hv hd hcd I ha ?_);obtain⟨z,its,k,r,q⟩:=I.hok a _ hx;refine⟨"list", "list.extend", PySem.F.plainAttrs_list,PySem.F.slot_list_extend,PySem.F.type_list_extend,⟨_,q,rfl⟩,λb e=>(Value.ref.inj e) ▸ ⟨_,q,rfl⟩,?_⟩;rw[hs];refine Calls.callWith_builtin rfl (Calls.evalArgs_plain (Calls.spliced_cons (thn (he E pins s σ H δ m _ t I es.rep pl hf) λv s1 ⟨t1,y,H1,d,I1,r1,st1,b1,rr,ed,hl,q1⟩=>Calls.spliced_nil ?_)));subst ed;have hx1:H1 a=some (.lst xs):=st1.ext.keep hx λ_ q=>nomatch q
  have hr1:=Reps.ext st1.ext _ _ hr;have b1:BRep X.kw H1 y (.lst rr):=b1;obtain⟨b,zs,rfl,hb,hrb,hzb⟩:=b1.lstAt;have ss:=StepS.of ex st1
  cases r1
  have hle:xs.length+zs.length≤sizeLine:=by rw[hr1.length,hrb.length];exact hl
  refine Cr (X:=X) t1 (Ari (X:=X) (Q:=λ_ s2=>L2.Inv X pins σ (upd H1 a (.lst (xs++zs))) s2) I1 hx1 hb hle λs2 I2=>I2) λ_ s2 t2 I2=>?_
  exact⟨t2,σ,_,_,I2,(es.ext st1.ext).wr hi ha hx1 (by rw[Yzj];exact hl) (hr1.app hrb),(ss.trans (StepS.wr (o:=.lst _) ss.ext hx1 h0 λ_ q=>nomatch q)).mono (by omega),q1⟩
 ·exact hf.elim
theorem Aaj{l r:List Dat}{j:Int}{d:Dat}(h:Xd l j d=some r):∃k,ixN l.length j=some k∧r=l.set k d:=by
 unfold Xd at h;unfold ixN
 split at h
 ·rename_i h0
  split at h
  ·rename_i h1
   exact⟨_,by rw[if_pos h0,if_pos (by omega)],(Aj.inj h).symm⟩
  ·cases h
 ·rename_i h0
  split at h
  ·rename_i h1
   exact⟨_,by rw[if_neg h0,if_pos (by omega)],(Aj.inj h).symm⟩
  ·cases h
theorem Reps.set{K:KW}{H:Hp}{v:V}{d:Dat}(r:Rep K H v d):∀{vs:List V} {ds:List Dat} (k:Nat),Reps K H vs ds→Reps K H (vs.set k v) (ds.set k d)
 | [],[],_,h=>h
 | [],_::_,_,h=>by simp[Reps]at h
 | _::_,[],_,h=>by simp[Reps]at h
 | w::vs,c::ds,0,h=>by
  rw[Reps]at h;rw[Yze,Yze,Reps];exact⟨r,h.2⟩
 | w::vs,c::ds,k+1,h=>by
  rw[Reps]at h;rw[Yzf,Yzf,Reps];exact⟨h.1,Reps.set r k h.2⟩
variable{ix:Expr}{fx:Env→(Dat→Prop)→Prop}{spos:Pos}
theorem Aqd(hN:X.N[i]? = some x)(hv:Vis X.env.scope x)(hd:(x == ("__debug__" : Str))=false)(hcd:(x == ("__classdict__" : Str))=false)(he:QE X e n (RV X.kw) fe)(hx:QE X ix n' (RV X.kw) fx)(hsw:swapsWithSole [.Subscript (.Name x px) ix spos] e pos.line X.env=pure false)(hw:swappedStores [.Subscript (.Name x px) ix spos] e X.env=pure none)
  (h1:(assignEach [.Subscript (.Name x px) ix spos] X.env).map (·.2)=[assign (.Subscript (.Name x px) ix spos) X.env])
  (ha:∀v,assign (.Subscript (.Name x px) ix spos) X.env v=(do
   let ov ← holding [v] (eval (.Name x px) X.env)
   let iv ← holding [v,ov] (eval ix X.env)
   standAt spos
   holding [v,ov,iv] (setItem ov iv v)
   release [v,ov,iv] [])) :
  Q1 X (.Assign [.Subscript (.Name x px) ix spos] e pos) (n+n') (λδ D=>fe δ λd=>Dy δ i λx=>∃l,x = .lst l∧fx δ λk=>∃j r,k = .int j∧Xd l j d=some r∧D.nx (δ.set i (.own (.lst r)))):=λE hp pins s σ H0 H δ m D t I es ex pl hf=>by
 refine wpAny_Assign_stores (thn (he E pins s σ H δ (n'+m) _ t I es.rep (pl.mono (by omega)) hf) λv s1 ⟨t1,y,H1,d,I1,r1,st1,b1,q1⟩=>?_) hsw hw;rw[h1];show wpAny _ _ (assign (.Subscript (.Name x px) ix spos) X.env v) _ _ _
 have q1:Dy δ i _:=q1;unfold Dy at q1
 split at q1
 ·rename_i dd hi
  have hi:=Ja hi;obtain⟨l,rfl,q1⟩:=q1;have es1:=es.ext st1.ext;obtain⟨a,xs,hσ,hxs,hz,hr,h0⟩:=es1.ownAt hi;rw[ha];refine wpAny_bind (wpAny_holding (Je hN hv hd hcd I1 hσ ?_));refine wpAny_bind (wpAny_holding (thn (hx E pins s1 σ H1 δ m _ t1 I1 es1.rep (st1.pot _ (pl.mono (by omega))) q1) λiv s2 ⟨t2,y2,H2,d2,I2,r2,st2,b2,j,r,e2,hset,q2⟩=>?_));subst e2;have b2:Rep X.kw H2 y2 (.int j):=b2;rw[Rep]at b2;subst b2;obtain⟨k,hk,rfl⟩:=Aaj hset;have hxs2:H2 a=some (.lst xs):=st2.ext.keep hxs λ_ q=>nomatch q
  have hr2:=Reps.ext st2.ext _ _ hr;have b1':Rep X.kw H2 y d:=Rep.ext st2.ext _ _ b1;have ss:=(StepS.of ex st1).trans (StepS.of (ex.trans st1.ext) st2);refine wpAny_bind (wpAny_standAt (wpAny_bind (wpAny_holding (Cr (X:=X) t2 (set_list (X:=X.wish E) pins s2 σ H2 (.ref a) (.int j) y (.ref a) iv v (λH'=>H'=upd H2 a (.lst (xs.set k y))) (I2.wish E) rfl r2 r1 ⟨a,xs,j,k,rfl,rfl,hxs2,by rw[hr2.length];exact hk,rfl⟩) λ_ s3 t3 ⟨H3,I3,e3⟩=>?_))));subst e3;exact wpAny_release ⟨t3,σ,_,_,I3.unwish,(es1.ext st2.ext).wr hi hσ hxs2 (by rw[Ec];exact hz) (hr2.set b1' k),(ss.trans (StepS.wr (o:=.lst _) ss.ext hxs2 h0 λ_ q=>nomatch q)).mono (by omega),q2⟩
 ·exact q1.elim
end
end SF
namespace SF
open PySem PySem.Spec PyProof.Rows L2
variable[TN]
def RLc(K:KW):List Bool→Hp→Hp→List V→List Dat→Prop
 | [],H,H',[],[]=>Ext H H'
 | o::os,H,H',v::vs,d::ds=>∃H1,Ext H H1∧(if o=true then RO K H H1 v d else Rep K H1 v d)∧RLc K os H1 H' vs ds
 | _,_,_,_,_=>False
theorem RLc.ext{K:KW}:∀{os:List Bool} {H H':Hp} {vs:List V} {ds:List Dat},RLc K os H H' vs ds→Ext H H'
 | [],_,_,[],[],h=>h
 | o::os,_,_,v::vs,d::ds,⟨H1,e,_,h⟩=>e.trans h.ext
theorem RLc.len{K:KW}:∀{os:List Bool} {H H':Hp} {vs:List V} {ds:List Dat},RLc K os H H' vs ds→vs.length=os.length∧ds.length=os.length
 | [],_,_,[],[],h=>⟨rfl,rfl⟩
 | o::os,_,_,v::vs,d::ds,⟨H1,e,_,h⟩=>⟨congrArg (· + 1) h.len.1,congrArg (· + 1) h.len.2⟩
theorem RLc.at{K:KW}:∀{os:List Bool} {H H':Hp} {vs:List V} {ds:List Dat} {k:Nat} {v:V} {d:Dat},RLc K os H H' vs ds→os[k]? = some false→vs[k]? = some v→ds[k]? = some d→Rep K H' v d
 | [],_,_,[],[],k,v,d,h,h1,_,_=>by simp at h1
 | o::os,H,H',w::vs,c::ds,0,v,d,⟨H1,e,q,h⟩,h1,h2,h3=>by
  simp only[Yza,Aj.injEq]at h1 h2 h3;subst h1 h2 h3;exact Rep.ext h.ext _ _ q
 | o::os,H,H',w::vs,c::ds,k+1,v,d,⟨H1,e,q,h⟩,h1,h2,h3=>by
  simp only[Yzb]at h1 h2 h3;exact RLc.at h h1 h2 h3
theorem RLc.own{K:KW}:∀{os:List Bool} {H H':Hp} {vs:List V} {ds:List Dat} {k:Nat} {v:V} {d:Dat},RLc K os H H' vs ds→os[k]? = some true→vs[k]? = some v→ds[k]? = some d→Jt d=true→∃a,v = .ref a∧H a=none∧Own K H' a d
 | [],_,_,[],[],k,v,d,h,h1,_,_,_=>by simp at h1
 | o::os,H,H',w::vs,c::ds,0,v,d,⟨H1,e,q,h⟩,h1,h2,h3,hb=>by
  simp only[Yza,Aj.injEq]at h1 h2 h3;subst h1 h2 h3;have q:RO K H H1 _ _:=q;obtain⟨a,e1,e2,e3⟩:=q.fresh hb;exact⟨a,e1,e2,e3.ext h.ext⟩
 | o::os,H,H',w::vs,c::ds,k+1,v,d,⟨H1,e,q,h⟩,h1,h2,h3,hb=>by
  simp only[Yzb]at h1 h2 h3;obtain⟨a,e1,e2,e3⟩:=RLc.own h h1 h2 h3 hb;exact⟨a,e1,e.none e2,e3⟩
theorem RLc.dis{K:KW}:∀{os:List Bool} {H H':Hp} {vs:List V} {ds:List Dat} {k k':Nat} {v:V} {d d':Dat},RLc K os H H' vs ds→k < k'→os[k]? = some true→os[k']? = some true→vs[k]? = some v→ds[k]? = some d→ds[k']? = some d'→Jt d=true→Jt d'=true→vs[k']? ≠ some v
 | [],_,_,[],[],k,k',v,d,d',h,_,h1,_,_,_,_,_,_=>by simp at h1
 | o::os,H,H',w::vs,c::ds,0,k'+1,v,d,d',⟨H1,e,q,h⟩,_,h1,h1',h2,h3,h3',hb,hb'=>by
  simp only[Yza,Aj.injEq]at h1 h2 h3;subst h1 h2 h3;simp only[Yzb]at h1' h3' ⊢;have q:RO K H H1 _ _:=q;obtain⟨a,rfl,e2,e3⟩:=q.fresh hb;intro e4;obtain⟨b,e5,e6,_⟩:=RLc.own h h1' e4 h3' hb'
  cases e5
  cases c with
  | lst l=>obtain⟨vs,z,_⟩:=e3;rw[e6]at z;cases z
  | dic l=>obtain⟨vs,z,_⟩:=e3;rw[e6]at z;cases z
  | kd l=>obtain⟨vs,⟨_,z⟩,_⟩:=e3;rw[e6]at z;cases z
  | _=>exact e3.elim
 | o::os,H,H',w::vs,c::ds,k+1,k'+1,v,d,d',⟨H1,e,q,h⟩,lt,h1,h1',h2,h3,h3',hb,hb'=>by
  simp only[Yzb]at h1 h1' h2 h3 h3' ⊢;exact RLc.dis h (by omega) h1 h1' h2 h3 h3' hb hb'
structure Ready(K:KW)(H0 H:Hp)(σ:L2.St)(δ:Env)(os:List Bool)(vs:List V)(ds:List Dat):Prop where
 len:vs.length=os.length∧ds.length=os.length
 at_:∀(k:Nat) (v:V) (d:Dat),os[k]? = some false→vs[k]? = some v→ds[k]? = some d→Rep K H v d
 own:∀(k:Nat) (v:V) (d:Dat),os[k]? = some true→vs[k]? = some v→ds[k]? = some d→∃a,v = .ref a∧Own K H a d∧H0 a=none∧∀(j:Nat) (d':Dat),δ[j]? = some (Slot.own d')→σ[j]? ≠ some (some (.ref a))
 dis:∀(k k':Nat) (v:V),k≠k'→os[k]? = some true→os[k']? = some true→vs[k]? = some v→vs[k']? ≠ some v
theorem Ready.reverse{K:KW}{H0 H:Hp}{σ:L2.St}{δ:Env}{os:List Bool}{vs:List V}{ds:List Dat}(h:Ready K H0 H σ δ os vs ds):Ready K H0 H σ δ os.reverse vs.reverse ds.reverse:=by
 have lt:∀{α:Type} {l:List α} {k:Nat} {x:α},l.reverse[k]? = some x→k < l.length:=λ{α l k x} e=>by
  by_cases q:k < l.length
  ·exact q
  ·rw[Bq (by rw[Fp];omega)]at e;cases e
 refine⟨by rw[Fp,Fp,Fp];exact h.len,λk v d h1 h2 h3=>?_,λk v d h1 h2 h3=>?_,λk k' v hk h1 h1' h2 e=>?_⟩
 ·have l1:=lt h1;have l2:=lt h2;have l3:=lt h3
  rw[Bt l1]at h1;rw[Bt l2,h.len.1]at h2;rw[Bt l3,h.len.2]at h3;exact h.at_ _ v d h1 h2 h3
 ·have l1:=lt h1;have l2:=lt h2;have l3:=lt h3
  rw[Bt l1]at h1;rw[Bt l2,h.len.1]at h2;rw[Bt l3,h.len.2]at h3;exact h.own _ v d h1 h2 h3
 ·have l1:=lt h1;have l2:=lt h2;have l1':=lt h1';have l3:=lt e
  rw[Bt l1]at h1;rw[Bt l1']at h1';rw[Bt l2,h.len.1]at h2;rw[Bt l3,h.len.1]at e;exact h.dis _ _ v (by omega) h1 h1' h2 e
theorem RLc.ready{K:KW}{H0 H H':Hp}{σ:L2.St}{δ:Env}{os:List Bool}{vs:List V}{ds:List Dat}(h:RLc K os H H' vs ds)(ex:Ext H0 H)(es:EnvS K σ H0 H δ)(hb:((os.zip ds).all λp=>!p.1 || Jt p.2)=true):Ready K H0 H' σ δ os vs ds:=by
 have box:∀(k:Nat) (d:Dat),os[k]? = some true→ds[k]? = some d→Jt d=true:=λk d h1 h2=>by
  have hm:(true,d)∈os.zip ds:=by
   have e:(os.zip ds)[k]? = some (true,d):=by rw[Zy];exact⟨h1,h2⟩
   exact Ae e
  have:=Ai.mp hb _ hm
  simpa using this
 refine⟨h.len,λk v d h1 h2 h3=>h.at h1 h2 h3,λk v d h1 h2 h3=>?_,λk k' v hk h1 h1' h2 e=>?_⟩
 ·obtain⟨a,rfl,hn,ow⟩:=h.own h1 h2 h3 (box k d h1 h3)
  exact⟨a,rfl,ow,ex.none hn,es.apart hn⟩
 ·have lk:∀{k:Nat},os[k]? = some true→∃d,ds[k]? = some d:=λ{k} q=>by
   have l:k < os.length:=by
    by_cases z:k < os.length
    ·exact z
    ·rw[Bq (by omega)]at q;cases q
   exact⟨_,Ab (by rw[h.len.2];exact l)⟩
  obtain⟨d,hd⟩:=lk h1;obtain⟨d',hd'⟩:=lk h1'
  rcases Nat.lt_or_gt_of_ne hk with lt|lt
  ·exact h.dis lt h1 h1' h2 hd hd' (box _ _ h1 hd) (box _ _ h1' hd') e
  ·exact h.dis lt h1' h1 e hd' hd (box _ _ h1' hd') (box _ _ h1 hd) h2
def Rp(σ:L2.St):List Nat→List V→L2.St
 | i::is,v::vs=>Rp (σ.set i (some v)) is vs
 | _,_=>σ
theorem Ready.env{K:KW}{H0 H:Hp}:∀{os:List Bool} {is:List Nat} {vs:List V} {ds:List Dat} {σ:L2.St} {δ:Env},is.length=os.length→Ready K H0 H σ δ os vs ds→EnvS K σ H0 H δ→EnvS K (Rp σ is vs) H0 H (Kz os is ds δ)
 | [],[],[],[],σ,δ,hl,h,es=>es
 | [],[],_::_,_,σ,δ,hl,h,es=>by have:=h.len.1;simp at this
 | [],[],[],_::_,σ,δ,hl,h,es=>by have:=h.len.2;simp at this
 | _::_,_::_,[],_,σ,δ,hl,h,es=>by have:=h.len.1;simp at this
 | _::_,_::_,_::_,[],σ,δ,hl,h,es=>by have:=h.len.2;simp at this
 | o :: os,i::is,v::vs,d::ds,σ,δ,hl,h,es=>by
  rw[Rp,Kz];have hl':is.length=os.length:=by simpa using hl
  have tl:vs.length=os.length∧ds.length=os.length:=by have:=h.len;simpa using this
  cases o with
  | false=>
   have r:Rep K H v d:=h.at_ 0 v d rfl rfl rfl;refine Ready.env hl' ⟨tl,λk w c h1 h2 h3=>h.at_ (k+1) w c h1 h2 h3,λk w c h1 h2 h3=>?_,λk k' w hk h1 h1' h2=>h.dis (k+1) (k'+1) w (by omega) h1 h1' h2⟩ (es.kp (es.rep.set i (s:=.val d) r) (Kp.set σ δ i (some v) d));obtain⟨a,e1,e2,e3,e4⟩:=h.own (k+1) w c h1 h2 h3;refine⟨a,e1,e2,e3,λj d' hj=>?_⟩;obtain⟨h5,h6⟩:=(Kp.set σ δ i (some v) d).1 j d' hj;rw[h6];exact e4 j d' h5
  | true=>
   obtain⟨a,rfl,e2,e3,e4⟩:=h.own 0 v d rfl rfl rfl;refine Ready.env hl' ⟨tl,λk w c h1 h2 h3=>h.at_ (k+1) w c h1 h2 h3,λk w c h1 h2 h3=>?_,λk k' w hk h1 h1' h2=>h.dis (k+1) (k'+1) w (by omega) h1 h1' h2⟩ (es.own i e2 e3 e4);obtain⟨b,rfl,f2,f3,f4⟩:=h.own (k+1) w c h1 h2 h3;refine⟨b,rfl,f2,f3,λj d' hj=>?_⟩;rw[Be]at hj ⊢;by_cases q:i=j
   ·subst q
    by_cases l:i < σ.length
    ·simp only[if_true,l]
     intro e5;have e6:V.ref a=V.ref b:=by simpa using e5
     exact h.dis 0 (k+1) (.ref a) (by omega) rfl h1 rfl (by rw[e6];exact h2)
    ·have l':¬ i < δ.length:=by rw[← es.rep.1];exact l
     simp[l']at hj
   ·simp only[q,if_false]at hj ⊢
    exact f4 j d' hj
section
variable{X:Cx}
def QPar(X:Cx)(es:List Expr)(os:List Bool)(n:Nat)(f:Env→(List Dat→Prop)→Prop):Prop:=
 ∀(pos:Pos) (E:Value→Shared→Prop) (pins:List (Addr×Obj)) (s:Shared) (σ:L2.St) (H:Hp) (δ:Env) (m:Nat) (Φ:List Dat→Prop),0 < s.toks→L2.Inv X pins σ H s→EnvRep X.kw σ H δ→PotLe (n+m) H→f δ Φ →
  wpAny (model X.prog X.w) X.A (spliced (backTo pos (starEach es X.env))) (λus s'=>0 < s'.toks∧∃vs H' ds,L2.Inv X pins σ H' s'∧L2.Vals vs us∧Step n H H'∧RLc X.kw os H H' vs ds∧Φ ds) E s
variable{e:Expr}{es:List Expr}{os:List Bool}{n n':Nat}{fa:Env→(Dat→Prop)→Prop}{fs:Env→(List Dat→Prop)→Prop}
theorem qpar_nil:QPar X [] [] 0 (λ_ Q=>Q []):=λpos E pins s σ H δ m Φ ht I er pl hf=>Calls.spliced_nil ⟨ht,[],H,[],I,.nil,Step.refl H,Ext.refl H,hf⟩
theorem Af5(o:Bool)(ha:QE X e n (if o=true then ROw X.kw else RV X.kw) fa)(hr:QPar X es os n' fs)(hs:starEach (e::es) X.env=(false,eval e X.env)::starEach es X.env):QPar X (e::es) (o::os) (n+n') (λδ Q=>fa δ λd=>fs δ λds=>Q (d::ds)):=λpos E pins s σ H δ m Φ ht I er pl hf=>by
 rw[hs];show wpAny _ _ (spliced ((false,eval e X.env)::backTo pos (starEach es X.env))) _ _ s
 refine Calls.spliced_cons (thn (ha E pins s σ H δ (n'+m) _ ht I er (pl.mono (by omega)) hf) λu s1 ⟨t1,x,H1,dx,I1,r1,st1,b1,q1⟩=>?_);refine thn (hr pos E pins s1 σ H1 δ m _ t1 I1 (er.ext st1.ext) (st1.pot _ (pl.mono (by omega))) q1) λus s2 ⟨t2,vs,H2,ds,I2,r2,st2,b2,q2⟩=>⟨t2,x::vs,H2,dx::ds,I2,.cons r1 r2,st1.trans st2,⟨H1,st1.ext,?_,b2⟩,q2⟩
 cases o with
 | true=>exact b1
 | false=>exact b1
theorem Acf{pins:List (Addr×Obj)}{H:Hp}{E:Value→Shared→Prop}{Q:Unit→Shared→Prop}(hN:X.N.Nodup)(xs:List Str):∀(is:List Nat) (vs:List V) (us:List Value) (s:Shared) (σ:L2.St),is.length=xs.length→vs.length=xs.length→(∀(k:Nat) (i:Nat) (x:Str),is[k]? = some i→xs[k]? = some x→X.N[i]? = some x∧X.env.scope.names.lookup x=some .local)→L2.Vals vs us→L2.Inv X pins σ H s→0 < s.toks →
  (∀s',0 < s'.toks→L2.Inv X pins (Rp σ is vs) H s'→Q () s')→wpAny (model X.prog X.w) X.A (assignInOrder (xs.map λx=>bindName X.env x) us) Q E s:=by
 induction xs with
 | nil=>
  intro is vs us s σ h1 h2 hx rs I t k;have e1:is=[]:=Ci h1;have e2:vs=[]:=Ci h2;subst e1 e2
  cases rs
  exact assignInOrder_nil (k s t I)
 | cons x xs ih=>
  intro is vs us s σ h1 h2 hx rs I t k
  match is,vs,h1,h2 with
  | i::is,v::vs,h1,h2=>
   cases rs with
   | cons r rs=>
    obtain⟨hi,hl⟩:=hx 0 i x rfl rfl;rw[Yzs];refine assignInOrder_cons (wpAny_bindName (Cr (X:=X) t (store_ok (Q:=λ_ s2=>L2.Inv X pins (σ.set i (some v)) H s2) I hN hi (.inl hl) r (λs2 I2=>I2) (.inr hl)) λ_ s2 t2 I2=>?_));exact ih is vs _ s2 _ (by simpa using h1) (by simpa using h2) (λk i x a b=>hx (k+1) i x a b) rs I2 t2 k
theorem Aqh{is:List Nat}{xs:List Str}{ts:List Expr}{kt k2:Nat}{pt pt2 pos:Pos}(hc:X.calm=true)(hN:X.N.Nodup)(hil:is.length=xs.length)(hol:os.length=xs.length)(hx:∀(k:Nat) (i:Nat) (x:Str),is[k]? = some i→xs[k]? = some x→X.N[i]? = some x∧X.env.scope.names.lookup x=some .local)(hl:es.length≤3)(hlx:xs.length=es.length)
  (ha:QPar X es os n fs) (hw:swappedStores [.Tuple ts kt pt] (.Tuple es k2 pt2) X.env=pure (some xs)) (hs:swapsWithSole [.Tuple ts kt pt] (.Tuple es k2 pt2) pos.line X.env=pure false) :
  Q1 X (.Assign [.Tuple ts kt pt] (.Tuple es k2 pt2) pos) n (λδ D=>fs δ λds=>((os.zip ds).all λp=>!p.1 || Jt p.2)=true∧D.nx (Kz os.reverse is.reverse ds.reverse δ)):=λE hp pins s σ H0 H δ m D t I ess ex pl hf=>by
 rw[exec_Assign_arm];refine wpAny_bind (wpAny_standAt ?_);rw[hs];refine wpAny_bind (wpAny_pure ?_);rw[if_neg (by decide)];refine wpAny_bind (wpAny_Tuple_spliced (thn (ha _ E pins s σ H δ m _ t I ess.rep pl hf) λus s1 ⟨t1,vs,H1,ds,I1,r1,st1,b1,hb,q1⟩=>?_));have hvl:vs.length=xs.length:=by rw[b1.len.1,hol]
 have hul:us.length=xs.length:=by rw[← r1.length,hvl]
 have h3:us.length≤sizeLine:=by rw[hul,hlx];exact Bo hl (by decide)
 refine⟨h3,?_⟩;have I2:L2.Inv X pins σ H1 { s1 with heap:=s1.heap.push { cls:=.type "tuple", data:=.seq us.toArray } }:=I1.kept (t':=s1.toks) λb o e=>Heap.get?_push_of_some _ e
 rw[hw];refine wpAny_bind (wpAny_pure ?_);show wpAny (model X.prog X.w) X.A (do rule "assign.swapped-stores"; let items ← unpackItems (.ref s1.heap.objs.size) xs.length none;assignInOrder (xs.reverse.map λn=>bindName X.env n) items.reverse;pure Flow.next) _ _ _
 refine wpAny_bind (wpAny_rule (wpAny_bind ?_));rw[← hul];have ez:us.length=us.toArray.size:=by simp
 rw[ez];refine unpackItems_tuple (items:=us.toArray) (I.ok.hd hc) (IsTup.new s1.heap _) λh' hx'=>?_
 have I3:=I2.kept (h':=h') (t':=s1.toks) λb o e=>hx' b o (Cp (Heap.lt_size e)) e
 have ready:=(b1.ready ex ess hb).reverse;have es1:=(ess.ext st1.ext);refine wpAny_bind ?_;have eu:us.toArray.toList.reverse=us.reverse:=by simp
 rw[eu];refine Acf (H:=H1) hN xs.reverse is.reverse vs.reverse us.reverse _ σ (by simpa using hil) (by simpa using hvl) (λk i x h1 h2=>?_) r1.reverse I3 t1 λs4 t4 I4=>wpAny_pure ⟨t4,_,H1,_,I4,ready.env (by rw[Fp,Fp,hil,hol]) es1,.of ex st1,q1⟩
 have l1:k < is.length:=by
  by_cases q:k < is.length
  ·exact q
  ·rw[Bq (by rw[Fp];omega)]at h1;cases h1
 rw[Bt l1]at h1;rw[Bt (by omega),← hil]at h2;exact hx _ i x h1 h2
end
end SF
namespace SF
open PySem PySem.Spec PyProof.Rows L2
variable[TN]
def LCR(X:Cx)(elt iter:Expr)(gs:List Comprehension)(scope:Scope)(n:Nat)(F:Env→(List Dat→Prop)→Prop):Prop:=
 ∀ ⦃pins:List (Addr×Obj)⦄ ⦃s:Shared⦄ ⦃σ:L2.St⦄ ⦃H:Hp⦄ ⦃δ:Env⦄ ⦃m:Nat⦄ ⦃Φ:List Dat→Prop⦄ ⦃pos pos':Pos⦄ ⦃use:Option (Value→Sem Unit)⦄ ⦃Qf:Value→Shared→Prop⦄ ⦃E:Value→Shared→Prop⦄,
  0 < s.toks→L2.Inv X pins σ H s→EnvRep X.kw σ H δ→PotLe (n+m) H→F δ Φ →
  (∀D C s' m' H' ys,0 < s'.toks→L2.Inv X pins σ H' s'→Step n H H'→H D=none→Own X.kw H' D (.lst ys)→Φ ys→s'.heap.Ns C m'→FpOk X pins H' C→compPost (model X.prog X.w) X.A E use Qf (.ref D) C (.ok .next) s') →
  wpAny (model X.prog X.w) X.A (comprehension (.ListComp elt gs scope pos) scope X.env pos' (newList []) false (eval iter X.env) use) Qf E s
theorem LCR.cg{X:Cx}{elt iter:Expr}{gs:List Comprehension}{scope:Scope}{n n':Nat}{F F':Env→(List Dat→Prop)→Prop}(h:LCR X elt iter gs scope n F)(hn:n≤n')(e:∀ δ Q,F' δ Q→F δ Q):LCR X elt iter gs scope n' F':=
 λpins s σ H δ m Φ pos pos' use Qf E t I er pl hf k=>h (m:=m) t I er (pl.mono (by omega)) (e _ _ hf) λD C s' m' H' ys t' I' st hD ow q hn' f=>k D C s' m' H' ys t' I' (st.mono hn) hD ow q hn' f
section
variable{X:Cx}{elt iter:Expr}{g0:Comprehension}{gs:List Comprehension}{scope:Scope}{pos cpos:Pos}{n:Nat}{F:Env→(List Dat→Prop)→Prop}{i:Nat}{x:Str}{px:Pos}
theorem Ap1(R:LCR X elt iter gs scope n F)(hgi:∀use,comprehension (.ListComp elt gs scope pos) scope X.env (firstIterPos gs pos) (newList []) false (eval iter X.env) use=comprehension (.ListComp elt gs scope pos) scope X.env (firstIterPos gs pos) (newList []) false (eval iter X.env) use)
  (hev:eval (.ListComp elt gs scope pos) X.env=comprehension (.ListComp elt gs scope pos) scope X.env (firstIterPos gs pos) (newList []) false (eval iter X.env) none) :
  QE X (.ListComp elt gs scope pos) n (ROw X.kw) (λδ Q=>F δ λys=>Q (.lst ys)):=λE pins s σ H δ m Φ t0 I er pl hf=>by
 rw[hev];refine R t0 I er pl hf λD C s' m' H' ys t' I' st hD ow q hn f=>⟨m',hn,λh'' sb=>?_⟩
 obtain⟨f0,f1,f2,f3,f4,f5⟩:=f;exact⟨t',.ref D,H',.lst ys,I'.turned (t':=s'.toks) (λb o hb e=>(sb.2 b hb).trans e) f0 f1 f3 f4 f5,rfl,st,.inl ⟨D,rfl,hD,ow⟩,q⟩
theorem Aej{pins:List (Addr×Obj)}{s:Shared}{σ:L2.St}{H0 H:Hp}{δ:Env}{m:Nat}{D:Post}{Φ:List Dat→Prop}{E:Value→Shared→Prop}(hN:X.N.Nodup)(hy:X.N[i]? = some x)(hyl:X.env.scope.names.lookup x=some .local)
  (hex:PySem.exec (.Assign [.Name x px] (.ListComp elt gs scope cpos) pos) X.env=(do
   standAt pos
   (do let _ ← comprehension (.ListComp elt gs scope cpos) scope X.env (firstIterPos gs cpos) (newList []) false (eval iter X.env) (some (assign (.Name x px) X.env)))
   pure Flow.next))
  (R:LCR X elt iter gs scope n F)
  (t:0 < s.toks) (I:L2.Inv X pins σ H s) (es:EnvS X.kw σ H0 H δ) (ex:Ext H0 H) (pl:PotLe (n+m) H) (hf:F δ Φ)
  (k:∀ys σ' H' s',0 < s'.toks→L2.Inv X pins σ' H' s'→EnvS X.kw σ' H0 H' (δ.set i (.own (.lst ys)))→StepS n H0 H H'→Φ ys→SO X pins n H0 H D .next s') :
  wpAny (model X.prog X.w) X.A (PySem.exec (.Assign [.Name x px] (.ListComp elt gs scope cpos) pos) X.env) (SO X pins n H0 H D) E s:=by
 rw[hex];refine wpAny_bind (wpAny_standAt (wpAny_bind (wpAny_bind ?_)));refine thn (R (Qf:=λ_ s'=>SO X pins n H0 H D .next s') t I es.rep pl hf λL C s' m' H' ys t' I' st hL ow q hn f=>?_) λ_ s' hq=>wpAny_pure (wpAny_pure hq)
 show wpAny _ _ (assign (.Name x px) X.env (.ref L)) _ _ _
 refine wpAny_assign_Name ?_;refine Cr (X:=X) t' (store_ok2 (Q:=λ_ s2=>L2.Inv X pins (σ.set i (some (.ref L))) H' s2∧∃a,Heap.SameBut a s'.heap s2.heap∧(a=X.env.locals∨X.env.cells.lookup x=some a)) (v:=V.ref L) I' hN hy (.inl hyl) rfl (λs2 I2 ha=>⟨I2,ha⟩) (.inr hyl)) λ_ s2 t2 ⟨I2,a,sb,ha⟩=>?_
 obtain⟨f0,f1,f2,f3,f4,f5⟩:=f;have haC:C≠a:=by
  rcases ha with z|z
  ·rw[z];exact f1
  ·exact λe=>f4 x a z e.symm
 refine⟨m',hn.sameBut sb haC,λh3 sb3=>?_⟩;exact k ys _ H' _ t2 (I2.turned (t':=s2.toks) (λb o hb e=>(sb3.2 b hb).trans e) f0 f1 f3 f4 f5) ((es.ext st.ext).own i ow (ex.none hL) (es.apart hL)) (.of ex st) q
theorem Aex{tg:Expr}{ifs:List Expr}(hsw:swapsWith (.ListComp elt (⟨tg,iter,ifs,0⟩::gs) scope cpos) (some (.Name x px)) pos.line X.env=pure true) :
  PySem.exec (.Assign [.Name x px] (.ListComp elt (⟨tg,iter,ifs,0⟩::gs) scope cpos) pos) X.env=(do
   standAt pos
   (do let _ ← comprehension (.ListComp elt (⟨tg,iter,ifs,0⟩::gs) scope cpos) scope X.env (firstIterPos (⟨tg,iter,ifs,0⟩::gs) cpos) (newList []) false (eval iter X.env) (some (assign (.Name x px) X.env)))
   pure Flow.next):=by
 rw[exec_Assign_Name_used _ _ _ _ hsw];rfl
theorem Amm(hN:X.N.Nodup)(hy:X.N[i]? = some x)(hyl:X.env.scope.names.lookup x=some .local)
  (hex:PySem.exec (.Assign [.Name x px] (.ListComp elt gs scope cpos) pos) X.env=(do
   standAt pos
   (do let _ ← comprehension (.ListComp elt gs scope cpos) scope X.env (firstIterPos gs cpos) (newList []) false (eval iter X.env) (some (assign (.Name x px) X.env)))
   pure Flow.next))
  (R:LCR X elt iter gs scope n F) :
  Q1 X (.Assign [.Name x px] (.ListComp elt gs scope cpos) pos) n (λδ D=>F δ λys=>Jt (.lst ys)=true∧D.nx (δ.set i (.own (.lst ys)))):=λE hE pins s σ H0 H δ m D t I es ex pl hf=>
 Aej hN hy hyl hex R t I es ex pl hf λys σ' H' s' t' I' es' st q=>⟨t',σ',H',_,I',es',st,q.2⟩
theorem Aml(hN:X.N.Nodup)(hy:X.N[i]? = some x)(hyl:X.env.scope.names.lookup x=some .local)
  (hex:PySem.exec (.Assign [.Name x px] (.ListComp elt gs scope cpos) pos) X.env=(do
   standAt pos
   (do let _ ← comprehension (.ListComp elt gs scope cpos) scope X.env (firstIterPos gs cpos) (newList []) false (eval iter X.env) (some (assign (.Name x px) X.env)))
   pure Flow.next))
  (R:LCR X elt iter gs scope n F) :
  Q1 X (.Assign [.Name x px] (.ListComp elt gs scope cpos) pos) n (λδ D=>F δ λys=>D.nx (δ.set i (.val (.lst ys)))):=λE hE pins s σ H0 H δ m D t I es ex pl hf=>
 Aej hN hy hyl hex R t I es ex pl hf λys σ' H' s' t' I' es' st q=>by
  have lt:i < δ.length:=by
   rw[← es.rep.1,I.len];exact(Ag.mp hy).1
  have hi':(δ.set i (.own (.lst ys)))[i]? = some (Slot.own (.lst ys)):=by rw[Be];simp[lt]
  obtain⟨a,xs,ha,hx,hz,hr,h0⟩:=es'.ownAt hi';obtain⟨o,I2⟩:=Wh I' hx;have st2:=StepS.wr (o:=.frz o (.lst xs)) st.ext hx h0 (λ_ q=>nomatch q);have es2:=es'.frz (o:=o) hi' ha hx hz hr;rw[List.set_set]at es2;exact⟨t',σ',_,_,I2,es2,(st.trans st2).mono (by omega),q⟩
end
theorem EnvRep.wr{K:KW}{σ:L2.St}{H:Hp}{δ:Env}{D:Addr}{xs:List V}(er:EnvRep K σ H δ)(hD:H D=some (.lst xs))(ap:∀(j:Nat) (d:Dat),δ[j]? = some (Slot.own d)→σ[j]? ≠ some (some (.ref D)))(o:HO):EnvRep K σ (L2.upd H D o) δ:=by
 refine⟨er.1,λj s h=>?_⟩;have sr:=er.2 j s h
 cases s with
 | no=>trivial
 | val d=>
  obtain⟨v,q,sr⟩:=sr.valAt;rw[q];exact Rep.wr (.inl ⟨_,rfl⟩) _ hD _ _ sr
 | own d=>
  have ne:=ap j d h;obtain⟨b,q,ow⟩:=sr.ownAt;rw[q];refine⟨b,rfl,ow.imp λd ow=>?_⟩
  cases d with
  | lst l=>
   obtain⟨vs,h1,h2,h3⟩:=ow;refine⟨vs,?_,h2,Reps.wr (.inl ⟨_,rfl⟩) _ hD _ _ h3⟩;rw[upd_ne (λe=>by subst e;exact ne q)];exact h1
  | dic l=>
   obtain⟨vs,h1,h2,h3⟩:=ow;refine⟨vs,?_,h2,RepKv.wr (.inl ⟨_,rfl⟩) _ hD _ _ h3⟩;rw[upd_ne (λe=>by subst e;exact ne q)];exact h1
  | kd l=>
   obtain⟨vs,⟨hm,h1⟩,h2,nd,h3⟩:=ow;refine⟨vs,⟨hm,?_⟩,h2,nd,RepKd.wr (.inl ⟨_,rfl⟩) _ hD _ _ h3⟩;rw[upd_ne (λe=>by subst e;exact ne q)];exact h1
  | _=>exact ow.elim
theorem ExtS.wr{H0 H:Hp}{D:Addr}{xs ys:List V}(e:ExtS H0 H)(hD:H D=some (.lst xs)):ExtS H0 (L2.upd H D (.lst ys)):=λa o h=>by
 by_cases ha:a=D
 ·subst ha
  rcases e a o h with q|q|⟨⟨z,q⟩,z',q'⟩|⟨⟨z,q⟩,z',q'⟩
  ·exact .inl q
  ·rw[hD]at q;cases q;exact .inl (.inl ⟨xs,rfl⟩)
  ·rw[hD]at q';exact absurd (Aj.inj q') (λw=>nomatch w)
  ·rw[hD]at q';exact absurd (Aj.inj q') (λw=>nomatch w)
 ·rw[upd_ne ha]
  exact e a o h
theorem Ab8{σ τ:L2.St}{ov vs:List Nat}(e:wipe τ ov=σ)(sub:∀i∈vs,i∈ov):σ.length=τ.length∧(∀(j:Nat) v,σ[j]? = some (some v)→τ[j]? = some (some v))∧∀(j:Nat) v,σ[j]? = some (some v)→(wipe τ vs)[j]? = some (some v):=by
 subst e;exact⟨wipe_length _ _,λj v q=>(wipe_some q).1,λj v q=>(wipe_out λz=>(wipe_some q).2 (sub j z)).trans (wipe_some q).1⟩
def Hf(p:P)(δ0:Env)(ft:Env→(Bool→Prop)→Prop)(B:Nat)(fi1:Env→(Dat→Prop)→Prop)(p1:P)(ft1:Env→(Bool→Prop)→Prop)(fe:Env→(Dat→Prop)→Prop)(d:Dat)(K:List Dat→Prop):Prop:=
 Cz p d δ0 λδ'=>ft δ' λk=>if k=true then fi1 δ' λx=>∃ds,Di x=some ds∧ds.length≤B∧Ff (Eo p1 (Bb δ' (Dm p1)) ft1 fe) ds K else K []
section
variable{X:Cx}
theorem Am6{elt tg iter tg1 iter1:Expr}{ifs ifs1:List Expr}{scope:Scope}{own:List (Str×Nat)}{p p1:P}{z z1:Bool}{n n1 n2 n3 n4:Nat}{fi fi1 fe:Env→(Dat→Prop)→Prop}{ft ft1:Env→(Bool→Prop)→Prop}
  (hc:X.calm=true) (hN:X.N.Nodup) (hi:QI X tg iter n true z fi) (ok:BlkOk X.N X.env.scope scope own) (hz:z=true→isT p=true) (hz1:z1=true→isT p1=true) (hv:∀i∈Dm p,i∈own.map (·.2)) (hv1:∀i∈Dm p1,i∈own.map (·.2))
  (hg:∀(s:Shared) (H:Hp) (C:Addr) (cl:List (Str×Addr)) (fp:List Addr),K8 (X.blk s H scope (compEnvC scope cl C X.env) fp) tg p) (ht:∀(s:Shared) (H:Hp) (C:Addr) (cl:List (Str×Addr)) (fp:List Addr),QTs (X.blk s H scope (compEnvC scope cl C X.env) fp) ifs n1 ft)
  (hi1:∀(s:Shared) (H:Hp) (C:Addr) (cl:List (Str×Addr)) (fp:List Addr),QI (X.blk s H scope (compEnvC scope cl C X.env) fp) tg1 iter1 n3 false z1 fi1)
  (hg1:∀(s:Shared) (H:Hp) (C:Addr) (cl:List (Str×Addr)) (fp:List Addr),K8 (X.blk s H scope (compEnvC scope cl C X.env) fp) tg1 p1) (ht1:∀(s:Shared) (H:Hp) (C:Addr) (cl:List (Str×Addr)) (fp:List Addr),QTs (X.blk s H scope (compEnvC scope cl C X.env) fp) ifs1 n4 ft1)
  (he:∀(s:Shared) (H:Hp) (C:Addr) (cl:List (Str×Addr)) (fp:List Addr),QE (X.blk s H scope (compEnvC scope cl C X.env) fp) elt n2 (RV X.kw) fe) (hs:∀x,foldedSetIterable iter X.env x=pure x) (hs1:∀env x,foldedSetIterable iter1 env x=pure x) (mfi:∀ δ,Bj (fi δ)) (mfi1:∀ δ,Bj (fi1 δ)) :
  LCR X elt iter [⟨tg,iter,ifs,0⟩,⟨tg1,iter1,ifs1,0⟩] scope (n+sizeLine*(n1+(n3+sizeLine*(n4+n2)))) (λδ Q=>fi δ λx=>∃ds B,Di x=some ds∧ds.length*B≤big∧Ii (Hf p (Bb δ (own.map (·.2))) ft B fi1 p1 ft1 fe) ds Q):=by
 intro pins s σ H δ m Φ pos pos' use Qf E t0 I er pl h hRR;refine Ae2 (Go:=λJ H2=>Step n H H2∧∃ds B,Wlk X.kw true z H2 ds J∧ds.length≤sizeLine∧ds.length*B≤big∧Ii (Hf p (Bb δ (own.map (·.2))) ft B fi1 p1 ft1 fe) ds Φ) hN I ok hs (thn (hi E pins s σ H δ (sizeLine*(n1+(n3+sizeLine*(n4+n2)))+m) (λx=>∃ds B,Di x=some ds∧ds.length*B≤big∧Ii (Hf p (Bb δ (own.map (·.2))) ft B fi1 p1 ft1 fe) ds Φ) t0 I er (pl.mono (by omega)) (mfi δ _ _ (λx ⟨ds,B,q1,q2,q3⟩=>⟨⟨ds,q1⟩,ds,B,q1,q2,q3⟩) h)) λv s1 h1=>thn h1 λitv s2 h2=>?_) ?_
 ·obtain⟨t2,it,fp,tn,J,H2,d,ds,e,I2,T,st,f,stp,wk,hl,hd,ds',B,hd',hB,q⟩:=h2
  rw[hd]at hd'
  cases hd'
  exact⟨it,fp,tn,J,H2,e,t2,I2,T,st,f,stp,ds,B,wk,hl,hB,q⟩
 rintro it fp tn J H2 D s3 s4 ce ⟨stp,ds,B,wk,hlen,hB,q⟩ T hDn c st4 t4;obtain⟨C,cl,rfl⟩:=c.made;have pg:=hg s3 (L2.upd H2 D (.lst [])) C cl fp;have pt:=ht s3 (L2.upd H2 D (.lst [])) C cl fp;have pe:=he s3 (L2.upd H2 D (.lst [])) C cl fp;have pi1:=hi1 s3 (L2.upd H2 D (.lst [])) C cl fp;have pg1:=hg1 s3 (L2.upd H2 D (.lst [])) C cl fp;have pt1:=ht1 s3 (L2.upd H2 D (.lst [])) C cl fp;have nfp:∀b∈fp,(L2.upd H2 D (.lst [])) b=none:=λb hb=>(c.own b hb).1
 generalize compEnvC scope cl C X.env=ce at c pg pt pe pi1 pg1 pt1 ⊢;have stH3:Step 0 H2 (L2.upd H2 D (.lst [])):=(Step.refl H2).wrote hDn (.none hDn);have eD:(L2.upd H2 D (.lst [])) D=some (.lst []):=upd_same;generalize L2.upd H2 D (.lst [])=H3 at c pg pt pe pi1 pg1 pt1 nfp stH3 eD;have I4:=c.inn;have er0:EnvRep X.kw (wipe σ (own.map (·.2))) H2 (Bb δ (own.map (·.2))):=(er.ext stp.ext).wipe _;have ap0:∀(j:Nat) (d:Dat),(Bb δ (own.map (·.2)))[j]? = some (Slot.own d)→(wipe σ (own.map (·.2)))[j]? ≠ some (some (.ref D)):=λj d hj he'=>by
  obtain⟨b,q1,ow⟩:=(er0.2 j _ hj).ownAt;rw[he']at q1
  cases q1
  obtain⟨d,ow⟩:=ow.box
  cases d with
  | lst l=>obtain⟨vs,h1,_⟩:=ow;rw[hDn]at h1;cases h1
  | dic l=>obtain⟨vs,h1,_⟩:=ow;rw[hDn]at h1;cases h1
  | kd l=>obtain⟨vs,⟨_,h1⟩,_⟩:=ow;rw[hDn]at h1;cases h1
  | _=>exact ow.elim
 have plB:PotLe (sizeLine*(n1+(n3+sizeLine*(n4+n2)))) H2:=stp.pot _ (pl.mono (by omega));generalize own.map (·.2)=ov at *;generalize hc1:n1+(n3+sizeLine*(n4+n2))=c1 at *;refine compLoop2_out (hs1 ce) (λk s'=>∃i H' acc ys,0 < s'.toks∧L2.Inv (X.blk s3 H3 scope ce fp) [] (wipe σ ov) H' s'∧tn i s'.heap∧(∀b∈fp,H' b=none)∧k=ds.length - i∧i≤ds.length∧Step (i*c1) H2 H'∧H' D=some (.lst acc)∧Reps X.kw H' acc ys∧ys.length≤i*B ∧
  Ii (Hf p (Bb δ ov) ft B fi1 p1 ft1 fe) (ds.drop i) λr=>Φ (ys++r)) ?_ ds.length ⟨0,H3,[],[],t4,I4,st4,nfp,rfl,Am _,by rw[Dc];exact stH3,eD,by rw[Reps];trivial,Am _,q⟩
 rintro k s5 ⟨i,H5,acc,ys,t5,I5,st5,n5,rfl,hik,sp5,hD5,ra5,hy5,q5⟩;by_cases hlt:i < ds.length
 ·have hx:ds[i]? = some ds[i]:=Ab hlt
  have e0:ds.drop i=ds[i]::ds.drop (i+1):=Ds hlt;rw[e0]at q5;have ti:=T.item (X.blk s3 H3 scope ce fp) rfl rfl rfl hc i [] s5 _ H5 (λ_ _=>False) I5 (Jo I5 n5) st5 (wk.go H5 i (EXr.of sp5.ext) hlt);refine thnF (tkF (X:=X) t5 ti) λr s6 ⟨t6,u,hr,h6⟩=>?_
  subst hr;refine thnF (tkF (X:=X) t6 h6) λ_ s7 ⟨t7,x,H7,I7,r7,y7,st7,n7⟩=>?_
  obtain⟨sp7,yr⟩:=wk.yld H5 i x H7 _ (EXr.of sp5.ext) hx y7;have I7':=I7.pinned (Jo I7 n7) (T.obj _ _ st7);have sp7':Step (i*c1) H2 H7:=(sp5.trans sp7).mono (by omega);have q5:Hf p (Bb δ ov) ft B fi1 p1 ft1 fe ds[i] _:=q5;unfold Hf at q5;refine thnF (Nr hz pg t7 I7' (er0.ext sp7'.ext) r7 yr q5) λ_ s8 ⟨t8,σ8,δ8,I8,er8,q8,k8⟩=>?_
  have hle:(i+1)*c1≤sizeLine*c1:=Ba _ (by omega);rw[Ay]at hle;refine thnF (pt _ _ s8 σ8 H7 δ8 (n3+sizeLine*(n4+n2)) _ t8 I8 er8 (sp7'.pot _ (plB.mono (by omega))) q8) λb s9 ⟨t9,H9,I9,sp9,q9⟩=>?_
  have wst:wipe σ8 ov=wipe σ ov:=by
   rw[k8.2 ov hv,Lf]
  have hmb:(i+1)*B≤big:=Bo (Ba _ hlt) hB;rw[Ay]at hmb;have fin:∀{σ9:L2.St} {s':Shared} {H':Hp} {acc':List V} {ys':List Dat},0 < s'.toks→L2.Inv (X.blk s3 H3 scope ce fp) ([]++pinsAt fp s7.heap) σ9 H' s'→(wipe σ ov).length=σ9.length→(∀(j:Nat) v,(wipe σ ov)[j]? = some (some v)→σ9[j]? = some (some v)) →
    Step ((i+1)*c1) H2 H'→H' D=some (.lst acc')→Reps X.kw H' acc' ys'→ys'.length≤(i+1)*B→Ii (Hf p (Bb δ ov) ft B fi1 p1 ft1 fe) (ds.drop (i+1)) (λr=>Φ (ys'++r)) →
    ∃m,m < ds.length - i∧∃i H' acc ys,0 < s'.toks∧L2.Inv (X.blk s3 H3 scope ce fp) [] (wipe σ ov) H' s'∧tn i s'.heap∧(∀b∈fp,H' b=none)∧m=ds.length - i∧i≤ds.length∧Step (i*c1) H2 H'∧H' D=some (.lst acc)∧Reps X.kw H' acc ys∧ys.length≤i*B ∧
     Ii (Hf p (Bb δ ov) ft B fi1 p1 ft1 fe) (ds.drop i) λr=>Φ (ys++r):=λ{σ9 s' H' acc' ys'} t' I' hl hk sp' hD' ra' hy' q'=>by
   have⟨u1,u2,u3⟩:=Tv T st7 I' hl hk;exact⟨_,Ek _ _ hlt,i+1,H',acc',ys',t',u1,u2,u3,rfl,hlt,sp',hD',ra',hy',q'⟩
  obtain⟨hl8,hk8,hk9⟩:=Ab8 wst hv1
  cases b with
  | false=>
   simp only[Yzg,if_false]at q9 ⊢;have e9:=sp7.ext.trans sp9.ext;exact fin t9 I9 hl8 hk8 ((sp7'.trans sp9).mono (by rw[Ay];omega)) (e9.keep hD5 λ_ q=>nomatch q) (Reps.ext e9 _ _ ra5) (by rw[Ay];omega) q9
  | true=>
   simp only[if_true]at q9 ⊢;have sp9':Step (i*c1+n1) H2 H9:=sp7'.trans sp9;refine thnF (pi1 _ _ s9 σ8 H9 δ8 (sizeLine*(n4+n2)) (λx=>∃ds1,Di x=some ds1∧ds1.length≤B∧Ff (Eo p1 (Bb δ8 (Dm p1)) ft1 fe) ds1 λzs=>Ii (Hf p (Bb δ ov) ft B fi1 p1 ft1 fe) (ds.drop (i+1)) λys_1=>Φ (ys++(zs++ys_1))) t9 I9 (er8.ext sp9.ext) (sp9'.pot _ (plB.mono (by omega))) (mfi1 δ8 _ _ (λx ⟨ds1,q1,q2⟩=>⟨⟨ds1,q1⟩,ds1,q1,q2⟩) q9)) λxv s10 hx=>thnF hx λitv s11 h11=>?_
   obtain⟨t11,it1,fp1,tn1,J1,H11,dx1,ds1,e1,I11,T1,st11,f11,sp11,wk1,hlen1,hds1,ds1',hds1',hB1,q11⟩:=h11;rw[hds1]at hds1'
   cases hds1'
   subst e1;have e11:=(sp7.ext.trans sp9.ext).trans sp11.ext;have sp11':Step (i*c1+n1+n3) H2 H11:=sp9'.trans sp11;have hD11:H11 D=some (.lst acc):=e11.keep hD5 λ_ q=>nomatch q
   have ra11:=Reps.ext e11 _ _ ra5;have er11:EnvRep X.kw (wipe σ8 (Dm p1)) H11 (Bb δ8 (Dm p1)):=((er8.ext sp9.ext).ext sp11.ext).wipe _;have ap11:∀(j:Nat) (d:Dat),(Bb δ8 (Dm p1))[j]? = some (Slot.own d)→(wipe σ8 (Dm p1))[j]? ≠ some (some (.ref D)):=λj d hj he'=>by
    have h8:δ8[j]? = some (Slot.own d):=by
     rw[Rm]at hj
     split at hj
     ·cases hj
     ·exact hj
    obtain⟨h80,h81⟩:=k8.1 j d h8;refine ap0 j d h80 ?_;rw[← h81];exact(wipe_some he').1
   generalize hvs:Dm p1=vs1 at *;have stat1:∀{H':Hp},(∀b∈fp1,H' b=none)→∀b∈fp1,FpOk (X.blk s3 H3 scope ce fp) ([]++pinsAt fp s7.heap) H' b:=λhn b hb=>⟨hn b hb,(f11 b hb).2⟩
   have c1le:i*c1+n1+n3+sizeLine*(n4+n2)≤sizeLine*c1:=by omega
   have loop1:codeAny (model X.prog X.w) X.A (.compLoop (.ListComp elt [⟨tg,iter,ifs,0⟩,⟨tg1,iter1,ifs1,0⟩] scope pos) 1 (.ref it1) (.ref D) ce)
     (λr s'=>match r with
      | .ok _=>∃m,m < ds.length - i∧∃i H' acc ys,0 < s'.toks∧L2.Inv (X.blk s3 H3 scope ce fp) [] (wipe σ ov) H' s'∧tn i s'.heap∧(∀b∈fp,H' b=none)∧m=ds.length - i∧i≤ds.length∧Step (i*c1) H2 H'∧H' D=some (.lst acc)∧Reps X.kw H' acc ys∧ys.length≤i*B ∧
     Ii (Hf p (Bb δ ov) ft B fi1 p1 ft1 fe) (ds.drop i) λr=>Φ (ys++r)
      | .error _=>False) s11:=by
    refine compLoop2_in (λk s'=>∃j H' acc1 ys1,0 < s'.toks∧L2.Inv (X.blk s3 H3 scope ce fp) ([]++pinsAt fp s7.heap) (wipe σ8 vs1) H' s'∧tn1 j s'.heap∧(∀b∈fp1,H' b=none)∧k=ds1.length - j∧j≤ds1.length∧Step (i*c1+n1+n3+j*(n4+n2)) H2 H'∧ExtS H11 H'∧EnvRep X.kw (wipe σ8 vs1) H' (Bb δ8 vs1)∧H' D=some (.lst acc1)∧Reps X.kw H' acc1 ys1∧ys1.length≤i*B+j ∧
     Ff (Eo p1 (Bb δ8 vs1) ft1 fe) (ds1.drop j) λzs=>Ii (Hf p (Bb δ ov) ft B fi1 p1 ft1 fe) (ds.drop (i+1)) λr=>Φ (ys1++(zs++r))) ?_ ds1.length
     ⟨0,H11,acc,ys,t11,I11.weak (wipe_length _ _) (λj v e=>(wipe_some e).1),st11,λb hb=>(f11 b hb).1,rfl,Am _,by rw[Dc];exact sp11',ExtS.refl _,er11,hD11,ra11,by omega,q11⟩
    rintro k s12 ⟨j,H12,acc1,ys1,t12,I12,st12,n12,rfl,hjk,sp12,ex12,er12,hD12,ra12,hy12,q12⟩;by_cases hlt1:j < ds1.length
    ·have hx1:ds1[j]? = some ds1[j]:=Ab hlt1
     have e01:ds1.drop j=ds1[j]::ds1.drop (j+1):=Ds hlt1;rw[e01]at q12;refine thnF (tkF (X:=X) t12 (T1.item (X.blk s3 H3 scope ce fp) rfl rfl rfl hc j _ s12 (wipe σ8 vs1) H12 (λ_ _=>False) I12 (stat1 n12) st12 (wk1.go H12 j ex12 hlt1))) λr s13 ⟨t13,u1,hr,h13⟩=>?_
     subst hr;refine thnF (tkF (X:=X) t13 h13) λ_ s14 ⟨t14,x1,H14,I14,r14,y14,st14,n14⟩=>?_
     obtain⟨sp14,yr1⟩:=wk1.yld H12 j x1 H14 _ ex12 hx1 y14;have I14':=I14.pinned (stat1 n14) (T1.obj _ _ st14);have sp14':Step (i*c1+n1+n3+j*(n4+n2)) H2 H14:=(sp12.trans sp14).mono (by omega);have q12:Eo p1 (Bb δ8 vs1) ft1 fe ds1[j] _:=q12;unfold Eo at q12;refine thnF (Nr hz1 pg1 t14 I14' (er12.ext sp14.ext) r14 yr1 q12) λ_ s15 ⟨t15,σ15,δ15,I15,er15,q15,k15⟩=>?_
     have hle1:(j+1)*(n4+n2)≤sizeLine*(n4+n2):=Ba _ (by omega);rw[Ay]at hle1;refine thnF (pt1 _ _ s15 σ15 H14 δ15 (n2+0) _ t15 I15 er15 (sp14'.pot _ (plB.mono (by omega))) q15) λb1 s16 ⟨t16,H16,I16,sp16,q16⟩=>?_
     have hw15:wipe σ15 vs1=wipe σ8 vs1:=by rw[k15.2 vs1 (by rw[hvs];exact λ_ h=>h),Lf]
     have sp16':Step (i*c1+n1+n3+j*(n4+n2)+n4) H2 H16:=sp14'.trans sp16;have e16:=sp14.ext.trans sp16.ext;have fin1:∀{s':Shared} {H':Hp} {acc':List V} {ys':List Dat},0 < s'.toks→L2.Inv (X.blk s3 H3 scope ce fp) (([]++pinsAt fp s7.heap)++pinsAt fp1 s14.heap) σ15 H' s'→Step (i*c1+n1+n3+(j+1)*(n4+n2)) H2 H'→ExtS H11 H'→EnvRep X.kw (wipe σ8 vs1) H' (Bb δ8 vs1)→H' D=some (.lst acc')→Reps X.kw H' acc' ys'→ys'.length≤i*B+(j+1) →
       (Ff (Eo p1 (Bb δ8 vs1) ft1 fe) (ds1.drop (j+1)) λzs=>Ii (Hf p (Bb δ ov) ft B fi1 p1 ft1 fe) (ds.drop (i+1)) λr=>Φ (ys'++(zs++r))) →
       ∃m,m < ds1.length - j∧∃j H' acc1 ys1,0 < s'.toks∧L2.Inv (X.blk s3 H3 scope ce fp) ([]++pinsAt fp s7.heap) (wipe σ8 vs1) H' s'∧tn1 j s'.heap∧(∀b∈fp1,H' b=none)∧m=ds1.length - j∧j≤ds1.length∧Step (i*c1+n1+n3+j*(n4+n2)) H2 H'∧ExtS H11 H'∧EnvRep X.kw (wipe σ8 vs1) H' (Bb δ8 vs1)∧H' D=some (.lst acc1)∧Reps X.kw H' acc1 ys1∧ys1.length≤i*B+j ∧
        Ff (Eo p1 (Bb δ8 vs1) ft1 fe) (ds1.drop j) λzs=>Ii (Hf p (Bb δ ov) ft B fi1 p1 ft1 fe) (ds.drop (i+1)) λr=>Φ (ys1++(zs++r)):=λ{s' H' acc' ys'} t' I' sp' ex' er' hD' ra' hy' q'=>by
      have⟨u1,u2,u3⟩:=Tv (σ':=wipe σ8 vs1) T1 st14 I' (by rw[← hw15,wipe_length]) λj v e=>(wipe_some (by rw[hw15];exact e)).1
      exact⟨_,Ek _ _ hlt1,j+1,H',acc',ys',t',u1,u2,u3,rfl,hlt1,sp',ex',er',hD',ra',hy',q'⟩
     cases b1 with
     | false=>
      simp only[Yzg,if_false]at q16 ⊢;exact fin1 t16 I16 (sp16'.mono (by rw[Ay];omega)) (ex12.trans (.of e16)) (er12.ext e16) (e16.keep hD12 λ_ q=>nomatch q) (Reps.ext e16 _ _ ra12) (by omega) q16
     | true=>
      simp only[if_true]at q16 ⊢;refine thnF (pe _ _ s16 σ15 H16 δ15 0 _ t16 I16 (er15.ext sp16.ext) (sp16'.pot _ (plB.mono (by omega))) q16) λzv s17 ⟨t17,yv,H17,dy,I17,r17,sp17,b17,q17⟩=>?_
      have e17:=e16.trans sp17.ext;have hD17:H17 D=some (.lst acc1):=e17.keep hD12 λ_ q=>nomatch q
      have ra17:=Reps.ext e17 _ _ ra12;have hz17:acc1.length < sizeLine:=by
       have hbs:big=sizeLine:=by decide
       rw[ra12.length];omega
      have b17:Rep X.kw H17 yv dy:=b17;refine Cr (X:=X) t17 (app_ok (X:=X.blk s3 H3 scope ce fp) (Q:=λ_ s18=>L2.Inv (X.blk s3 H3 scope ce fp) (([]++pinsAt fp s7.heap)++pinsAt fp1 s14.heap) σ15 (upd H17 D (.lst (acc1++[yv]))) s18) I17 hD17 hz17 r17 λs18 I18=>I18) λ_ s18 t18 I18=>?_
      refine fin1 (ys':=ys1++[dy]) t18 I18 (((sp16'.trans sp17).mono (by rw[Ay];omega)).wrote hDn (.lst hD17)) ((ex12.trans (.of e17)).wr hD17) ((er12.ext e17).wr hD17 ap11 _) upd_same (Reps.wr (.inl ⟨_,rfl⟩) _ hD17 _ _ (ra17.snoc b17)) (by simp;omega) ?_;have q17:Ff (Eo p1 (Bb δ8 vs1) ft1 fe) (ds1.drop (j+1)) (λzs=>Ii (Hf p (Bb δ ov) ft B fi1 p1 ft1 fe) (ds.drop (i+1)) λr=>Φ (ys1++((dy::zs)++r))):=q17
      simpa using q17
    ·have ei:j=ds1.length:=by omega
     subst ei;refine thnF (tkF (X:=X) t12 (T1.done (X.blk s3 H3 scope ce fp) rfl rfl rfl hc ds1.length _ s12 (wipe σ8 vs1) H12 (λ_ _=>False) I12 (stat1 n12) st12 (wk1.stop H12 ex12))) λr s13 ⟨t13,hr,I13⟩=>?_
     subst hr;rw[Gn]at q12;have q12:Ii (Hf p (Bb δ ov) ft B fi1 p1 ft1 fe) (ds.drop (i+1)) (λr=>Φ (ys1++([]++r))):=q12;have hm1:ds1.length*(n4+n2)≤sizeLine*(n4+n2):=Ba _ hlen1;exact fin t13 I13 (hl8.trans (wipe_length σ8 vs1).symm) hk9 (sp12.mono (by rw[Ay];omega)) hD12 ra12 (by rw[Ay];omega) q12
   exact compStart1_ok loop1 (T1.self X.A 0 _ _ _ st11 loop1)
 ·have ei:i=ds.length:=by omega
  subst ei;have td:=T.done (X.blk s3 H3 scope ce fp) rfl rfl rfl hc ds.length [] s5 _ H5 (λ_ _=>False) I5 (Jo I5 n5) st5 (wk.stop H5 (EXr.of sp5.ext));refine thnF (tkF (X:=X) t5 td) λr s6 ⟨t6,hr,I6⟩=>?_
  subst hr;obtain⟨I7,fC,m',hn⟩:=c.back I6;rw[Gn]at q5;have q5:Φ (ys++[]):=q5;rw[Bu]at q5;have hmul:ds.length*c1≤sizeLine*c1:=Ba _ hlen;have hbs:big=sizeLine:=by decide
  exact hRR D ce.locals s6 m' H5 ys t6 I7 ((stp.trans sp5).mono (by omega)) (stp.ext.none hDn) ⟨acc,hD5,by omega,ra5⟩ q5 hn fC
end
end SF
namespace SF
open PySem PySem.Spec PyProof.Rows L2
variable[TN]
theorem Ready.boxes{K:KW}{H0 H:Hp}:∀{os:List Bool} {is:List Nat} {vs:List V} {ds:List Dat} {σ:L2.St} {δ:Env},is.length=os.length→(∀o∈os,o=true)→Ready K H0 H σ δ os vs ds→EnvS K σ H0 H δ→∃bs:List Nat,vs=bs.map V.ref∧EnvS K (Rp σ is vs) H0 H (Acs is bs ds δ)
 | [],[],[],[],σ,δ,hl,_,h,es=>⟨[],rfl,es⟩
 | [],[],_::_,_,σ,δ,hl,_,h,es=>by have:=h.len.1;simp at this
 | [],[],[],_::_,σ,δ,hl,_,h,es=>by have:=h.len.2;simp at this
 | _::_,_::_,[],_,σ,δ,hl,_,h,es=>by have:=h.len.1;simp at this
 | _::_,_::_,_::_,[],σ,δ,hl,_,h,es=>by have:=h.len.2;simp at this
 | [],_::_,_,_,_,_,hl,_,_,_=>by simp at hl
 | _::_,[],_,_,_,_,hl,_,_,_=>by simp at hl
 | o :: os,i::is,v::vs,d::ds,σ,δ,hl,ho,h,es=>by
  have hl':is.length=os.length:=by simpa using hl
  have tl:vs.length=os.length∧ds.length=os.length:=by have:=h.len;simpa using this
  have e0:=ho o (Dd ..);subst e0;obtain⟨a,rfl,e2,e3,e4⟩:=h.own 0 v d rfl rfl rfl;have r:Ready K H0 H (σ.set i (some (.ref a))) (δ.set i (.own (.obj a [d]))) os vs ds:=by
   refine⟨tl,λk w c h1 h2 h3=>h.at_ (k+1) w c h1 h2 h3,λk w c h1 h2 h3=>?_,λk k' w hk h1 h1' h2=>h.dis (k+1) (k'+1) w (by omega) h1 h1' h2⟩;obtain⟨b,rfl,f2,f3,f4⟩:=h.own (k+1) w c h1 h2 h3;refine⟨b,rfl,f2,f3,λj d' hj=>?_⟩;rw[Be]at hj ⊢;by_cases q:i=j
   ·subst q
    by_cases l:i < σ.length
    ·simp only[if_true,l]
     intro e5;have e6:V.ref a=V.ref b:=by simpa using e5
     exact h.dis 0 (k+1) (.ref a) (by omega) rfl h1 rfl (by rw[e6];exact h2)
    ·have l':¬ i < δ.length:=by rw[← es.rep.1];exact l
     simp[l']at hj
   ·simp only[q,if_false]at hj ⊢
    exact f4 j d' hj
  obtain⟨bs,e,es'⟩:=Ready.boxes hl' (λo h=>ho o (Eh _ h)) r (es.ownS i (d:=.obj a [d]) ⟨rfl,e2⟩ e3 e4);exact⟨a::bs,by rw[e];rfl,by rw[Rp,Acs];exact es'⟩
end SF
namespace SF
open PySem PySem.Spec PyProof.Rows L2
variable[TN]
def NewL(H0 H:Hp)(bs:List Nat):Prop:=bs.Nodup∧∀b∈bs,H b=some (.lst [])∧H0 b=none
theorem NewL.ext{H0 H H':Hp}{bs:List Nat}(h:NewL H0 H bs)(e:Ext H H'):NewL H0 H' bs:=⟨h.1,λb hb=>⟨e.keep (h.2 b hb).1 (λ_ q=>nomatch q),(h.2 b hb).2⟩⟩
theorem NewL.upd{H0 H:Hp}{bs:List Nat}{D:Addr}{o:HO}(h:NewL H0 H bs)(hD:D∉bs):NewL H0 (L2.upd H D o) bs:=⟨h.1,λb hb=>⟨by rw[upd_ne (λe:b=D=>hD (e ▸ hb))];exact(h.2 b hb).1,(h.2 b hb).2⟩⟩
end SF
namespace SF
open PySem PySem.Spec PyProof.Rows L2
variable[TN]
structure RoomG(k:Nat)(A:Around):Prop where
 hd:A.handled=none
 dp:A.depth+3*k+20 < recursionLimit
 un:A.units+16*k+400 < cLine
 gu:A.guards=some []
theorem RoomG.mono{j k:Nat}{A:Around}(r:RoomG k A)(h:j≤k):RoomG j A:=⟨r.hd,by have:=r.dp;omega,by have:=r.un;omega,r.gu⟩
theorem RoomG.deeper{k:Nat}{A:Around}(r:RoomG (k+1) A)(env:PySem.Env):RoomG k (A.deeper env):=
 ⟨r.hd,by have:=r.dp;show A.depth+1+3*k+20 < _;omega,by have:=r.un;show A.units+3+16*k+400 < _;omega,r.gu⟩
theorem RoomG.hu{k:Nat}{A:Around}(r:RoomG k A):A.units+300 < cLine:=by have:=r.un;omega
theorem RoomG.depth{k:Nat}{A:Around}(r:RoomG k A):A.depth < recursionLimit:=by have:=r.dp;omega
structure FnG(P:Program)(w:World)(K:PySem.W.Frag)(mg:Str→Option Value)(base:Heap)(k:Nat)(f:Addr)(fd:FuncData)(ps:List Str)(n:Nat)(W:List Dat→(Dat→Prop)→Prop):Prop where
 run:∀(A:Around) (outer:List PySem.Env) (s:Shared) (H:Hp) (args:Args) (us:List Value) (vs:List V) (ds:List Dat) (m:Nat) (Φ:Dat→Prop),RoomG k A→0 < s.toks→Env0 P w K mg base A outer s H→BindsTo s fd args (ps.zip us)→L2.Vals vs us→vs.length=ps.length→Reps ⟨K,P,w⟩ H vs ds→PotLe (n+m) H→W ds Φ →
  codeAny (model P w) A (.call (.ref f) args) (λr s'=>∃u,r = .ok (.ret u)∧0 < s'.toks∧CE outer P w H s (λv H'=>∃d,Step n H H'∧Rep ⟨K,P,w⟩ H' v d∧Φ d) u s') s
def Gf(K:KW)(fd:FuncData)(ps:List Str)(np:Nat)(ks:List Str)(sh:List Src):Prop:=
 ∀(s:Shared) (us ws:List Value),K.K.In s.heap→us.length=np→ws.length=ks.length→∃bs:List Value,BindsTo s fd ⟨us,ks.zip ws⟩ (ps.zip bs)∧bs.length=ps.length ∧
  ∀(H:Hp) (vs zs:List V) (ds es:List Dat),L2.Vals vs us→L2.Vals zs ws→Reps K H vs ds→Reps K H zs es→∃ys,L2.Vals ys bs∧Reps K H ys (Dt sh ds es)
section
variable{X:Cx}{k:Nat}{f:Addr}{fd:FuncData}{ps ks:List Str}{n n' n'':Nat}{W:List Dat→(Dat→Prop)→Prop}{x:Str}{p pos:Pos}{e:Expr}{es:List Expr}{kws:List Keyword}{fs fk:Env→(List Dat→Prop)→Prop}{sh:List Src}
def QK(X:Cx)(kws:List Keyword)(n:Nat)(f:Env→(List Dat→Prop)→Prop):Prop:=
 ∀(pos:Pos) (E:Value→Shared→Prop) (pins:List (Addr×Obj)) (s:Shared) (σ:L2.St) (H:Hp) (δ:Env) (m:Nat) (Φ:List Dat→Prop),0 < s.toks→L2.Inv X pins σ H s→EnvRep X.kw σ H δ→PotLe (n+m) H→f δ Φ →
  wpAny (model X.prog X.w) X.A (evalAll ((backToKw pos (keywordEach kws X.env)).map (·.2))) (PXs X pins σ n H (RLv X.kw) Φ) E s
theorem App:QK X [] 0 (λ_ Q=>Q []):=λpos E pins s σ H δ m Φ ht I er pl hf=>wpAny_evalAll_nil ⟨ht,[],H,[],I,.nil,Step.refl H,Aa2 H,hf⟩
theorem Al5{nm:Option Str}{kpos:Pos}{fa:Env→(Dat→Prop)→Prop}(ha:QE X e n (RV X.kw) fa)(hr:QK X kws n' fk):QK X (⟨nm,e,kpos⟩::kws) (n+n') (λδ Q=>fa δ λd=>fk δ λds=>Q (d::ds)):=λpos E pins s σ H δ m Φ ht I er pl hf=>by
 show wpAny _ _ (evalAll ((do let v ← eval e X.env;standAt pos;pure v)::(backToKw pos (keywordEach kws X.env)).map (·.2))) _ _ s
 refine wpAny_evalAll_cons (wpAny_bind (thn (ha E pins s σ H δ (n'+m) _ ht I er (pl.mono (by omega)) hf) λu s1 ⟨t1,x,H1,d,I1,r1,st1,b1,q1⟩=>wpAny_bind (wpAny_standAt (wpAny_pure ?_))));exact thn (hr pos E pins s1 σ H1 δ m _ t1 I1 (er.ext st1.ext) (st1.pot _ (pl.mono (by omega))) q1) λus s2 ⟨t2,vs,H2,ds,I2,r2,st2,b2,q2⟩=>⟨t2,x::vs,H2,d::ds,I2,.cons r1 r2,st1.trans st2,Akg _ _ _ _ _ _ _ st2.ext b1 b2,q2⟩
theorem Xe{pins:List (Addr×Obj)}{σ:L2.St}{H0 H:Hp}{s:Shared}{us ws:List Value}{vs zs:List V}{ds es:List Dat}{Φ:Dat→Prop}{E:Value→Shared→Prop}{m:Nat}(F:FnG X.prog X.w X.K X.mg X.base k f fd ps n W)(hr:RoomG k X.A)(hb:Gf X.kw fd ps us.length ks sh)(hks:ws.length=ks.length)
  (t:0 < s.toks) (I:L2.Inv X pins σ H s) (r:L2.Vals vs us) (rz:L2.Vals zs ws) (b:Reps X.kw H vs ds) (bz:Reps X.kw H zs es) (st:Step n' H0 H) (pl:PotLe (n+m) H) (h:W (Dt sh ds es) Φ) :
  wpAny (model X.prog X.w) X.A (call (.ref f) us (ks.zip ws)) (PX X pins σ (n'+n) H0 (RV X.kw) Φ) E s:=by
 obtain⟨bs,hB,hl,hv⟩:=hb s us ws I.kIn rfl hks;obtain⟨ys,ry,by_⟩:=hv H vs zs ds es r rz b bz;refine wpAny_call (codeAny_mono (F.run X.A X.stack s H ⟨us,ks.zip ws⟩ bs ys _ m Φ hr t I.env0 hB ry (by rw[ry.length];exact hl) by_ pl h) λr s' ⟨u,e1,t',ce⟩=>?_);subst e1;obtain⟨v,H',I',rv,d,st',rd,hq⟩:=I.after ce;exact⟨t',v,H',d,I',rv,st.trans st',rd,hq⟩
theorem Amf(F:FnG X.prog X.w X.K X.mg X.base k f fd ps n W)(hr:RoomG k X.A)(hg:Gl X x)(hm:X.mg x=some (.ref f))(hk:PySem.W.keepIn X.kw (.ref f)=true)(hb:Gf X.kw fd ps 0 [] sh)(hdb:(x == ("__debug__" : Str))=false) :
  QE X (.Call (.Name x p) [] [] pos) n (RV X.kw) (λδ Q=>W (Dt sh [] []) Q):=λE pins s σ H δ m Φ ht I er pl hf=>by
 refine wpAny_Call_Name_kw (ld_glob I hg hm ?_ hdb);exact PySem.W.callWith_K0 I.kIn hk (thn (Xe (us:=[]) (ws:=[]) (vs:=[]) (zs:=[]) (ds:=[]) (es:=[]) (m:=m) F hr hb rfl ht I .nil .nil (Aa2 H) (Aa2 H) (Step.refl H) pl hf) λu s' q=>q.step (Step.refl H) (by omega) λ_ _ _ z=>z)
theorem Ame(F:FnG X.prog X.w X.K X.mg X.base k f fd ps n W)(hr:RoomG k X.A)(hg:Gl X x)(hm:X.mg x=some (.ref f))(hk:PySem.W.keepIn X.kw (.ref f)=true)(hb:Gf X.kw fd ps (e::es).length [] sh)(hdb:(x == ("__debug__" : Str))=false)
  (ha:QA X (e::es) n' (RLv X.kw) fs) (hle:∀ δ Φ,fs δ Φ→fs δ λds=>ds.length=(e::es).length∧Φ ds) (he:starEach (e::es) X.env=(false,eval e X.env)::starEach es X.env) (hpl:(backTo pos (starEach es X.env)).any (·.1)=false) :
  QE X (.Call (.Name x p) (e::es) [] pos) (n'+n) (RV X.kw) (λδ Q=>fs δ λds=>W (Dt sh ds []) Q):=λE pins s σ H δ m Φ ht I er pl hf=>by
 refine wpAny_Call_Name_kw (ld_glob I hg hm ?_ hdb);refine PySem.W.callWith_K (h₀:=X.base) I.ok.mod.kin hk (thn (ha pos E pins s σ H δ (n+m) _ ht I er (pl.mono (by omega)) (hle δ _ hf)) λus s1 ⟨t1,vs,H1,ds,I1,r1,st1,b1,hl,q1⟩=>⟨I1.kIn,?_⟩) he hpl;have hul:us.length=(e::es).length:=by rw[← r1.length,b1.length,hl]
 exact Xe (us:=us) (ws:=[]) (zs:=[]) (es:=[]) (ks:=[]) (m:=m) F hr (by rw[hul];exact hb) rfl t1 I1 r1 .nil b1 (Aa2 H1) st1 (st1.pot _ (pl.mono (by omega))) q1
theorem Aiw(F:FnG X.prog X.w X.K X.mg X.base k f fd ps n W)(hr:RoomG k X.A)(hg:Gl X x)(hm:X.mg x=some (.ref f))(hk:PySem.W.keepIn X.kw (.ref f)=true)(hb:Gf X.kw fd ps 0 ks sh)(hdb:(x == ("__debug__" : Str))=false)
  (hkw:QK X kws n'' fk) (hall:(backToKw pos (keywordEach kws X.env)).all (·.1.isSome)=true) (hks:(backToKw pos (keywordEach kws X.env)).filterMap (·.1)=ks) (hlk:∀ δ Φ,fk δ Φ→fk δ λds=>ds.length=ks.length∧Φ ds)
  (hpl:((backTo pos (starEach [] X.env)).any (·.1) || (backToKw pos (keywordEach kws X.env)).any (·.1.isNone))=false) :
  QE X (.Call (.Name x p) [] kws pos) (n''+n) (RV X.kw) (λδ Q=>fk δ λes=>W (Dt sh [] es) Q):=λE pins s σ H δ m Φ ht I er pl hf=>by
 refine wpAny_Call_Name_kw (ld_glob I hg hm ?_ hdb);refine PySem.W.callWith_KW0 (h₀:=X.base) I.ok.mod.kin hk hall (thn (hkw pos E pins s σ H δ (n+m) _ ht I er (pl.mono (by omega)) (hlk δ _ hf)) λws s1 ⟨t1,zs,H1,es',I1,r1,st1,b1,hl,q1⟩=>⟨I1.kIn,?_⟩) hpl;rw[hks];exact Xe (us:=[]) (ws:=ws) (vs:=[]) (ds:=[]) (m:=m) F hr hb (by rw[← r1.length,b1.length,hl]) t1 I1 .nil r1 (Aa2 H1) b1 st1 (st1.pot _ (pl.mono (by omega))) q1
theorem Amd(F:FnG X.prog X.w X.K X.mg X.base k f fd ps n W)(hr:RoomG k X.A)(hg:Gl X x)(hm:X.mg x=some (.ref f))(hk:PySem.W.keepIn X.kw (.ref f)=true)(hb:Gf X.kw fd ps (e::es).length ks sh)(hdb:(x == ("__debug__" : Str))=false)
  (ha:QA X (e::es) n' (RLv X.kw) fs) (hle:∀ δ Φ,fs δ Φ→fs δ λds=>ds.length=(e::es).length∧Φ ds) (he:starEach (e::es) X.env=(false,eval e X.env)::starEach es X.env)
  (hkw:QK X kws n'' fk) (hall:(backToKw pos (keywordEach kws X.env)).all (·.1.isSome)=true) (hks:(backToKw pos (keywordEach kws X.env)).filterMap (·.1)=ks) (hlk:∀ δ Φ,fk δ Φ→fk δ λds=>ds.length=ks.length∧Φ ds)
  (hpl:((backTo pos (starEach (e::es) X.env)).any (·.1) || (backToKw pos (keywordEach kws X.env)).any (·.1.isNone))=false) (mfs:∀ δ,Bj (fs δ)) :
  QE X (.Call (.Name x p) (e::es) kws pos) (n'+n''+n) (RV X.kw) (λδ Q=>fs δ λds=>fk δ λes=>W (Dt sh ds es) Q):=λE pins s σ H δ m Φ ht I er pl hf=>by
 refine wpAny_Call_Name_kw (ld_glob I hg hm ?_ hdb);refine PySem.W.callWith_KW (h₀:=X.base) I.ok.mod.kin hk hall (thn (ha pos E pins s σ H δ (n''+n+m) _ ht I er (pl.mono (by omega)) (hle δ _ hf)) λus s1 ⟨t1,vs,H1,ds,I1,r1,st1,b1,hl,q1⟩=>?_) hpl he;refine thn (hkw pos E pins s1 σ H1 δ (n+m) _ t1 I1 (er.ext st1.ext) (st1.pot _ (pl.mono (by omega))) (hlk δ _ q1)) λws s2 ⟨t2,zs,H2,es',I2,r2,st2,b2,hl2,q2⟩=>⟨I2.kIn,?_⟩
 rw[hks];have hul:us.length=(e::es).length:=by rw[← r1.length,b1.length,hl]
 have st:=st1.trans st2;exact Xe (us:=us) (ws:=ws) (m:=m) F hr (by rw[hul];exact hb) (by rw[← r2.length,b2.length,hl2]) t2 I2 r1 r2 (Reps.ext st2.ext _ _ b1) b2 st (st.pot _ (pl.mono (by omega))) q2
end
section
variable{X:Cx}{k:Nat}{n n' i:Nat}{y:Str}{p pos:Pos}{e:Expr}{es:List Expr}{fs:Env→(List Dat→Prop)→Prop}{C:Nat→List Dat→(Dat→Prop)→Prop}{G:Nat→Option Dat}
def Hj(m:Nat):List Src:=(Dz m).map Src.p
theorem Ai7{ds:List Dat}{m:Nat}(h:ds.length=m):Dt (Hj m) ds []=ds:=by
 subst h;unfold Dt Hj;rw[Dk];refine List.ext_getElem (by simp) λi h1 h2=>?_
 have lt:i < ds.length:=h2;simp[lt]
end
theorem Ox{K:KW}{H:Hp}{N:List Str}{vs:List V}{ds:List Dat}(h:Reps K H vs ds)(hl:vs.length≤N.length):EnvRep K (L2.start N vs) H (Bp N.length ds):=by
 have e:=h.length;refine⟨by unfold L2.start Bp;simp[e],λi s q=>?_⟩;unfold Bp at q;unfold L2.start;by_cases lt:i < ds.length
 ·rw[Dr (by simpa using lt),Af]at q
  rw[Dr (by simpa [e]using lt),Af]
  cases qd:ds[i]? with
  | none=>rw[qd]at q;cases q
  | some d=>
   rw[qd]at q
   cases q
   obtain⟨v,hv,hr⟩:=h.get qd;rw[hv];exact hr
 ·rw[Hh (by simpa using lt),Ab4]at q
  split at q
  ·cases q;trivial
  ·cases q
theorem Io{n:Nat}{ds:List Dat}{i:Nat}{d:Dat}:(Bp n ds)[i]? ≠ some (Slot.own d):=λq=>by
 unfold Bp at q;by_cases lt:i < ds.length
 ·rw[Dr (by simpa using lt),Af]at q
  cases qd:ds[i]? <;> rw[qd]at q<;>cases q
 ·rw[Hh (by simpa using lt),Ab4]at q
  split at q<;>cases q
theorem Yb{P:Program}{w:World}{K:PySem.W.Frag}{mg:Str→Option Value}{base:Heap}{x qual:Str}{params:Arguments}{body:List Stmt}{scope:Scope}{dvs:List V}{kws:List (Str×V)}{f:Addr}{fd:FuncData}{N ps:List Str}{k:Nat}{A:Around}{outer:List PySem.Env}{s:Shared}{H:Hp}{args:Args}{us:List Value}{vs:List V}{R:Result→Shared→Prop}
  (F:FunD K x qual params body scope dvs kws f fd) (S:FnScope N ps scope) (hh:A.handled=none) (hdp:A.depth < recursionLimit) (hr:∀env,RoomG k (A.deeper env)) (e0:Env0 P w K mg base A outer s H) (hb:BindsTo s fd args (ps.zip us)) (r:L2.Vals vs us) (hl:vs.length=ps.length)
  (go:∀(cdv:Value) (s1:Shared),fd.code=cdv→RoomG k (A.deeper (envOfC qual scope s.heap.objs.size f cdv))→s.toks≤s1.toks→L2.Inv (cxOf CX0 P w K mg base N qual scope f cdv A outer s H λ_ _ _=>False) [] (L2.start N vs) H s1 →
   wpAny (model P w) (cxOf CX0 P w K mg base N qual scope f cdv A outer s H λ_ _ _=>False).A (PySem.execs body (cxOf CX0 P w K mg base N qual scope f cdv A outer s H λ_ _ _=>False).env) (λfl s'=>R (.ok (.ret (match fl with | .ret v=>v|_=>.none))) s') (λ_ _=>False) s1) :
  codeAny (model P w) A (.call (.ref f) args) R s:=by
 obtain⟨oc,od,dV,kV,doc,pm,an,cdv,ct,osl,rfl,lk,hcd,-,-⟩:=F.ex;have kin:K.In s.heap:=e0.mod.kin.keeps λb o e=>(e0.bs b o e).1
 refine codeAny_call_function hdp (kin _ _ lk) rfl S.co S.gen rfl (PySem.W.codeRec_of kin hcd) (hb _ _ _ _ ?_);have named:∀y∈ps.zip us,scope.names.lookup y.1=some .local∨(scope.names.lookup y.1=some .cell∧((cellsFrom (s.heap.objs.size+1) scope.names []).lookup y.1).isSome=true):=by
  intro y hy;exact(S.par y.1 (Pa hy).1).imp_right λq=>⟨q,PySem.W.cellsFrom_some _ _ _ (Or.inl q)⟩
 refine wpAny_mono (wpAny_toks (wpAny_newFunctionEnv_cells (Q:=λenv s1=>env=envOfC qual scope s.heap.objs.size f cdv∧InCallC s env.locals (bindL env.kindOf (ps.zip us) λ_=>none) env.cells (bindC env.kindOf (ps.zip us) λ_=>none) s1) (E:=λ_ _=>False) S.kind named λenv he s1 x=>⟨he,x⟩)) ?_ λ_ _ z=>z.2.elim
 rintro env s1 ⟨tk,rfl,x⟩;have nl:s1.heap.NoLimit:=by
  refine e0.mod.nolimit.keeps ?_;intro b o e;exact x.toInCall.keep b o (e0.bs b o e).1
 refine⟨nl,codeAny_func (wpAny_mono (go cdv s1 rfl (hr _) tk (inv_start S hh e0 hl r x)) (λ_ _ z=>z) λ_ _ z=>z.elim)⟩
theorem Jf{P:Program}{w:World}{K:PySem.W.Frag}{mg:Str→Option Value}{base:Heap}{x qual:Str}{params:Arguments}{body:List Stmt}{scope:Scope}{dvs:List V}{kws:List (Str×V)}{f:Addr}{fd:FuncData}{N ps:List Str}{k:Nat}{A:Around}{outer:List PySem.Env}{s:Shared}{H:Hp}{args:Args}{us:List Value}{vs:List V}{R:Result→Shared→Prop}
  (F:FunD K x qual params body scope dvs kws f fd) (S:FnScope N ps scope) (hr:RoomG (k+1) A) (e0:Env0 P w K mg base A outer s H) (hb:BindsTo s fd args (ps.zip us)) (r:L2.Vals vs us) (hl:vs.length=ps.length)
  (go:∀(cdv:Value) (s1:Shared),fd.code=cdv→RoomG k (A.deeper (envOfC qual scope s.heap.objs.size f cdv))→s.toks≤s1.toks→L2.Inv (cxOf CX0 P w K mg base N qual scope f cdv A outer s H λ_ _ _=>False) [] (L2.start N vs) H s1 →
   wpAny (model P w) (cxOf CX0 P w K mg base N qual scope f cdv A outer s H λ_ _ _=>False).A (PySem.execs body (cxOf CX0 P w K mg base N qual scope f cdv A outer s H λ_ _ _=>False).env) (λfl s'=>R (.ok (.ret (match fl with | .ret v=>v|_=>.none))) s') (λ_ _=>False) s1) :
  codeAny (model P w) A (.call (.ref f) args) R s:=Yb F S hr.hd hr.depth hr.deeper e0 hb r hl go
theorem Om{P:Program}{w:World}{K:PySem.W.Frag}{mg:Str→Option Value}{base:Heap}{N:List Str}{qual:Str}{scope:Scope}{f:Addr}{cdv:Value}{A:Around}{outer:List PySem.Env}{s s':Shared}{H:Hp}{n:Nat}{Φ:Dat→Prop}{fl:Flow}
  (h:SO (cxOf CX0 P w K mg base N qual scope f cdv A outer s H λ_ _ _=>False) [] n H H { nx:=λ_=>Φ .non,rt:=λ_=>Φ } fl s') :
  0 < s'.toks∧CE outer P w H s (λv H'=>∃d,Step n H H'∧Rep ⟨K,P,w⟩ H' v d∧Φ d) (match (generalizing:=false) fl with | .ret v=>v|_=>.none) s':=by
 obtain⟨t,h⟩:=h;refine⟨t,?_⟩
 cases fl with
 | brk=>obtain⟨_,_,_,_,_,_,z⟩:=h;exact z.elim
 | cont=>obtain⟨_,_,_,_,_,_,z⟩:=h;exact z.elim
 | next=>
  obtain⟨_,H',_,J,_,st,q⟩:=h;exact⟨.non,H',J.os,J.bare,J.base,J.hok,rfl,.non,⟨st.ext,st.pot⟩,by rw[Rep],q⟩
 | ret u=>
  obtain⟨v,_,H',d,_,J,rv,rd,_,st,q⟩:=h;exact⟨v,H',J.os,J.bare,J.base,J.hok,rv,d,⟨st.ext,st.pot⟩,rd,q⟩
theorem fits{N ps:List Str}{scope:Scope}(S:FnScope N ps scope){vs:List V}(h:vs.length=ps.length):vs.length≤N.length:=by
 have e:(N.take ps.length).length=ps.length:=congrArg Dh S.pre;have l:=List.length_take_le' ps.length N;omega
theorem Ly{K:KW}{H:Hp}{N:List Str}{vs:List V}{ds:List Dat}(h:Reps K H vs ds)(hl:vs.length≤N.length):EnvS K (L2.start N vs) H H (Bp N.length ds):=
 ⟨Ox h hl,λ_ _ _ _ _ hi=>absurd hi Io,λ_ _ _ hi=>absurd hi Io⟩
theorem Arf{P:Program}{w:World}{K:PySem.W.Frag}{mg:Str→Option Value}{base:Heap}{x qual:Str}{params:Arguments}{body:List Stmt}{scope:Scope}{dvs:List V}{kws:List (Str×V)}{f:Addr}{fd:FuncData}{N ps:List Str}{k n:Nat}{W:List Dat→(Dat→Prop)→Prop}
  (F:FunD K x qual params body scope dvs kws f fd) (S:FnScope N ps scope)
  (hbody:∀(cdv:Value) (A:Around) (outer:List PySem.Env) (s:Shared) (H:Hp),fd.code=cdv→RoomG k (A.deeper (envOfC qual scope s.heap.objs.size f cdv)) →
   ∃Fb,QS (cxOf CX0 P w K mg base N qual scope f cdv A outer s H λ_ _ _=>False) body n Fb∧∀ds Φ,W ds Φ→Fb (Bp N.length ds) { nx:=λ_=>Φ .non,rt:=λ_=>Φ }) :
  FnG P w K mg base (k+1) f fd ps n W:=by
 refine⟨λA outer s H args us vs ds m Φ hr t0 e0 hb r hl hrep pl hW=>Jf F S hr e0 hb r hl λcdv s1 hcv hr1 tk I=>?_⟩;obtain⟨Fb,hQ,hFb⟩:=hbody cdv A outer s H hcv hr1;refine wpAny_mono (hQ _ PassesOwn.never [] s1 (L2.start N vs) H H _ m _ (Ax t0 tk) I (Ly hrep (fits S hl)) (Ext.refl H) pl (hFb ds Φ hW)) (λfl s' hs=>?_) λ_ _ z=>z
 exact⟨_,rfl,Om hs⟩
end SF
namespace SF
open PySem PySem.Spec PyProof.Rows L2
variable[TN]
def Aos(K:PySem.W.Frag)(w:World)(mg:Str→Option Value)(x:Str)(kvs:List (List Nat×Int)):Prop:=∃d es n,mg x=some (.ref d)∧KDict K w d es n∧∀s:List Nat,∃r,PySem.W.nsIn K d ⟨s.toArray⟩=some r∧r.isSome=(kvs.find? λp=>decide (p.1=s)).isSome∧∀p,(kvs.find? λp=>decide (p.1=s))=some p→∃u,r=some u∧RelV (.int p.2) u
theorem Aee(x:Str):(⟨x.cps.toList.toArray⟩:Str)=x:=by cases x;simp
theorem Aqx{x y:Str}(h:V.str x = .str ⟨y.cps.toList.toArray⟩):x=y:=by
 rw[Aee]at h;exact V.str.inj h
theorem Sd(p:Str×V)(fs:List (Str×V)):Ud (p::fs) = .str p.1::p.2::Ud fs:=rfl
theorem Aew{K:KW}{H:Hp}:∀{nms:List Str} {fs:List (Str×V)} {ds:List Dat},ds.length=nms.length→Reps K H (Ud fs) (Oj (nms.map nmD) ds)→∃us,fs=nms.zip us∧us.length=nms.length∧Reps K H us ds
 | [],fs,ds,hl,h=>by
  match ds,hl with
  | [],_=>
   cases fs with
   | nil=>exact⟨[],rfl,rfl,by rw[Reps];trivial⟩
   | cons p fs=>rw[Sd,Cy,Oj]at h<;>first|(simp[Reps]at h;done)|simp_all
 | n::nms,fs,ds,hl,h=>by
  match ds,hl with
  | d::ds,hl=>
   rw[Yzs,Oj]at h
   cases fs with
   | nil=>simp[Ud,Reps]at h
   | cons p fs=>
    rw[Sd,Reps,Reps]at h;obtain⟨h1,h2,h3⟩:=h;obtain⟨us,e1,e2,e3⟩:=Aew (nms:=nms) (ds:=ds) (by simpa using hl) h3;unfold nmD at h1;rw[Rep]at h1;have e:=Aqx h1.1;refine⟨p.2::us,by rw[Ed,← e1,← e],by simp[e2],?_⟩;rw[Reps];exact⟨h2,e3⟩
theorem Aev{K:KW}{H:Hp}:∀{nms:List Str} {us:List V} {ds:List Dat},(∀x∈nms,x.cps.toList.length≤sizeLine)→us.length=nms.length→Reps K H us ds→Reps K H (Ud (nms.zip us)) (Oj (nms.map nmD) ds)
 | [],us,ds,_,hl,h=>by
  match us,hl with
  | [],_=>
   have e:Ud (([]:List Str).zip ([]:List V))=[]:=rfl;rw[e,Cy];unfold Oj;rw[Reps];trivial
 | n::nms,us,ds,hn,hl,h=>by
  match us,hl with
  | u::us,hl=>
   match ds,h with
   | [],h=>simp[Reps]at h
   | d::ds,h=>
    rw[Reps]at h;rw[Ed,Sd,Yzs,Oj,Reps,Reps];refine⟨?_,h.1,Aev (λx hx=>hn x (by simp[hx])) (by simpa using hl) h.2⟩;unfold nmD;rw[Rep];exact⟨by rw[Aee],hn n (by simp)⟩
theorem Adv:∀{nms:List Str} {us:List V} {i:Nat} {x:Str} {u:V},nms.Nodup→nms[i]? = some x→us[i]? = some u→(nms.zip us).lookup x=some u
 | [],_,_,_,_,_,h,_=>by cases h
 | n::nms,[],i,_,_,_,_,h=>by cases h
 | n::nms,u::us,0,x,v,_,h1,h2=>by
  cases h1;cases h2
  simp[List.lookup]
 | n::nms,u::us,i+1,x,v,nd,h1,h2=>by
  rw[Hw]at nd;have hx:x∈nms:=Ae (by simpa using h1);have hne:(x == n)=false:=beq_eq_false_iff_ne.mpr λe=>nd.1 (e ▸ hx)
  rw[Ed,Wj,hne];exact Adv nd.2 (by simpa using h1) (by simpa using h2)
theorem Z0:∀{nms:List Str} {us:List V} {x:Str},x∉nms→(nms.zip us).lookup x=none
 | [],_,_,_=>by simp
 | n::nms,[],_,_=>by simp
 | n::nms,u::us,x,h=>by
  have hne:(x == n)=false:=beq_eq_false_iff_ne.mpr λe=>h (by simp[e])
  rw[Ed,Wj,hne];exact Z0 λhx=>h (by simp[hx])
theorem Rep.obj_at{K:KW}{H:Hp}{v:V}{c:Addr}{nms:List Str}{ds:List Dat}(hl:ds.length=nms.length)(hne:nms≠[])(h:Rep K H v (.obj c (Oj (nms.map nmD) ds))):∃a dx us,v = .ref a∧H a=some (.ins c dx (nms.zip us))∧us.length=nms.length∧Reps K H us ds:=by
 rw[Rep]at h
 rcases h with⟨h,_⟩|⟨a,dx,fs,_,h1,h2,h3⟩|⟨a,dx,fs,oe,_,_,_,_,_,h5⟩
 ·exfalso
  cases nms with
  | nil=>exact hne rfl
  | cons n nms=>
   cases ds with
   | nil=>simp at hl
   | cons d ds=>rw[Yzs,Oj]at h;cases h
 ·obtain⟨us,e1,e2,e3⟩:=Aew hl h3
  subst e1;exact⟨a,dx,us,h1,h2,e2,e3⟩
 ·exfalso
  match nms,ds,hl,h5 with
  | [],_,_,_=>exact hne rfl
  | n::nms,[],hl,_=>simp at hl
  | n::nms,d::ds,_,h5=>
   rw[Yzs,Oj,Reps,nmD,Rep]at h5;exact nomatch h5.1.1
def Ah5(C:Addr)(nms:List Str):Sp:=λvs H Q _=>∃(p dx:Addr) (us:List V),vs = .ref p::us∧us.length=nms.length∧H p=some (.ins C dx [])∧Q .non (upd H p (.ins C dx (nms.zip us)))
structure ClsA(K:PySem.W.Frag)(C:Addr)(nms:List Str):Prop where
 cl:Cls K C
 no:∀x∈nms,NoAttr K C x
 nd:nms.Nodup
 ne:nms≠[]
 sz:∀x∈nms,x.cps.toList.length≤sizeLine
structure ClsOk(P:Program)(w:World)(K:PySem.W.Frag)(mg:Str→Option Value)(base:Heap)(C:Addr)(nms:List Str):Prop extends ClsA K C nms where
 ini:∃fi fd ps,Mk K C fi∧ps.length=nms.length+1∧FnOk P w K mg base CX0 1 fi fd ps (Ah5 C nms)∧L2.Binds K fd ps []
section
variable{X:Cx}{k:Nat}{n n' i:Nat}{x m:Str}{p pos apos:Pos}{e o:Expr}{es:List Expr}{fs:Env→(List Dat→Prop)→Prop}{fo:Env→(Dat→Prop)→Prop}{C:Addr}{nms:List Str}
theorem RoomG.room2{A:Around}(r:RoomG k A):Room 2 A:=⟨r.hd,by have:=r.dp;omega,by have:=r.un;omega⟩
theorem Apy(c:ClsOk X.prog X.w X.K X.mg X.base C nms)(hr:RoomG k X.A)(hg:Gl X x)(hm:X.mg x=some (.ref C))(hdb:(x == ("__debug__" : Str))=false)
  (ha:QA X (e::es) n (RLv X.kw) fs) (he:starEach (e::es) X.env=(false,eval e X.env)::starEach es X.env) (hpl:(backTo pos (starEach es X.env)).any (·.1)=false) :
  QE X (.Call (.Name x p) (e::es) [] pos) n (RV X.kw) (λδ Q=>fs δ λds=>ds.length=nms.length∧Q (.obj C (Oj (nms.map nmD) ds))):=λE pins s σ H δ m Φ ht I er pl hf=>by
 obtain⟨fi,fd,ps,M,hps,F,hb⟩:=c.ini;refine wpAny_Call_Name_kw (ld_glob I hg hm ?_ hdb);refine PySem.W.callWith_K (h₀:=X.base) I.ok.mod.kin M.kp (thn (ha pos E pins s σ H δ m _ ht I er pl hf) λus s1 ⟨t1,vs,H1,ds,I1,r1,st1,b1,hl,q1⟩=>⟨I1.kIn,?_⟩) he hpl;have hul:vs.length=nms.length:=by rw[Reps.length b1,hl]
 refine Cr t1 (run_make (X:=X.wish E) (E:=E0) (Q:=λv H'=>∃p dx,v = .ref p∧H1 p=none∧H1 dx=none∧dx≠p∧H'=upd (upd H1 dx (.own p)) p (.ins C dx (nms.zip vs))) M F hr.room2 hb .nil pass0 (I1.wish E) r1 λq dx hq hdx hne=>?_) λw s' t ⟨v,H',I',rv,q,dx,e1,hq,hdx,hne,e2⟩=>?_
 ·rw[Bu]
  refine⟨q,dx,vs,rfl,hul,upd_same,rfl,q,dx,rfl,hq,hdx,hne,?_⟩;rw[upd_upd]
 ·subst e1 e2
  have st2:Step 0 H1 (upd H1 dx (.own q)):=Step.upd hdx λz e=>nomatch e
  have hq2:upd H1 dx (.own q) q=none:=by rw[upd_ne (λz=>hne z.symm)];exact hq
  have st3:Step 0 (upd H1 dx (.own q)) (upd (upd H1 dx (.own q)) q (.ins C dx (nms.zip vs))):=Step.upd hq2 λz e=>nomatch e
  refine⟨t,.ref q,_,_,I'.unwish,rv,(st1.trans (st2.trans st3)).mono (by omega),?_,q1⟩;show Rep _ _ _ _
  rw[Rep];refine .inr (.inl ⟨q,dx,_,λz=>?_,rfl,upd_same,Aev c.sz hul (Reps.ext (st2.trans st3).ext _ _ b1)⟩)
  cases hnm:nms with
  | nil=>exact c.ne hnm
  | cons y ys=>
   rw[hnm]at z hl
   cases ds with
   | nil=>simp at hl
   | cons d ds=>rw[Yzs,Oj]at z;cases z
theorem Ap6(c:ClsA X.K C nms)(hx:nms[i]? = some x)(ho:QE X o n (RV X.kw) fo)(hb:attributeBase o x X.env (eval o X.env)=eval o X.env) :
  QE X (.Attribute o x pos) n (RV X.kw) (λδ Q=>fo δ λd=>∃vs y,d = .obj C (Oj (nms.map nmD) vs)∧vs.length=nms.length∧vs[i]? = some y∧Q y):=λE pins s σ H δ m Φ ht I er pl hf=>by
 refine attr_of hb (thn (ho E pins s σ H δ m _ ht I er pl hf) λu s1 ⟨t1,v,H1,d,I1,r1,st1,b1,vs,y,ed,hl,hy,q1⟩=>?_);subst ed;obtain⟨a,dx,us,e1,ha,hul,hu⟩:=Rep.obj_at hl c.ne b1;subst e1;have r1':u = .ref a:=r1;subst r1';obtain⟨w,hw⟩:∃w,us[i]? = some w:=by
  have hi:i < us.length:=by
   rw[hul];exact(Ag.mp hx).1
  exact⟨_,Ab hi⟩
 have rw_:Rep X.kw H1 w y:=by
  obtain⟨y',hy',hr⟩:=Reps.getD hu hw;rw[hy]at hy'
  cases hy'
  exact hr
 exact Cr t1 (getattr_ok (Q:=λu s'=>L2.Inv X pins σ H1 s'∧L2.RelV w u) I1 ha c.cl (c.no x (Ae hx)) (Adv c.nd hx hw) λu s' I' r=>⟨I',r⟩) λu s' t ⟨I',r⟩=>⟨t,w,H1,y,I',r,st1,rw_,q1⟩
variable{f:Addr}{fd:FuncData}{ps:List Str}{W:List Dat→(Dat→Prop)→Prop}{sh:List Src}
theorem Am1{A:Around}{E:Value→Shared→Prop}{s:Shared}{env:PySem.Env}{args:List Expr}{Q:Value→Shared→Prop}{P:Program}{w:World}(hbase:attributeBase o m env (eval o env)=eval o env)
  (hfew:((backTo pos (starEach args env)).all (λx=>!x.1) && (backToKw pos (keywordEach [] env)).all (λx=>x.1.isSome) && decide (args.length+([]:List Keyword).length+(if([]:List Keyword).isEmpty then 0 else 1) < 30))=true) (hline:(apos.endLine == pos.line)=true)
  (h:wpAny (model P w) A (eval o env) (λov s1=>∀pl,wpAny (model P w) A (getMethod ov m pl) (λfx s2=>wpAny (model P w) A (callWith pos fx.1 fx.2 (backTo pos (starEach args env)) (backToKw pos (keywordEach [] env))) Q E s2) E s1) E s):wpAny (model P w) A (eval (.Call (.Attribute o m apos) args [] pos) env) Q E s:=by
 rw[arm_eval_Call,hbase];refine wpAny_bind (wpAny_mono h (λov s1 h1=>wpAny_bind (wpAny_standAt ?_)) λ_ _ e=>e);unfold methodCall;have hf:methodCallForm (args.length+([]:List Keyword).length) (backTo pos (starEach args env)) (backToKw pos (keywordEach [] env))=true:=hfew;rw[hf];refine wpAny_bind (wpAny_holding (wpAny_mono (h1 _) (λfx s2 h2=>?_) λ_ _ e=>e));have hpos:methodCallPos true o env apos pos=pure pos:=by
  unfold methodCallPos;rw[hline];rfl
 show wpAny _ _ (do
  let callPos ← methodCallPos true o env apos pos
  callWith callPos fx.1 fx.2 (backTo pos (starEach args env)) (backToKw pos (keywordEach [] env))) _ _ _
 rw[hpos];exact wpAny_bind (wpAny_pure h2)
theorem Al9(c:ClsA X.K C nms)(hm:Meth X.K C m f)(hmn:m∉nms)(F:FnG X.prog X.w X.K X.mg X.base k f fd ps n'' W)(hr:RoomG k X.A)(hb:Gf X.kw fd ps ((e::es).length+1) [] (Hj ((e::es).length+1)))
  (ho:QE X o n (RV X.kw) fo) (ha:QA X (e::es) n' (RLv X.kw) fs) (hle:∀ δ Φ,fs δ Φ→fs δ λds=>ds.length=(e::es).length∧Φ ds)
  (he:starEach (e::es) X.env=(false,eval e X.env)::starEach es X.env) (hpl:(backTo pos (starEach es X.env)).any (·.1)=false)
  (hbase:attributeBase o m X.env (eval o X.env)=eval o X.env)
  (hfew:((backTo pos (starEach (e::es) X.env)).all (λx=>!x.1) && (backToKw pos (keywordEach [] X.env)).all (λx=>x.1.isSome) && decide ((e::es).length+([]:List Keyword).length+(if([]:List Keyword).isEmpty then 0 else 1) < 30))=true) (hline:(apos.endLine == pos.line)=true) :
  QE X (.Call (.Attribute o m apos) (e::es) [] pos) (n+n'+n'') (RV X.kw) (λδ Q=>fo δ λd=>(∃vs,d = .obj C (Oj (nms.map nmD) vs)∧vs.length=nms.length)∧fs δ λds=>W (d::ds) Q):=λE pins s σ H δ m0 Φ ht I er pl hf=>by
 refine Am1 hbase hfew hline (thn (ho E pins s σ H δ (n'+n''+m0) _ ht I er (pl.mono (by omega)) hf) λu s1 ⟨t1,v,H1,d,I1,r1,st1,b1,⟨vs,ed,hl⟩,q1⟩ _=>?_);have b1':Rep X.kw H1 v d:=b1;rw[ed]at b1';obtain⟨a,dx,us,e1,hA,hul,hu⟩:=Rep.obj_at hl c.ne b1';subst e1;have r1':u = .ref a:=r1;subst r1';refine getmeth_ok I1 hA c.cl hm (Z0 hmn) ?_;refine PySem.W.callWith_K (h₀:=X.base) I1.ok.mod.kin hm.kp (thn (ha pos E pins s1 σ H1 δ (n''+m0) _ t1 I1 (er.ext st1.ext) (st1.pot _ (pl.mono (by omega))) (hle δ _ q1)) λws s2 ⟨t2,zs,H2,ds,I2,r2,st2,b2,hl2,q2⟩=>⟨I2.kIn,?_⟩) he hpl;have hwl:ws.length=(e::es).length:=by rw[← r2.length,Reps.length b2,hl2]
 have st:=st1.trans st2;have q3:W (Dt (Hj ((e::es).length+1)) (d::ds) []) Φ:=by rw[Ai7 (by rw[Yzk,hl2])];exact q2
 have z:=Xe (E:=E) (us:=.ref a::ws) (ws:=[]) (vs:=.ref a::zs) (zs:=[]) (ds:=d::ds) (es:=[]) (ks:=[]) (m:=m0) F hr (by rw[Yzk,hwl];exact hb) rfl t2 I2 (.cons rfl r2) .nil (by rw[Reps];exact⟨Rep.ext st2.ext _ _ b1,b2⟩) (Aa2 H2) st (st.pot _ (pl.mono (by omega))) q3;exact z
end
end SF
namespace SF
open PySem PySem.Spec PyProof.Rows L2
variable[TN]
def Ov(H:Hp)(a:Addr):Hp:=λb=>if b=a then none else H b
theorem Yk{H:Hp}{a:Addr}:Ov H a a=none:=if_pos rfl
theorem Z5(H:Hp)(a:Addr):Ext (Ov H a) H:=λb o h=>by
 unfold Ov at h
 split at h
 ·cases h
 ·exact .inl h
structure FnO(P:Program)(w:World)(K:PySem.W.Frag)(mg:Str→Option Value)(base:Heap)(k:Nat)(f:Addr)(fd:FuncData)(ps:List Str)(n p:Nat)(W:List Dat→(Dat→Prop)→Prop):Prop where
 run:∀(A:Around) (outer:List PySem.Env) (s:Shared) (H:Hp) (args:Args) (us:List Value) (vs:List V) (ds:List Dat) (m:Nat) (Φ:Dat→Prop) (a:Addr) (xs:List V) (l:List Dat),RoomG k A→0 < s.toks→Env0 P w K mg base A outer s H→BindsTo s fd args (ps.zip us)→L2.Vals vs us→vs.length=ps.length→Reps ⟨K,P,w⟩ H vs (ds.set p (.obj a []))→ds[p]? = some (.lst l)→H a=some (.lst xs)→Reps ⟨K,P,w⟩ H xs l→l.length≤sizeLine→PotLe (n+m) H→W ds Φ →
  codeAny (model P w) A (.call (.ref f) args) (λr s'=>∃u,r = .ok (.ret u)∧0 < s'.toks∧CE outer P w H s (λv H'=>∃d ys l',StepS n (Ov H a) H H'∧Rep ⟨K,P,w⟩ H' v d∧H' a=some (.lst ys)∧Reps ⟨K,P,w⟩ H' ys l'∧l'.length≤sizeLine∧Φ (.tup [d,.lst l'])) u s') s
theorem FnO.mono{P:Program}{w:World}{K:PySem.W.Frag}{mg:Str→Option Value}{base:Heap}{k k':Nat}{f:Addr}{fd:FuncData}{ps:List Str}{n n' p:Nat}{W:List Dat→(Dat→Prop)→Prop}(F:FnO P w K mg base k f fd ps n p W)(hk:k≤k')(hn:n≤n'):FnO P w K mg base k' f fd ps n' p W:=
 ⟨λA outer s H args us vs ds m Φ a xs l hr t e0 hb r hl hrep h1 h2 h3 h4 pl hW=>codeAny_mono (F.run A outer s H args us vs ds m Φ a xs l (hr.mono hk) t e0 hb r hl hrep h1 h2 h3 h4 (pl.mono (by omega)) hW) λr s' ⟨u,e,t',v,H',h1,h2,h3,h4,h5,d,ys,l',st,h6⟩=>⟨u,e,t',v,H',h1,h2,h3,h4,h5,d,ys,l',st.mono hn,h6⟩⟩
section
variable{X:Cx}{n n' n'' i j p:Nat}{e:Expr}{es es2:List Expr}{x y g:Str}{px py pg apos cpos pos:Pos}
def QAo(X:Cx)(es:List Expr)(j p n:Nat)(fs:Env→(List Dat→List Dat→Prop)→Prop):Prop:=
 ∀(pos:Pos) (E:Value→Shared→Prop) (pins:List (Addr×Obj)) (s:Shared) (σ:L2.St) (H:Hp) (δ:Env) (m:Nat) (Φ:List Dat→List Dat→Prop) (a:Addr),0 < s.toks→L2.Inv X pins σ H s→EnvRep X.kw σ H δ→σ[j]? = some (some (.ref a))→PotLe (n+m) H→fs δ Φ →
  wpAny (model X.prog X.w) X.A (spliced (backTo pos (starEach es X.env))) (λus s'=>0 < s'.toks∧∃vs H' d1 d2,L2.Inv X pins σ H' s'∧L2.Vals vs us∧Step n H H'∧Reps X.kw H' vs (d1 ++ .obj a []::d2)∧d1.length=p∧Φ d1 d2) E s
end
end SF
namespace SF
open PySem PySem.Spec PyProof.Rows L2
variable[TN]
structure FnR(P:Program)(w:World)(K:PySem.W.Frag)(mg:Str→Option Value)(base:Heap)(k:Nat)(f:Addr)(fd:FuncData)(ps:List Str)(n:Nat)(W:List Dat→(Dat→Prop)→Prop):Prop where
 run:∀(A:Around) (outer:List PySem.Env) (s:Shared) (H:Hp) (args:Args) (us:List Value) (vs:List V) (ds:List Dat) (m:Nat) (Φ:Dat→Prop),RoomG k A→0 < s.toks→Env0 P w K mg base A outer s H→BindsTo s fd args (ps.zip us)→L2.Vals vs us→vs.length=ps.length→Reps ⟨K,P,w⟩ H vs ds→PotLe (n+m) H→W ds Φ →
  codeAny (model P w) A (.call (.ref f) args) (λr s'=>∃u,r = .ok (.ret u)∧0 < s'.toks∧CE outer P w H s (λv H'=>∃d,Step n H H'∧RO ⟨K,P,w⟩ H H' v d∧Φ d) u s') s
section
variable{P:Program}{w:World}{K:PySem.W.Frag}{mg:Str→Option Value}{base:Heap}{k k' n n':Nat}{f:Addr}{fd:FuncData}{ps:List Str}{W W':List Dat→(Dat→Prop)→Prop}
theorem FnR.imp(F:FnR P w K mg base k f fd ps n W)(h:∀ds Φ,W' ds Φ→W ds Φ):FnR P w K mg base k f fd ps n W':=
 ⟨λA outer s H args us vs ds m Φ hr t e0 hb r hl hrep pl hW=>F.run A outer s H args us vs ds m Φ hr t e0 hb r hl hrep pl (h _ _ hW)⟩
end
theorem RO.back{K:KW}{H0 H H':Hp}{n:Nat}{v:V}{d:Dat}(st:Step n H0 H)(h:RO K H H' v d):RO K H0 H' v d:=by
 rcases h with⟨a,e,h0,o⟩|h
 ·refine .inl ⟨a,e,?_,o⟩
  cases q:H0 a with
  | none=>rfl
  | some u=>
   exfalso
   rcases st.ext a u q with z|⟨_,_,z⟩|⟨_,_,z⟩<;>(rw[h0]at z;cases z)
 ·exact .inr h
end SF
namespace SF
open PySem PySem.Spec PyProof.Rows L2
variable[TN]
theorem N8:∀{fs:List (Str×V)} {f:Str} {v:V},(∀q∈fs,q.1≠f)→putF f v fs=fs++[(f,v)]
 | [],_,_,_=>rfl
 | (g,u)::fs,f,v,h=>by
  have e:putF f v ((g,u)::fs)=if g=f then(g,v)::fs else(g,u)::putF f v fs:=rfl
  rw[e,if_neg (h (g,u) (by simp)),N8 λq hq=>h q (by simp[hq])];rfl
def M5(C dx p:Addr):HO:=.ext λh=>h.get? p=some (PySem.W.instObj C dx)
def Nf(dx:Addr)(fs:List (Str×V)):HO:=.ext λh=>fs.length≤1000∧∃mA,h.Ns1 dx mA∧(∀f,RelO (fs.lookup f) (mA f))∧PySem.Within mA (fs.map (·.1))
theorem Ajf{φ:Heap→Prop}(h:∀hp:Heap,φ hp→∃(a:Addr) (o:Obj),hp.get? a=some o∧∀its n,o.data ≠ .seq its n)(b:Addr)(z:Nat):HO.ext φ≠Gm b z:=λe=>by
 have ef:=congrFun (HO.ext.inj e);obtain⟨hp,hz,hh⟩:=Uz { cls:=.type "list", data:=.seq #[.int 0 0,.int 0 0,.int 0 0] 0 } rfl b;have q:=(ef (hp.push { cls:=.type "list", data:=.seq #[.int 0 0,.int 0 0,.int 0 0] 0 })).mpr ⟨0,0,0,0,0,0,0,by rw[← hz];exact Heap.get?_push_size _ rfl,by decide,Int.pow_pos (by decide),by decide,by decide,by decide,by omega⟩;obtain⟨a,o,ho,no⟩:=h _ q;by_cases ha:a=hp.objs.size
 ·rw[ha,Heap.get?_push_size _ rfl]at ho
  exact no _ _ (congrArg Obj.data (Aj.inj ho)).symm
 ·rw[Heap.get?_push_ne _ _ _ ha]at ho
  exact no _ _ (congrArg Obj.data (hh a o ho))
theorem Afx{C dx p:Addr}:Chg (M5 C dx p):=.inr (.inr ⟨_,rfl,λb z=>Ajf (λhp q=>⟨p,_,q,λits n e=>by unfold PySem.W.instObj at e;cases e⟩) b z⟩)
theorem Kd{dx:Addr}{fs:List (Str×V)}:Chg (Nf dx fs):=.inr (.inr ⟨_,rfl,λb z=>Ajf (λhp q=>by
 obtain⟨_,mA,⟨o,es,ep,e,hd,_⟩,_⟩:=q;exact⟨dx,o,e,λits n z=>by rw[hd]at z;cases z⟩) b z⟩)
section
variable{X:Cx}{pins:List (Addr×Obj)}{σ:L2.St}{H:Hp}{s:Shared}{p dx C:Addr}{fs:List (Str×V)}
theorem Afb{u v:HO}(I:L2.Inv X pins σ H s)(ne:dx≠p){a b:HO}(hp:H p=some a)(hd:H dx=some b)(na:∀z,a ≠ .own z∨z=dx)(nb:∀z,b ≠ .own z∨z=p)
  (ka:(∀ys,a ≠ .tup ys)∧(∀o x,a ≠ .frz o x)∧∀ps,a ≠ .tbl ps) (kb:(∀ys,b ≠ .tup ys)∧(∀o x,b ≠ .frz o x)∧∀ps,b ≠ .tbl ps)
  (h1:ObjOk X.prog X.w (L2.upd (L2.upd H dx v) p u) s.heap p u) (h2:ObjOk X.prog X.w (L2.upd (L2.upd H dx v) p u) s.heap dx v):L2.Inv X pins σ (L2.upd (L2.upd H dx v) p u) s:=by
 have there:∀{c:Addr} {x:HO},H c=some x→x≠a→x≠b→(L2.upd (L2.upd H dx v) p u) c=some x:=λ{c x} hc n1 n2=>by
  rw[upd_ne (λe=>by subst e;rw[hp]at hc;cases hc;exact n1 rfl),upd_ne (λe=>by subst e;rw[hd]at hc;cases hc;exact n2 rfl)];exact hc
 have un:Un X.fs [] H (L2.upd (L2.upd H dx v) p u) s.heap s.heap:=by
  refine⟨λb o q _ _ _=>q,λb o q _ _ _=>⟨o.slots,q⟩,λc o q nn _=>?_,λb o q _=>⟨o,q⟩,λc ys q=>there q (ka.1 ys).symm (kb.1 ys).symm,λc o x q=>there q (ka.2.1 o x).symm (kb.2.1 o x).symm,λc ps q=>⟨#[],?_⟩⟩
  ·rw[upd_ne (λe=>by subst e;rw[hp]at nn;cases nn),upd_ne (λe=>by subst e;rw[hd]at nn;cases nn)]
   exact nn
  ·rw[there q (ka.2.2 ps).symm (kb.2.2 ps).symm]
   simp
 refine I.un (h':=s.heap) (t':=s.toks) un λc x q=>?_
 by_cases h3:c=p
 ·subst h3
  rw[upd_same]at q
  cases q
  exact h1
 ·rw[upd_ne h3]at q
  by_cases h4:c=dx
  ·subst h4
   rw[upd_same]at q
   cases q
   exact h2
  ·rw[upd_ne h4]at q
   refine(I.hok c x q).stay (λ_ _ _ z=>z) (λd w=>there w (λe=>?_) λe=>?_) λd ys w=>there w (λe=>(ka.1 ys) e.symm) λe=>(kb.1 ys) e.symm
   ·rcases na c with z|z
    ·exact z e.symm
    ·exact h4 z
   ·rcases nb c with z|z
    ·exact z e.symm
    ·exact h3 z
theorem Aks(I:L2.Inv X pins σ H s)(h:H p=some (.ins C dx fs)):L2.Inv X pins σ (L2.upd (L2.upd H dx (Nf dx fs)) p (M5 C dx p)) s:=by
 obtain⟨hd,hl,ne,e,mA,ns,rel,wi⟩:=I.hok p _ h;refine Afb I ne h hd (λz=>.inl λq=>nomatch q) (λz=>?_) ⟨λ_ q=>(nomatch q),λ_ _ q=>(nomatch q),λ_ q=>nomatch q⟩ ⟨λ_ q=>(nomatch q),λ_ _ q=>(nomatch q),λ_ q=>nomatch q⟩ ?_ ?_
 ·by_cases q:z=p
  ·exact .inr q
  ·exact .inl λe=>q (HO.own.inj e).symm
 ·exact⟨e,⟨_,e⟩,λh1 h2 q k=>k _ q⟩
 ·refine⟨⟨hl,mA,ns,rel,wi⟩,?_,λh1 h2 ⟨q1,m,q2,q3⟩ k=>⟨q1,m,q2.at k,q3⟩⟩
  obtain⟨o,_,_,q,_⟩:=ns;exact⟨o,q⟩
theorem Akr(I:L2.Inv X pins σ H s)(ne:dx≠p)(hp:H p=some (M5 C dx p))(hd:H dx=some (Nf dx fs)):L2.Inv X pins σ (L2.upd (L2.upd H dx (.own p)) p (.ins C dx fs)) s:=by
 obtain⟨e,_⟩:=I.hok p _ hp;obtain⟨⟨hl,mA,ns,rel,wi⟩,ho,_⟩:=I.hok dx _ hd;refine Afb I ne hp hd (λz=>.inl λq=>nomatch q) (λz=>.inl λq=>nomatch q) ⟨λ_ q=>(nomatch q),λ_ _ q=>(nomatch q),λ_ q=>nomatch q⟩ ⟨λ_ q=>(nomatch q),λ_ _ q=>(nomatch q),λ_ q=>nomatch q⟩ ?_ ho;exact⟨by rw[upd_ne ne,upd_same],hl,ne,e,mA,ns,rel,wi⟩
theorem Aie{A:Around}{E:Value→Shared→Prop}{f:Str}{y:V}{u:Value}{Q:Unit→Shared→Prop}(I:L2.Inv X pins σ H s)(ne:dx≠p)(hp:H p=some (M5 C dx p))(hd:H dx=some (Nf dx fs))(c:Cls X.K C)(n:NoAttr X.K C f)(hl:fs.length < 1000)(hf:∀q∈fs,q.1≠f)(ry:L2.RelV y u)
  (q:∀s',L2.Inv X pins σ (L2.upd H dx (Nf dx (fs++[(f,y)]))) s'→Q () s'):wpAny (model X.prog X.w) A (setAttr (.ref p) f u) Q E s:=by
 refine setattr_ok (Akr I ne hp hd) upd_same c n hl ry λs' I'=>q s' ?_
 have z:=Aks I' upd_same;rw[N8 hf]at z;have e:L2.upd (L2.upd (L2.upd (L2.upd (L2.upd H dx (.own p)) p (.ins C dx fs)) p (.ins C dx (fs++[(f,y)]))) dx (Nf dx (fs++[(f,y)]))) p (M5 C dx p)=L2.upd H dx (Nf dx (fs++[(f,y)])):=by
  funext b
  by_cases h1:b=p
  ·subst h1;rw[upd_same,upd_ne (Ne.symm ne),hp]
  ·rw[upd_ne h1]
   by_cases h2:b=dx
   ·subst h2;rw[upd_same,upd_same]
   ·rw[upd_ne h2,upd_ne h1,upd_ne h1,upd_ne h2,upd_ne h2]
 rwa [e]at z
end
structure FnI(P:Program)(w:World)(K:PySem.W.Frag)(mg:Str→Option Value)(base:Heap)(k:Nat)(C:Addr)(nms:List Str)(f:Addr)(fd:FuncData)(ps:List Str)(n:Nat)(W:List Dat→(Dat→Prop)→Prop):Prop where
 run:∀(A:Around) (outer:List PySem.Env) (s:Shared) (H0 H:Hp) (args:Args) (us:List Value) (vs:List V) (ds:List Dat) (m:Nat) (Φ:Dat→Prop) (p dx:Addr),A.handled=none→A.depth < recursionLimit→(∀env,RoomG k (A.deeper env))→0 < s.toks→Env0 P w K mg base A outer s H→BindsTo s fd args (ps.zip us)→L2.Vals vs us→vs.length=ps.length →
  dx≠p→H0 p=none→H0 dx=none→Step 0 H0 H→H p=some (M5 C dx p)→H dx=some (Nf dx [])→Reps ⟨K,P,w⟩ H vs (.obj p []::ds)→PotLe (n+m) H→W ds Φ →
  codeAny (model P w) A (.call (.ref f) args) (λr s'=>∃u,r = .ok (.ret u)∧0 < s'.toks∧CE outer P w H s (λv H'=>v = .non∧H' p=some (M5 C dx p)∧∃fs es,fs.length=nms.length∧H' dx=some (Nf dx (nms.zip fs))∧Step n H0 H'∧Reps ⟨K,P,w⟩ H' fs es∧Φ (.tup es)) u s') s
theorem FnI.imp{P:Program}{w:World}{K:PySem.W.Frag}{mg:Str→Option Value}{base:Heap}{k:Nat}{C:Addr}{nms:List Str}{f:Addr}{fd:FuncData}{ps:List Str}{n:Nat}{W W':List Dat→(Dat→Prop)→Prop}(F:FnI P w K mg base k C nms f fd ps n W)(h:∀ds Φ,W' ds Φ→W ds Φ):FnI P w K mg base k C nms f fd ps n W':=
 ⟨λA outer s H0 H args us vs ds m Φ p dx h1 h2 h3 t e0 hb r hl g1 g2 g3 g4 g5 g6 hrep pl hW=>F.run A outer s H0 H args us vs ds m Φ p dx h1 h2 h3 t e0 hb r hl g1 g2 g3 g4 g5 g6 hrep pl (h _ _ hW)⟩
theorem RoomG.made{k:Nat}{A:Around}(r:RoomG (k+1) A)(C:Addr)(us:List Value)(env:PySem.Env):RoomG k ((A.under (.builtin "type.__call__" ⟨.ref C::us,[]⟩)).deeper env):=by
 have d:=make_depth (A:=A) (C:=C) (us:=us) (kw:=[]);have u:=make_units (A:=A) (C:=C) (us:=us) (kw:=[]);have h1:=r.dp;have h2:=r.un;exact⟨r.hd,by show(A.under (.builtin "type.__call__" ⟨.ref C::us,[]⟩)).depth+1+3*k+20 < _;rw[d];omega,by show(A.under (.builtin "type.__call__" ⟨.ref C::us,[]⟩)).units+3+16*k+400 < _;rw[u];omega,r.gu⟩
end SF
namespace SF
open PySem PySem.Spec PyProof.Rows L2
variable[TN]
section
variable{X:Cx}{n n' n'' i j p:Nat}{e ix:Expr}{es:List Expr}{x y g:Str}{px py pg apos cpos apos2 cpos2 pos cp2:Pos}{fx fa:Env→(Dat→Prop)→Prop}
def QAP(X:Cx)(es:List Expr)(n:Nat)(fs:Env→(List Dat→Env→Prop)→Prop):Prop:=
 ∀(pos:Pos) (E:Value→Shared→Prop) (pins:List (Addr×Obj)) (s:Shared) (σ:L2.St) (H0 H:Hp) (δ:Env) (m:Nat) (Φ:List Dat→Env→Prop),0 < s.toks→L2.Inv X pins σ H s→EnvS X.kw σ H0 H δ→Ext H0 H→PotLe (n+m) H→fs δ Φ →
  wpAny (model X.prog X.w) X.A (spliced (backTo pos (starEach es X.env))) (λus s'=>0 < s'.toks∧∃vs H' ds δ',L2.Inv X pins σ H' s'∧L2.Vals vs us∧Reps X.kw H' vs ds∧EnvS X.kw σ H0 H' δ'∧StepS n H0 H H'∧Φ ds δ') E s
end
def Tk(p:Nat)(a:Addr)(σ:L2.St)(δ:Env):Prop:=∀d,δ[p]? = some (Slot.own d)→σ[p]? = some (some (.ref a))
theorem Tk.kp{p:Nat}{a:Addr}{σ σ':L2.St}{δ δ':Env}{vs:List Nat}(t:Tk p a σ δ)(k:Kp vs σ δ σ' δ'):Tk p a σ' δ':=λd h=>(k.1 p d h).2.trans (t d (k.1 p d h).1)
theorem Tk.put{p j:Nat}{a:Addr}{σ:L2.St}{δ:Env}{d0 d1:Dat}(t:Tk p a σ δ)(hj:δ[j]? = some (Slot.own d0)):Tk p a σ (δ.set j (.own d1)):=λd h=>by
 rw[Be]at h;by_cases e:j=p
 ·subst e;exact t d0 hj
 ·simp only[e,if_false]at h;exact t d h
def SOT(X:Cx)(pins:List (Addr×Obj))(p:Nat)(a:Addr)(n:Nat)(H0 H:Hp)(D:Post)(fl:Flow)(s':Shared):Prop:=
 0 < s'.toks∧match fl with
 | .next=>∃ σ' H' δ',Tk p a σ' δ'∧L2.Inv X pins σ' H' s'∧EnvS X.kw σ' H0 H' δ'∧StepS n H0 H H'∧D.nx δ'
 | .ret u=>∃v σ' H' d δ',Tk p a σ' δ'∧L2.Inv X pins σ' H' s'∧L2.RelV v u∧Rep X.kw H' v d∧EnvS X.kw σ' H0 H' δ'∧StepS n H0 H H'∧D.rt δ' d
 | _=>False
def Q1T(X:Cx)(p:Nat)(st:Stmt)(n:Nat)(F:Env→Post→Prop):Prop:=
 ∀(E:Value→Shared→Prop),PassesOwn (model X.prog X.w) X.A X.env E→∀(pins:List (Addr×Obj)) (s:Shared) (σ:L2.St) (H0 H:Hp) (δ:Env) (m:Nat) (D:Post) (a:Addr),0 < s.toks→L2.Inv X pins σ H s→EnvS X.kw σ H0 H δ→Ext H0 H→PotLe (n+m) H→Tk p a σ δ→F δ D →
  wpAny (model X.prog X.w) X.A (PySem.exec st X.env) (SOT X pins p a n H0 H D) E s
def QST(X:Cx)(p:Nat)(sts:List Stmt)(n:Nat)(F:Env→Post→Prop):Prop:=
 ∀(E:Value→Shared→Prop),PassesOwn (model X.prog X.w) X.A X.env E→∀(pins:List (Addr×Obj)) (s:Shared) (σ:L2.St) (H0 H:Hp) (δ:Env) (m:Nat) (D:Post) (a:Addr),0 < s.toks→L2.Inv X pins σ H s→EnvS X.kw σ H0 H δ→Ext H0 H→PotLe (n+m) H→Tk p a σ δ→F δ D →
  wpAny (model X.prog X.w) X.A (PySem.execs sts X.env) (SOT X pins p a n H0 H D) E s
section
variable{X:Cx}{p i i1 i2 j:Nat}{st:Stmt}{sts:List Stmt}{n n' n'':Nat}{e ix:Expr}{pos px py apos cpos pt pt2:Pos}{fe fx:Env→(Dat→Prop)→Prop}{gc:Env→(Bool→Prop)→Prop}{x x1 x2 y:Str}
theorem SOT.le{pins:List (Addr×Obj)}{a:Addr}{H0 H H1:Hp}{D:Post}{fl:Flow}{s':Shared}{k:Nat}(b:StepS n' H0 H H1)(hk:n'+n≤k)(h:SOT X pins p a n H0 H1 D fl s'):SOT X pins p a k H0 H D fl s':=by
 obtain⟨t,h⟩:=h;refine⟨t,?_⟩
 cases fl with
 | next=>obtain⟨σ',H',δ',h0,h1,h2,h3,h4⟩:=h;exact⟨σ',H',δ',h0,h1,h2,(b.trans h3).mono hk,h4⟩
 | ret u=>obtain⟨v,σ',H',d,δ',h0,h1,h2,h3,h6,h4,h5⟩:=h;exact⟨v,σ',H',d,δ',h0,h1,h2,h3,h6,(b.trans h4).mono hk,h5⟩
 | brk=>exact h.elim
 | cont=>exact h.elim
theorem QST.cg{F F':Env→Post→Prop}(h:QST X p sts n F)(hn:n≤n')(e:∀ δ D,F' δ D→F δ D):QST X p sts n' F':=λE hE pins s σ H0 H δ m D a t I es ex pl h0 hf=>
 thn (h E hE pins s σ H0 H δ m D a t I es ex (pl.mono (by omega)) h0 (e _ _ hf)) λf s1 q=>q.le (StepS.refl ex) (by omega)
theorem Q1T.cg{F F':Env→Post→Prop}(h:Q1T X p st n F)(hn:n≤n')(e:∀ δ D,F' δ D→F δ D):Q1T X p st n' F':=λE hE pins s σ H0 H δ m D a t I es ex pl h0 hf=>
 thn (h E hE pins s σ H0 H δ m D a t I es ex (pl.mono (by omega)) h0 (e _ _ hf)) λf s1 q=>q.le (StepS.refl ex) (by omega)
end
end SF
namespace SF
open PySem PySem.Spec PyProof.Rows L2
variable[TN]
def ExR(K:KW)(G:Nat→Option Dat)(H:Hp)(cls:Value)(d:Option Addr)(c:Nat)(y:Dat):Prop:=∃(p:Addr) (ns:List Dat),cls = .ref p∧gX G c=some (.obj p ns) ∧
 ((∃fn dx w x,ns=[.str fn]∧y = .tup [x]∧d=some dx∧fn.length≤sizeLine∧H dx=some (.xd [(⟨fn.toArray⟩,w)])∧Rep K H w x)∨(ns=[]∧y = .tup []∧d=none))
theorem ExR.ext{K:KW}{G:Nat→Option Dat}{H H':Hp}{cls:Value}{d:Option Addr}{c:Nat}{y:Dat}(e:Ext H H')(h:ExR K G H cls d c y):ExR K G H' cls d c y:=by
 obtain⟨p,ns,h1,h2,h3⟩:=h;refine⟨p,ns,h1,h2,?_⟩
 rcases h3 with⟨fn,dx,w,x,a1,a2,a3,a4,a5,a6⟩|h3
 ·exact .inl ⟨fn,dx,w,x,a1,a2,a3,a4,e.keep a5 (λ_ q=>nomatch q),Rep.ext e _ _ a6⟩
 ·exact .inr h3
def XO(P:Program)(w:World)(K:PySem.W.Frag)(G:Nat→Option Dat)(outer:List PySem.Env)(H:Hp)(s:Shared)(n:Nat)(Φ:Dat→Prop)(r:Result)(s':Shared):Prop:=
 0 < s'.toks∧match r with
 | .ok (.ret u)=>CE outer P w H s (λv H'=>∃d,Step n H H'∧Rep ⟨K,P,w⟩ H' v d∧Φ (.tup [d])) u s'
 | .error e=>L2.CX P w outer H s (λcls d H'=>∃(c:Nat) (y:Dat),Step n H H'∧ExR ⟨K,P,w⟩ G H' cls d c y∧Φ (.tup [.int c,y])) e s'
 | _=>False
structure FnX(P:Program)(w:World)(K:PySem.W.Frag)(G:Nat→Option Dat)(mg:Str→Option Value)(base:Heap)(k:Nat)(f:Addr)(fd:FuncData)(ps:List Str)(n:Nat)(W:List Dat→(Dat→Prop)→Prop):Prop where
 run:∀(A:Around) (outer:List PySem.Env) (s:Shared) (H:Hp) (args:Args) (us:List Value) (vs:List V) (ds:List Dat) (m:Nat) (Φ:Dat→Prop),RoomG k A→0 < s.toks→Env0 P w K mg base A outer s H→BindsTo s fd args (ps.zip us)→L2.Vals vs us→vs.length=ps.length→Reps ⟨K,P,w⟩ H vs ds→PotLe (n+m) H→W ds Φ →
  codeAny (model P w) A (.call (.ref f) args) (XO P w K G outer H s n Φ) s
def XA(X:Cx)(G:Nat→Option Dat)(σ:L2.St)(n:Nat)(H:Hp)(Φ:Dat→Prop)(u:Value)(s':Shared):Prop:=
 0 < s'.toks∧XE X (λcls d σ' H'=>σ'=σ∧∃(c:Nat) (y:Dat),Step n H H'∧ExR X.kw G H' cls d c y∧Φ (.tup [.int c,y])) u s'
theorem Yi{X:Cx}{W W':WX}{u:Value}{s':Shared}(h:∀cls d σ H,W cls d σ H→W' cls d σ H)(x:XE X W u s'):XE X W' u s':=by
 obtain⟨a,B,sI,pins,σ,H,cls,d,e,I,nb,up,sky,na,os,ag,w⟩:=x;exact⟨a,B,sI,pins,σ,H,cls,d,e,I,nb,up,sky,na,os,ag,h _ _ _ _ w⟩
def QR(X:Cx)(G:Nat→Option Dat)(ex:Expr)(n:Nat)(f:Env→(Dat→Prop)→Prop):Prop:=
 ∀(E:Value→Shared→Prop) (pins:List (Addr×Obj)) (s:Shared) (σ:L2.St) (H:Hp) (δ:Env) (m:Nat) (Φ:Dat→Prop),0 < s.toks→L2.Inv X pins σ H s→EnvRep X.kw σ H δ→Ext X.H_0 H→PotLe (n+m) H→(∀u s',XA X G σ n H Φ u s'→E u s')→f δ Φ →
  wpAny (model X.prog X.w) X.A (eval ex X.env) (PX X pins σ n H (RV X.kw) λd=>Φ (.tup [d])) E s
section
variable{X:Cx}{G:Nat→Option Dat}{k:Nat}{f:Addr}{fd:FuncData}{ps ks:List Str}{n n' n'':Nat}{W:List Dat→(Dat→Prop)→Prop}{x:Str}{p pos:Pos}{e:Expr}{es:List Expr}{kws:List Keyword}{fs fk:Env→(List Dat→Prop)→Prop}{sh:List Src}
theorem XO.wp{pins:List (Addr×Obj)}{σ:L2.St}{H0 H:Hp}{s:Shared}{Φ:Dat→Prop}{E:Value→Shared→Prop}(I:L2.Inv X pins σ H s)(st:Step n' H0 H)(hE:∀u s',XA X G σ (n'+n) H0 Φ u s'→E u s'){f:Value}{us:List Value}{kw:List (Str×Value)}
  (h:codeAny (model X.prog X.w) X.A (.call f ⟨us,kw⟩) (XO X.prog X.w X.K G X.stack H s n Φ) s):wpAny (model X.prog X.w) X.A (call f us kw) (PX X pins σ (n'+n) H0 (RV X.kw) λd=>Φ (.tup [d])) E s:=by
 refine wpAny_call (codeAny_mono h λr s' ⟨t',q⟩=>?_)
 cases r with
 | error e=>
  refine hE _ _ ⟨t',XE.of_call I (λcls d H' z=>?_) q⟩;obtain⟨c,y,ex,er,hq⟩:=z;exact⟨rfl,c,y,st.trans ex,er,hq⟩
 | ok fl=>
  cases fl with
  | ret u=>
   obtain⟨v,H',I',rv,d,st',rd,hq⟩:=I.after q;exact⟨t',v,H',d,I',rv,st.trans st',rd,hq⟩
  | next=>exact q.elim
  | brk=>exact q.elim
  | cont=>exact q.elim
end
def XS(X:Cx)(G:Nat→Option Dat)(n:Nat)(H:Hp)(ex:Env→Dat→Prop)(u:Value)(s':Shared):Prop:=
 0 < s'.toks∧XE X (λcls d σ' H'=>∃(δ':Env) (c:Nat) (y:Dat),EnvS X.kw σ' X.H_0 H' δ'∧StepS n X.H_0 H H'∧ExR X.kw G H' cls d c y∧ex δ' (.tup [.int c,y])) u s'
def Q1X(X:Cx)(G:Nat→Option Dat)(st:Stmt)(n:Nat)(F:Env→Post→Prop):Prop:=
 ∀(E:Value→Shared→Prop),PassesOwn (model X.prog X.w) X.A X.env E→∀(pins:List (Addr×Obj)) (s:Shared) (σ:L2.St) (H:Hp) (δ:Env) (m:Nat) (D:Post),0 < s.toks→L2.Inv X pins σ H s→EnvS X.kw σ X.H_0 H δ→Ext X.H_0 H→PotLe (n+m) H→(∀u s',XS X G n H D.ex u s'→E u s')→F δ D →
  wpAny (model X.prog X.w) X.A (PySem.exec st X.env) (SO X pins n X.H_0 H D) E s
def QSX(X:Cx)(G:Nat→Option Dat)(sts:List Stmt)(n:Nat)(F:Env→Post→Prop):Prop:=
 ∀(E:Value→Shared→Prop),PassesOwn (model X.prog X.w) X.A X.env E→∀(pins:List (Addr×Obj)) (s:Shared) (σ:L2.St) (H:Hp) (δ:Env) (m:Nat) (D:Post),0 < s.toks→L2.Inv X pins σ H s→EnvS X.kw σ X.H_0 H δ→Ext X.H_0 H→PotLe (n+m) H→(∀u s',XS X G n H D.ex u s'→E u s')→F δ D →
  wpAny (model X.prog X.w) X.A (PySem.execs sts X.env) (SO X pins n X.H_0 H D) E s
theorem XS.le{X:Cx}{G:Nat→Option Dat}{n n' k:Nat}{H H1:Hp}{ex:Env→Dat→Prop}{u:Value}{s':Shared}(st:StepS n' X.H_0 H H1)(h:n'+n≤k)(x:XS X G n H1 ex u s'):XS X G k H ex u s':=
 ⟨x.1,Yi (λ_ _ _ _ ⟨δ',c,y,a1,a2,a3⟩=>⟨δ',c,y,a1,(st.trans a2).mono h,a3⟩) x.2⟩
section
variable{X:Cx}{G:Nat→Option Dat}{st:Stmt}{sts body:List Stmt}{n n' n'' i:Nat}{e iter tg c:Expr}{pos px:Pos}{fe fi:Env→(Dat→Prop)→Prop}{gc:Env→(Bool→Prop)→Prop}{F Fa Fb:Env→Post→Prop}{p:P}{z:Bool}{x:Str}
theorem Q1X.cg{F F':Env→Post→Prop}(h:Q1X X G st n F)(hn:n≤n')(e:∀ δ D,F' δ D→F δ D):Q1X X G st n' F':=λE hE pins s σ H δ m D t I es ex pl hx hf=>
 thn (h E hE pins s σ H δ m D t I es ex (pl.mono (by omega)) (λu s' q=>hx u s' (q.le (StepS.refl ex) (by omega))) (e _ _ hf)) λf s1 q=>q.le (StepS.refl ex) (by omega)
theorem QSX.cg{F F':Env→Post→Prop}(h:QSX X G sts n F)(hn:n≤n')(e:∀ δ D,F' δ D→F δ D):QSX X G sts n' F':=λE hE pins s σ H δ m D t I es ex pl hx hf=>
 thn (h E hE pins s σ H δ m D t I es ex (pl.mono (by omega)) (λu s' q=>hx u s' (q.le (StepS.refl ex) (by omega))) (e _ _ hf)) λf s1 q=>q.le (StepS.refl ex) (by omega)
theorem XA.s{σ:L2.St}{H:Hp}{δ:Env}{t:XT}{D:Post}{u:Value}{s':Shared}(es:EnvS X.kw σ X.H_0 H δ)(ex:Ext X.H_0 H)(h:XA X G σ n H (Atd t δ D) u s'):XS X G n H D.ex u s':=
 ⟨h.1,Yi (λcls d σ' H' ⟨e,c,y,st,er,q⟩=>by
  subst e;refine⟨δ,c,y,es.ext st.ext,.of ex st,er,?_⟩
  rcases q with⟨_,z,_⟩|⟨_,_,_,q⟩
  ·exact absurd (congrArg (λd:Dat=>match d with | .tup l=>l.length|_=>0) z) (by show ¬ (2=1);decide)
  ·exact q) h.2⟩
end
end SF
namespace SF
open PySem PySem.Spec PyProof.Rows L2
variable[TN]
def spX(C:Addr)(fn:Str):Sp:=λvs H Q _=>∃(a:Addr) (y:V),vs=[.ref a,y]∧H a=some (exo a C none)∧∀dx,H dx=none→dx≠a→Q .non (upd (upd H dx (exd dx [(fn,y)])) a (exo a C (some dx)))
structure XcOk(P:Program)(w:World)(K:PySem.W.Frag)(mg:Str→Option Value)(base:Heap)(C:Addr)(fn:Str):Prop where
 oex:OexC K C
 xf:XfC K C
 ec:ExcC K C
 is:(PySem.W.clsIn K C).isSome=true
 no:PySem.W.findIn K (.ref C) fn=some none
 init:∃(fI:Addr) (fd:FuncData) (ps:List Str),PySem.W.findIn K (.ref C) "__init__" = some (some (.ref fI))∧PySem.W.typeIn K (.ref fI)=some (.type "function")∧FnOk P w K mg base CX0 1 fI fd ps (spX C fn)∧Binds K fd ps []
end SF
namespace SF
open PySem PySem.Spec PyProof.Rows L2
variable[TN]
section
variable{X:Cx}{G:Nat→Option Dat}{pins:List (Addr×Obj)}{σ:L2.St}{H:Hp}{s:Shared}{a:Addr}{oe:Obj}
def Arx(X:Cx)(G:Nat→Option Dat)(cs:List Nat)(t:Expr):Prop:=∃(x:Str) (np:Pos) (C:Addr) (c':Nat),t = .Name x np∧cs=[c']∧Gl X x∧(x == ("__debug__" : Str))=false∧X.mg x=some (.ref C) ∧
 ∀(c:Nat) (q:Addr) (ns:List Dat),gX G c=some (.obj q ns)→PySem.W.exmOne X.K (.ref q) (.ref C)=some (Yq c (some c'))
inductive ActOk (X:Cx) (G:Nat→Option Dat):Option Str→Option Nat→HA→List Stmt→Prop
 | setv {n x:Str} {i j:Nat} {px pn ps:Pos} (hj:X.N[j]? = some n) (hl:X.env.scope.names.lookup n=some .local) (hi:X.N[i]? = some x) (hx:Loc X.env.scope x) (hf:X.fn x=true∨X.env.scope.names.lookup x=some .local)
   (hd:(n == ("__debug__" : Str))=false) (hcd:(n == ("__classdict__" : Str))=false) (hs:∀Y:Cx,Y.env=X.env→swapsWith (.Name n pn) (some (.Name x px)) ps.line Y.env=pure false):ActOk X G (some n) (some j) (.setv i) [.Assign [.Name x px] (.Name n pn) ps]
 | ret {e:E} {d:Dat} {v:V} {ce:Expr} {ps:Pos} (hc:Aro e=some d) (hr:∀(K:KW) (H:Hp),Rep K H v d) (he:∀Y:Cx,PE Y ce (tC v)):ActOk X G none none (.ret e) [.Return (some ce) ps]
 | retf {n fn:Str} {j:Nat} {pn ap ps:Pos} (hj:X.N[j]? = some n) (hl:X.env.scope.names.lookup n=some .local) (hd:(n == ("__debug__" : Str))=false) (hcd:(n == ("__classdict__" : Str))=false)
   (hk:∀c q l,gX G c=some (.obj q [.str l])→∃fn:Str,fn.cps.toList=l∧XcOk X.prog X.w X.K X.mg X.base q fn):ActOk X G (some n) (some j) (.retf fn.cps.toList) [.Return (some (.Attribute (.Name n pn) fn ap)) ps]
inductive HdlOk (X:Cx) (G:Nat→Option Dat):List ExceptHandler→List HK→Prop
 | nil:HdlOk X G [] []
 | cons {t:Expr} {nm:Option Str} {suite:List Stmt} {pos:Pos} {k:HK} {hds:List ExceptHandler} {ks:List HK} (ht:Arx X G k.cs t) (ha:ActOk X G nm k.bd k.act suite) (r:HdlOk X G hds ks):HdlOk X G (.ExceptHandler (some t) nm suite pos::hds) (k::ks)
variable{st:Stmt}{n:Nat}{F:Env→Post→Prop}{h₀:ExceptHandler}{hds:List ExceptHandler}{ks:List HK}{pos:Pos}
theorem SO.out{xe:Value→Shared→Prop}{H1:Hp}{D D':Post}{fl:Flow}{s':Shared}(ok:X.Ok)(e1:D'.nx=D.nx)(e2:D'.ct=D.ct)(e3:D'.bk=D.bk)(e4:D'.rt=D.rt)(h:SO (X.tr (X.pn++pins) xe) [] n X.H_0 H1 D' fl s'):SO X pins n X.H_0 H1 D fl s':=by
 obtain⟨t,h⟩:=h;refine⟨t,?_⟩
 cases fl with
 | next=>obtain⟨σ',H',δ',h1,h2,h3,h4⟩:=h;exact⟨σ',H',δ',h1.ofTry ok,h2,h3,by rw[← e1];exact h4⟩
 | cont=>obtain⟨σ',H',δ',h1,h2,h3,h4⟩:=h;exact⟨σ',H',δ',h1.ofTry ok,h2,h3,by rw[← e2];exact h4⟩
 | brk=>obtain⟨σ',H',δ',h1,h2,h3,h4⟩:=h;exact⟨σ',H',δ',h1.ofTry ok,h2,h3,by rw[← e3];exact h4⟩
 | ret u=>obtain⟨v,σ',H',d,δ',h1,h2,h3,h6,h4,h5⟩:=h;exact⟨v,σ',H',d,δ',h1.ofTry ok,h2,h3,h6,h4,by rw[← e4];exact h5⟩
end
end SF
namespace SF
open PySem PySem.Spec PyProof.Rows L2 NdefX
variable[TN]
structure Lam1(X:Cx)(scope:Scope)(i:Nat)(a y:Str):Prop where
 ns:NScope [a,y] [a] [y] scope
 cap:X.env.scope.names.lookup y=some .cell∨X.env.scope.names.lookup y=some .free
 at_:X.N[i]? = some y
section
variable{X:Cx}{pins:List (Addr×Obj)}{σ:L2.St}{H:Hp}{s:Shared}
theorem Lam1.out{scope:Scope}{i:Nat}{a y:Str}(L:Lam1 X scope i a y)(z:Str×NameKind)(hz:z∈scope.names)(e:z.2 = .free):X.env.scope.names.lookup z.1=some .cell∨X.env.scope.names.lookup z.1=some .free:=by
 rw[Aq.mp (L.ns.free z hz e)];exact L.cap
theorem Lam1.has{scope:Scope}{i:Nat}{a y:Str}(L:Lam1 X scope i a y)(ok:X.Ok):∀z∈scope.names,z.2 = .free→∃c,X.env.cells.lookup z.1=some c:=λz hz e=>
 (L.out z hz e).elim (λq=>ok.has _ (.inl q)) λq=>ok.has _ (.inr q)
end
end SF
namespace SF
open PySem PySem.Spec PySem.W PySem.Calls PyProof.Rows L2
section
variable{prog:Program}{w:World}{A:Around}{E:Value→Shared→Prop}
def Auj(D S:Addr)(z z1:Shared):Prop:=(∀o,z.heap.get? D=some o→z1.heap.get? D=some o)∧∀o,z.heap.get? S=some o→z1.heap.get? S=some o
def KeysAt(D S:Addr)(n:Nat)(J:Nat→Shared→List Value→Prop)(i:Nat)(z:Shared):Prop:=
 ∃ks m,z.heap.get? D=some (seqObj "list" #[] n)∧z.heap.get? S=some (seqObj "list" ks m)∧ks.size=i∧J i z ks.toList
theorem KeysAt.turn{D S:Addr}{n:Nat}{J:Nat→Shared→List Value→Prop}{f v:Value}{i:Nat}{z:Shared}(h:KeysAt D S n J i z)(ne:S≠D)(few:i < sizeLine)
  (jS:∀{i:Nat} {z:Shared} {ks:List Value} {g:Heap},J i z ks→Heap.SameBut S z.heap g→J i { z with heap:=g } ks)
  (call1:∀ks,J i z ks→(∃o,z.heap.get? D=some o)→(∃o,z.heap.get? S=some o)→wpAny (model prog w) A (call f [v]) (λu z1=>J (i+1) z1 (ks++[u])∧Auj D S z z1) (λ_ _=>False) z) :
  wpAny (model prog w) A (call f [v]) (λu z1=>∀(E1:Value→Shared→Prop) (Q:Unit→Shared→Prop),(∀z2,KeysAt D S n J (i+1) z2→Q () z2)→wpAny (model prog w) A (Builtin.List.listUpdate (.ref S) (·.push u)) Q E1 z1) (λ_ _=>False) z:=by
 obtain⟨ks,m,dg,sg,size,j⟩:=h;refine wpAny_mono (call1 _ j ⟨_,dg⟩ ⟨_,sg⟩) (λu z1 ⟨j1,held⟩ E1 Q q=>?_) λ_ _ no=>no
 have sg2:=held.2 _ sg;have only:=Heap.SameBut.update z1.heap S (Obj.mapSeq (·.push u));obtain⟨m2,sg3⟩:∃m2,(z1.heap.update S (Obj.mapSeq (·.push u))).get? S=some (seqObj "list" (ks.push u) m2):=⟨_,get?_update_seq sg2 (·.push u)⟩;refine listUpdate_at sg2 rfl (q _ ⟨ks.push u,m2,(only.2 D ne.symm).trans (held.1 _ dg),sg3,by rw[Array.size_push,size],?_⟩) (by omega) (by rw[Array.size_push];omega);have e2:(ks.push u).toList=ks.toList++[u]:=by simp
 rw[e2];exact jS j1 only
end
end SF
namespace SF
open PySem PySem.Spec PyProof.Rows L2 NdefX
variable[TN]
structure LamN(X:Cx)(scope:Scope)(is:List Nat)(a:Str)(ys:List Str):Prop where
 ns:NScope (a::ys) [a] ys scope
 cap:∀y∈ys,X.env.scope.names.lookup y=some .cell∨X.env.scope.names.lookup y=some .free
 at_:is.map (λi=>X.N[i]?)=ys.map some
section
variable{X:Cx}{pins:List (Addr×Obj)}{σ:L2.St}{H:Hp}{s:Shared}
theorem LamN.out{scope:Scope}{is:List Nat}{a:Str}{ys:List Str}(L:LamN X scope is a ys)(z:Str×NameKind)(hz:z∈scope.names)(e:z.2 = .free):X.env.scope.names.lookup z.1=some .cell∨X.env.scope.names.lookup z.1=some .free:=L.cap _ (L.ns.free z hz e)
theorem LamN.has{scope:Scope}{is:List Nat}{a:Str}{ys:List Str}(L:LamN X scope is a ys)(ok:X.Ok):∀z∈scope.names,z.2 = .free→∃c,X.env.cells.lookup z.1=some c:=λz hz e=>
 (L.out z hz e).elim (λq=>ok.has _ (.inl q)) λq=>ok.has _ (.inr q)
end
end SF
namespace SF
open PySem
variable[TN]
structure Tb where
 fns:List Str
 gl:List Str
 fre:List Str
 shp:List (List (Nat×List Str×List Src))
 cls:List (Str×List Str):=[]
 ms:List (Nat×Nat×Str):=[]
 tabs:List (Str×List (List Nat×Int)):=[]
 own:List (Nat×Nat):=[]
 xcl:List (Str×Option Str):=[]
 xm:List Nat:=[]
 tol:List Nat:=[]
 lam:Bool:=false
 inis:List (Nat×Nat):=[]
 rs:List Nat:=[]
def Tb.isI(tb:Tb)(c:Nat):Bool:=tb.inis.any λq=>q.1 == c
def Tb.isM(tb:Tb)(f:Nat):Bool:=tb.ms.any λq=>q.1 == f
def Tb.clsB(tb:Tb)(c:Nat)(p:Str×List Str→Bool):Bool:=match tb.cls[c]? with|some q=>p q|none=>false
def Tb.posB(tb:Tb)(f n:Nat):Bool:=match tb.shp[f]? with|some ss=>ss.any (λq=>q.1 == n && (q.2.1.isEmpty && q.2.2 == Hj n))|none=>false
structure Ck where
 N:List Str
 sc:Scope
 fn:Str→Bool
def Ahm(sc:Scope)(x:Str):Bool:=sc.names.lookup x == some .local || sc.names.lookup x == some .cell || sc.names.lookup x == some .free
def Aq3(sc:Scope)(x:Str):Bool:=sc.names.lookup x == some .local || sc.names.lookup x == some .cell
def glB(sc:Scope)(x:Str):Bool:=sc.names.lookup x == some .globalImplicit
def Og(x:Str):Bool:=!(x == ("__debug__" : Str)) && !(x == ("__classdict__" : Str)) && !(x == ("__name__" : Str))
def Qv(c:Ck)(i:Nat)(x:Str):Bool:=c.N[i]? == some x && Ahm c.sc x && Og x
def Aif(c:Ck)(i:Nat)(x:Str):Bool:=c.N[i]? == some x && Aq3 c.sc x && (c.fn x || c.sc.names.lookup x == some .local)
def Rc(tb:Tb)(c:Ck)(x y:Str):Bool:=x == y && glB c.sc x && tb.fre.contains x
mutual
def Jg(c:Ck):P→Expr→Bool
 | .v i,.Name x _=>Aif c i x
 | .t ps,.Tuple es _ _=>chkPs c ps es
 | _,_=>false
def chkPs(c:Ck):List P→List Expr→Bool
 | [],[]=>true
 | p::ps,e::es=>Jg c p e && chkPs c ps es
 | _,_=>false
end
def Wd:Expr→Bool
 | .Call (.Name _ _) [] [] _=>false
 | _=>true
def Ww(c:Ck)(scope:Scope)(own:List Nat):Bool:=
 scope.kind == .function && (scope.names.all λy=>scope.names.lookup y.1 == some y.2) && (own.all λi=>(c.N[i]?).isSome) &&
 (scope.names.all λy=>!(y.2 == .free) || (c.sc.names.lookup y.1 == some .cell || c.sc.names.lookup y.1 == some .free)) &&
 (scope.names.all λy=>!(y.2 == .local || y.2 == .cell) || ((own.any λi=>c.N[i]? == some y.1) || !c.N.contains y.1))
def Ck.blk(c:Ck)(scope:Scope):Ck:={ N:=c.N,sc:=L2.relS scope c.sc,fn:=λx=>scope.names.lookup x == some .cell }
def Ig:Expr→Bool
 | .Set ..=>false
 | _=>true
def kwN(kws:List Keyword):List (Option Str):=kws.map fun|⟨n,_,_⟩=>n
def Oh:E→Bool
 | .obs _=>false
 | .zip a b=>!Lp a && !Lp b
 | .enum a=>!Lp a
 | _=>true
theorem Ajh{e:E}(h:Oh e=true):Lp e=false:=by cases e<;>first|rfl|(simp[Oh]at h)
mutual
def chkE(tb:Tb):E→Option Expr→Ck→Expr→Bool
 | .var i,_,c,ex=>match ex with | .Name x _=>Qv c i x|_=>false
 | .obs i,_,c,ex=>match ex with | .Name x _=>Qv c i x|_=>false
 | .glob i,_,c,ex=>match ex with | .Name x _=>tb.gl[i]? == some x && glB c.sc x && Og x|_=>false
 | .non,_,_,ex=>match ex with | .Constant .none _ _=>true|_=>false
 | .bl b,_,_,ex=>match ex with | .Constant (.bool k) _ _=>b == k|_=>false
 | .int i,_,_,ex=>match ex with | .Constant (.int k) _ _=>i == k|_=>false
 | .str s,_,_,ex=>match ex with | .Constant (.str k) _ _=>k.cps.toList == s && decide (s.length≤10000)|_=>false
 | .op2 o a b,_,c,ex=>match ex with | .BinOp l op r _=>op == Aqr o && chkE tb a none c l && chkE tb b none c r|_=>false
 | .neg a,_,c,ex=>match ex with | .UnaryOp .USub l _=>chkE tb a none c l|_=>false
 | .cmp o a b,_,c,ex=>match ex with | .Compare l [op] [r] _=>op == Ju o && chkE tb a none c l && chkE tb b none c r|_=>false
 | .chain o o' a b d,_,c,ex=>match ex with | .Compare l [op,op'] [r,q] _=>op == Ju o && op' == Ju o' && chkE tb a none c l && chkE tb b none c r && chkE tb d none c q|_=>false
 | .isN a,_,c,ex=>match ex with | .Compare l [.Is] [.Constant .none _ _] _=>chkE tb a none c l|_=>false
 | .notN a,_,c,ex=>match ex with | .Compare l [.IsNot] [.Constant .none _ _] _=>chkE tb a none c l|_=>false
 | .and a b,_,c,ex=>match ex with
  | .BoolOp .And (l::r::rest) p=>chkE tb a none c l && (match rest with | []=>chkE tb b none c r|_::_=>chkE tb b none c (.BoolOp .And (r::rest) p))
  | _=>false
 | .or a b,_,c,ex=>match ex with
  | .BoolOp .Or (l::r::rest) p=>chkE tb a none c l && (match rest with | []=>chkE tb b none c r|_::_=>chkE tb b none c (.BoolOp .Or (r::rest) p))
  | _=>false
 | .not a,_,c,ex=>match ex with | .UnaryOp .Not l _=>chkE tb a none c l|_=>false
 | .ite t a b,_,c,ex=>match ex with | .IfExp x y z _=>chkE tb t none c x && chkE tb a none c y && chkE tb b none c z|_=>false
 | .tup l,_,c,ex=>match ex with | .Tuple es _ _=>chkL tb l c es && decide (es.length≤10000)|_=>false
 | .lst l,_,c,ex=>match ex with | .List es _=>chkL tb l c es && decide (es.length≤10000)|_=>false
 | .idx a i,_,c,ex=>match ex with | .Subscript v ix _=>chkE tb a none c v && chkE tb i none c ix|_=>false
 | .slc a lo hi,_,c,ex=>match ex with
  | .Subscript v (.Slice l h none _) _=>chkE tb a none c v && (match l with|none=>(match lo with | .non=>true|_=>false)|some l=>chkE tb lo none c l) && (match h with|none=>(match hi with | .non=>true|_=>false)|some h=>chkE tb hi none c h)
  | _=>false
 | .bi b l,_,c,ex=>match ex with | .Call (.Name x _) (e::es) [] _=>Rc tb c x (b1N b) && (b1V b).isSome && chkL tb l c (e::es)|_=>false
 | .isi a t,_,c,ex=>match ex with | .Call (.Name x _) [e,.Name y _] [] _=>Rc tb c x "isinstance" && Rc tb c y (PySem.Str.ofString (Yl t)) && chkE tb a none c e|_=>false
 | .me m o l,_,c,ex=>match ex with
  | .Call (.Attribute v nm ap) (e::es) [] cp=>Wd v && nm == m1N m && ap.endLine == cp.line && decide (es.length < 20) && chkE tb o none c v && chkL tb l c (e::es) &&
   (match m with
   | .index=>true
   | .count=>true
   | .join=>true
   | .lstrip=>true
   | .split=>true
   | .partition=>true
   | .startswith=>true
   | .get=>l.all λa=>!Lp a
   | .replace=>(match e,es with | .Constant (.str _) _ _,[.Constant (.str _) _ _]=>(match l with | [.str _,.str _]=>true|_=>false)|_,_=>false)
   | _=>false)
  | _=>false
 | .call f l kl sh,_,c,ex=>match ex with
  | .Call (.Name x _) es kws _=>tb.fns[f]? == some x && (glB c.sc x && !tb.isM f) && Og x && chkL tb l c es && chkK tb kl c kws && (match tb.shp[f]? with
   | some ss=>ss.any λq=>q.1 == es.length && (kwN kws == q.2.1.map some) && q.2.2 == sh
   | none=>false)
  | _=>false
 | .comp own p it t e,_,c,ex=>match ex with
  | .ListComp elt [⟨tg,iter,ifs,a⟩] scope _=>a == 0 && Ig iter && chkE tb it (some tg) c iter && Ww c scope own && ((Dm p).all λi=>own.contains i) && Jg (c.blk scope) p tg &&
   (match ifs with
   | []=>(match t with | .bl true=>true|_=>false)
   | [x]=>chkE tb t none (c.blk scope) x
   | _=>false) && chkE tb e none (c.blk scope) elt
  | _=>false
 | .zip a b,tg,c,ex=>match tg,ex with|some (.Tuple _ _ _),.Call (.Name x _) [l,r] [] _=>Rc tb c x "zip" && chkE tb a none c l && chkE tb b none c r|_,_=>false
 | .enum a,tg,c,ex=>match tg,ex with|some (.Tuple _ _ _),.Call (.Name x _) [l] [] _=>Rc tb c x "enumerate" && chkE tb a none c l|_,_=>false
 | .range a,tg,c,ex=>match tg,ex with|some _,.Call (.Name x _) [l] [] _=>Rc tb c x "range" && chkE tb a none c l|_,_=>false
 | .new k l,_,c,ex=>match ex with | .Call (.Name x _) (e::es) [] _=>!tb.isI k && (tb.clsB k (λq=>q.1 == x) && (glB c.sc x && (Og x && chkL tb l c (e::es))))|_=>false
 | .fld k i a,_,c,ex=>match ex with | .Attribute v x _=>tb.clsB k (λq=>q.2[i]? == some x) && (Wd v && chkE tb a none c v)|_=>false
 | .meth k f a l,_,c,ex=>match ex with | .Call (.Attribute v m ap) (e::es) [] cp=>tb.ms.contains (f,k,m) && (tb.clsB k (λq=>!q.2.contains m) && (tb.posB f ((e::es).length+1) && (Wd v && (ap.endLine == cp.line && (decide (es.length < 20) && (chkE tb a none c v && chkL tb l c (e::es)))))))|_=>false
 | .sset a,_,c,ex=>match ex with | .Call (.Name x _) [.Call (.Name y _) [l] [] _] [] _=>Rc tb c x "sorted" && (Rc tb c y "set" && chkE tb a none c l)|_=>false
 | .scomp own p it t e,_,c,ex=>match ex with
  | .Call (.Name x _) [.SetComp elt [⟨tg,iter,ifs,a⟩] scope _] [] _=>Rc tb c x "sorted" && (a == 0 && Ig iter && chkE tb it (some tg) c iter && Ww c scope own && ((Dm p).all λi=>own.contains i) && Jg (c.blk scope) p tg &&
   (match ifs with
   | []=>(match t with | .bl true=>true|_=>false)
   | [x]=>chkE tb t none (c.blk scope) x
   | _=>false) && chkE tb e none (c.blk scope) elt)
  | _=>false
 | .scompN own p it t e,_,c,ex=>match ex with
  | .Call (.Name x _) [.SetComp elt [⟨tg,iter,ifs,a⟩] scope _] [] _=>Rc tb c x "sorted" && (a == 0 && Ig iter && chkE tb it (some tg) c iter && Ww c scope own && ((Dm p).all λi=>own.contains i) && Jg (c.blk scope) p tg &&
   (match ifs with
   | []=>(match t with | .bl true=>true|_=>false)
   | [x]=>chkE tb t none (c.blk scope) x
   | _=>false) && chkE tb e none (c.blk scope) elt)
  | _=>false
 | .ssetN a,_,c,ex=>match ex with | .Call (.Name x _) [.Call (.Name y _) [l] [] _] [] _=>Rc tb c x "sorted" && (Rc tb c y "set" && chkE tb a none c l)|_=>false
 | .isB ng a b,_,c,ex=>match ex with
  | .Compare l [op] [.Constant (.bool k) _ _] _=>(match op with | .Is=>!ng | .IsNot=>ng|_=>false) && b == k && chkE tb a none c l
  | _=>false
 | .comp2 own p it t p1 it1 t1 e,_,c,ex=>match ex with
  | .ListComp elt [⟨tg,iter,ifs,a⟩,⟨tg1,iter1,ifs1,a1⟩] scope _=>a == 0 && (a1 == 0 && (Ig iter && (Ig iter1 && (Oh it1 && (chkE tb it (some tg) c iter && (chkE tb it1 (some tg1) (c.blk scope) iter1 && (Ww c scope own && (((Dm p).all λi=>own.contains i) && (((Dm p1).all λi=>own.contains i) && (Jg (c.blk scope) p tg && (Jg (c.blk scope) p1 tg1 &&
   ((match ifs with
   | []=>(match t with | .bl true=>true|_=>false)
   | [x]=>chkE tb t none (c.blk scope) x
   | _=>false) && ((match ifs1 with
   | []=>(match t1 with | .bl true=>true|_=>false)
   | [x]=>chkE tb t1 none (c.blk scope) x
   | _=>false) && chkE tb e none (c.blk scope) elt)))))))))))))
  | _=>false
def chkL(tb:Tb):List E→Ck→List Expr→Bool
 | [],_,es=>es.isEmpty
 | a::l,c,es=>match es with|e::es=>chkE tb a none c e && chkL tb l c es | []=>false
def Atm(tb:Tb):List E→Ck→List (Option Expr)→List Expr→Bool
 | [],_,ks,vs=>ks.isEmpty && vs.isEmpty
 | a::l,c,ks,vs=>match l with
  | []=>false
  | b::l'=>match ks,vs with
   | some k::ks,v::vs=>chkE tb a none c k && (chkE tb b none c v && Atm tb l' c ks vs)
   | _,_=>false
def chkK(tb:Tb):List E→Ck→List Keyword→Bool
 | [],_,ks=>ks.isEmpty
 | a::l,c,ks=>match ks with|⟨n,e,_⟩::ks=>n.isSome && chkE tb a none c e && chkK tb l c ks | []=>false
end
def isZ:E→Bool
 | .zip _ _=>true
 | .enum _=>true
 | _=>false
mutual
def wE:E→Nat
 | .op2 _ a b=>wE a+wE b
 | .neg a=>wE a
 | .cmp _ a b=>wE a+wE b
 | .chain _ _ a b c=>wE a+wE b+wE c
 | .isN a=>wE a
 | .notN a=>wE a
 | .and a b=>wE a+wE b
 | .or a b=>wE a+wE b
 | .not a=>wE a
 | .ite c a b=>wE c+(wE a+wE b)
 | .tup l=>wL l
 | .lst l=>wL l
 | .idx a i=>wE a+wE i
 | .slc a l h=>wE a+wE l+wE h
 | .bi _ l=>wL l
 | .isi a _=>wE a
 | .me _ o l=>wE o+wL l
 | .call _ l kl _=>wL l+wL kl+1
 | .comp _ _ it c e=>wE it+sizeLine*(wE c+wE e)
 | .zip a b=>wE a+wE b
 | .enum a=>wE a
 | .range a=>wE a
 | .new _ l=>wL l
 | .fld _ _ a=>wE a
 | .meth _ _ a l=>wE a+wL l+1
 | .sset a=>wE a
 | .scomp _ _ it c e=>wE it+sizeLine*(wE c+wE e)
 | .scompN _ _ it c e=>wE it+sizeLine*(wE c+wE e)
 | .ssetN a=>wE a
 | .isB _ a _=>wE a
 | .comp2 _ _ it c _ it1 c1 e=>wE it+sizeLine*(wE c+(wE it1+sizeLine*(wE c1+wE e)))
 | _=>0
def wL:List E→Nat
 | []=>0
 | a::l=>wE a+wL l
end
def W6(c:Ck)(x:Str)(line:Nat)(px:Pos)(v:Expr):Bool:=
 match v with
 | .ListComp _ _ scope vp=>c.sc.names.lookup x == some .local && px.line == vp.line && !(scope.names.any λ(n,k)=>n == x && (k == .local || k == .cell))
 | _=>false
def G9:Expr→Bool
 | .SetComp ..=>false
 | .DictComp ..=>false
 | _=>true
def Ao9(c:Ck)(x:Str)(v:Expr):Bool:=G9 v || (match v with | .DictComp ..=>c.sc.names.lookup x != some .local|_=>false)
def P0:Expr→Bool
 | .ListComp ..=>false
 | _=>true
def Aqt(c:Ck)(ts:List Expr):Bool:=ts.any fun | .Name x _=>c.sc.names.lookup x != some .local|_=>true
def Ass(c:Ck)(ts:List Expr)(v:Expr):Bool:=Aqt c ts || (match v with | .Tuple es _ _=>es.all (foldedForSure 8)|_=>false)
def Aho(n:Nat):Expr→Bool
 | .ListComp ..=>false
 | .Tuple es _ _=>decide (3 < n) || !(es.length == n)
 | _=>true
def O4:List Expr→Option (List Str)
 | []=>some []
 | .Name x _::r=>(O4 r).map (x :: ·)
 | _=>none
mutual
def chkS(tb:Tb):S→Ck→Stmt→Bool
 | .dead,_,st=>match st with | .Raise _ _ _=>true|_=>false
 | .set i e,c,st=>match st with | .Assign [.Name x _] v _=>Aif c i x && Ao9 c x v && chkE tb e none c v|_=>false
 | .own i e,c,st=>match st with | .Assign [.Name x _] v _=>Aif c i x && G9 v && Ge e && chkE tb e none c v|_=>false
 | .unp p e,c,st=>match st with
  | .Assign [.Tuple ts _ _] v _=>(match p with | .t _=>true|_=>false) && Jg c p (.Tuple ts 0 ⟨0,0,0,0⟩) && G9 v && (Aho ts.length v || (P0 v && Ass c ts v)) && chkE tb e none c v
  | _=>false
 | .par os is l,c,st=>match st with
  | .Assign [.Tuple ts _ _] (.Tuple es _ _) _=>(match O4 ts with
   | some xs=>(xs.length == 2 || xs.length == 3) && os.length == xs.length && is.length == xs.length && es.length == xs.length && (xs.eraseDups.length == xs.length) && ((is.zip xs).all λq=>c.N[q.1]? == some q.2 && c.sc.names.lookup q.2 == some .local) &&
    ((os.zip l).all λq=>!q.1 || Ge q.2) && chkL tb l c es && (ts.all λt=>t.pos.line == (ts.head?.map (·.pos.line)).getD 0) && !(es.all (foldedForSure 8)) && !(es.all (constantsAlone 8))
   | none=>false)
  | _=>false
 | .frz _,_,_=>false
 | .app i e,c,st=>match st with | .Expr (.Call (.Attribute (.Name x _) nm ap) [v] [] cp) _=>Qv c i x && nm == ("append" : Str) && ap.endLine == cp.line && chkE tb e none c v|_=>false
 | .ext i e,c,st=>match st with | .Expr (.Call (.Attribute (.Name x _) nm ap) [v] [] cp) _=>Qv c i x && nm == ("extend" : Str) && ap.endLine == cp.line && chkE tb e none c v|_=>false
 | .pop i e,c,st=>match st with | .Expr (.Call (.Attribute (.Name x _) nm ap) [v] [] cp) _=>Qv c i x && nm == ("pop" : Str) && ap.endLine == cp.line && chkE tb e none c v|_=>false
 | .ins i ix e,c,st=>match st with | .Expr (.Call (.Attribute (.Name x _) nm ap) [v,w] [] cp) _=>Qv c i x && nm == ("insert" : Str) && ap.endLine == cp.line && chkE tb ix none c v && chkE tb e none c w|_=>false
 | .sto i ix e,c,st=>match st with | .Assign [.Subscript (.Name x _) k _] v _=>Qv c i x && G9 v && P0 v && chkE tb ix none c k && chkE tb e none c v|_=>false
 | .exp e,c,st=>match st with | .Expr v _=>G9 v && P0 v && chkE tb e none c v|_=>false
 | .ret e,c,st=>match st with | .Return (some v) _=>chkE tb e none c v|_=>false
 | .retN,_,st=>match st with | .Return none _=>true|_=>false
 | .pass,_,st=>match st with | .Pass _=>true|_=>false
 | .ite t a b,c,st=>match st with | .If x y z _=>chkE tb t none c x && chkSs tb a c y && chkSs tb b c z|_=>false
 | .for p it b,c,st=>match st with | .For tg iter body [] _=>Ig iter && Oh it && Jg c p tg && chkE tb it (some tg) c iter && chkSs tb b c body|_=>false
 | .whl t b,c,st=>match st with | .While x body [] _=>chkE tb t none c x && chkSs tb b c body|_=>false
def chkSs(tb:Tb):List S→Ck→List Stmt→Bool
 | [],_,sts=>sts.isEmpty
 | s::r,c,sts=>match s with
  | .frz _=>chkSs tb r c sts
  | s=>match sts with
   | st::sts=>chkS tb s c st && chkSs tb r c sts
   | []=>false
end
mutual
def wS:S→Nat
 | .dead=>0
 | .set _ e=>wE e
 | .own _ e=>wE e
 | .unp _ e=>wE e
 | .par _ _ l=>wL l
 | .frz _=>0
 | .app _ e=>wE e
 | .ext _ e=>wE e
 | .pop _ e=>wE e
 | .ins _ ix e=>wE ix+wE e
 | .sto _ ix e=>wE e+wE ix
 | .exp e=>wE e
 | .ret e=>wE e
 | .retN=>0
 | .pass=>0
 | .ite c a b=>wE c+(wSs a+wSs b)
 | .for _ it b=>wE it+sizeLine*wSs b
 | .whl c b=>big*(wE c+wSs b)
def wSs:List S→Nat
 | []=>0
 | s::r=>wS s+wSs r
end
def Aoq(_:Tb)(_:List S)(_:Ck)(_:List Stmt):Bool:=false
end SF
namespace SF
open PySem PySem.Spec PyProof.Rows L2
variable[TN]
section
variable{tb:Tb}{c:Ck}
theorem Abp(e:E)(tg:Option Expr)(c:Ck)(a:Expr)(p:Pos):chkE tb e tg c (.Starred a p)=false:=by
 rw[chkE.eq_def]
 cases e<;>first
  | rfl
  | (cases tg with
   | none=>rfl
   | some t=>cases t<;>rfl)
theorem Akh(e:E)(tg:Option Expr)(c:Ck)(l:List Expr)(k:Nat)(p:Pos):chkE tb e tg c (.Set l k p)=false:=by
 rw[chkE.eq_def]
 cases e<;>first
  | rfl
  | (cases tg with
   | none=>rfl
   | some t=>cases t<;>rfl)
theorem Sy(e:E)(tg:Option Expr)(c:Ck)(l u s:Option Expr)(p:Pos):chkE tb e tg c (.Slice l u s p)=false:=by
 rw[chkE.eq_def]
 cases e<;>first
  | rfl
  | (cases tg with
   | none=>rfl
   | some t=>cases t<;>rfl)
theorem Dq{e:E}{tg:Option Expr}{ex:Expr}(h:chkE tb e tg c ex=true)(es:List Expr)(env:PySem.Env):starEach (ex::es) env=(false,eval ex env)::starEach es env:=by
 cases ex<;>first
  | rfl
  | (rw[Abp]at h;cases h)
theorem Vl:∀{l:List E} {es:List Expr},chkL tb l c es=true→∀(pos:Pos) (env:PySem.Env),(backTo pos (starEach es env)).any (·.1)=false
 | [],[],_,pos,env=>rfl
 | [],_::_,h,_,_=>by simp[chkL]at h
 | _::_,[],h,_,_=>by simp[chkL]at h
 | a::l,e::es,h,pos,env=>by
  simp only[chkL,Yzh]at h;rw[Dq h.1];show(false || (backTo pos (starEach es env)).any (·.1))=false
  rw[Vl h.2];rfl
theorem Zt:∀{l:List E} {es:List Expr},chkL tb l c es=true→∀(pos:Pos) (env:PySem.Env),(backTo pos (starEach es env)).all (λx=>!x.1)=true
 | [],[],_,pos,env=>rfl
 | [],_::_,h,_,_=>by simp[chkL]at h
 | _::_,[],h,_,_=>by simp[chkL]at h
 | a::l,e::es,h,pos,env=>by
  simp only[chkL,Yzh]at h;rw[Dq h.1];show(!false && (backTo pos (starEach es env)).all (λx=>!x.1))=true
  rw[Zt h.2];rfl
theorem Oo:∀{l:List E} {es:List Expr},chkL tb l c es=true→l.length=es.length
 | [],[],_=>rfl
 | [],_::_,h=>by simp[chkL]at h
 | _::_,[],h=>by simp[chkL]at h
 | a::l,e::es,h=>by
  simp only[chkL,Yzh]at h;exact congrArg (· + 1) (Oo h.2)
theorem U0{o:Expr}(h:Wd o=true)(attr:Str)(env:PySem.Env)(whole:Sem Value):attributeBase o attr env whole=whole:=by
 unfold attributeBase
 cases o with
 | Call f args kws pos=>
  cases f with
  | Name id p=>
   cases args with
   | nil=>cases kws with
    | nil=>simp[Wd]at h
    | cons a b=>rfl
   | cons a b=>rfl
  | _=>rfl
 | _=>rfl
theorem Lq{iter:Expr}(h:Ig iter=true)(env:PySem.Env)(x:Value):foldedSetIterable iter env x=pure x:=by
 cases iter<;>first|rfl|(simp[Ig]at h)
theorem S7{e:E}{tg:Option Expr}{ex:Expr}(h:chkE tb e tg c ex=true)(op:CmpOp):behindInMarks op ex=false:=by
 cases ex<;>first|rfl|(rw[Akh]at h;cases h)
theorem Ael{e:E}{tg:Option Expr}{ex b:Expr}{op op':CmpOp}(h:chkE tb e tg c ex=true):lastMarks [op,op'] [b,ex]=false:=S7 h op'
theorem Ac0{e:E}{tg:Option Expr}{ex:Expr}(h:chkE tb e tg c ex=true):PlainIx ex:=λo i=>by
 cases ex<;>first|rfl|(rw[Sy]at h;cases h)
theorem Ka{sc:Scope}{x:Str}(h:Ahm sc x=true):Vis sc x:=by
 unfold Ahm at h;simp only[Es,beq_iff_eq]at h
 rcases h with(h|h)|h
 ·exact .inl h
 ·exact .inr (.inl h)
 ·exact .inr (.inr h)
theorem Aq2{sc:Scope}{x:Str}(h:Aq3 sc x=true):Loc sc x:=by
 unfold Aq3 at h;simp only[Es,beq_iff_eq]at h;exact h
theorem Hl{x:Str}(h:Og x=true):(x == ("__debug__" : Str))=false∧(x == ("__classdict__" : Str))=false∧x≠("__name__" : Str):=by
 unfold Og at h;simp only[Yzh,Bf,beq_eq_false_iff_ne,ne_eq]at h;exact⟨by simpa using h.1.1,by simpa using h.1.2,h.2⟩
end
def ctx(X:Cx):Ck:=⟨X.N,X.env.scope,X.fn⟩
def Kg(K:PySem.W.Frag)(mg:Str→Option Value)(tb:Tb)(f:Nat)(x:Str)(a:Addr):Prop:=(tb.isM f=false→mg x=some (.ref a))∧∀(c:Nat) (m:Str),(f,c,m)∈tb.ms→∀(q:Str×List Str) (p:Addr),tb.cls[c]? = some q→mg q.1=some (.ref p)→Meth K p m a
def Ar0(P:Program)(w:World)(K:PySem.W.Frag)(mg:Str→Option Value)(base:Heap)(tb:Tb)(G:Nat→Option Dat):Prop:=(∀(c p:Nat) (ns:List Dat) (q:Str×List Str),tb.cls[c]? = some q→G (500000+c)=some (.obj p ns)→mg q.1=some (.ref p)∧ns=q.2.map nmD∧ClsA K p q.2∧(tb.isI c=false→ClsOk P w K mg base p q.2))∧∀(t:Nat) (x:Str) (kvs:List (List Nat×Int)),tb.tabs[t]? = some (x,kvs)→Aos K w mg x kvs
structure ClsX(P:Program)(w:World)(K:PySem.W.Frag)(mg:Str→Option Value)(base:Heap)(tb:Tb)(G:Nat→Option Dat):Prop where
 at_:∀(c:Nat) (q:Str×Option Str),tb.xcl[c]? = some q→∃p,gX G c=some (.obj p (nsX q.2))∧mg q.1=some (.ref p)∧∀fn,q.2=some fn→fn.cps.toList.length≤sizeLine∧XcOk P w K mg base p fn
 of:∀(c:Nat) (d:Dat),gX G c=some d→∃q,tb.xcl[c]? = some q
 sub:∀(c c' p p':Nat) (ns ns':List Dat),gX G c=some (.obj p ns)→gX G c'=some (.obj p' ns')→PySem.W.exmOne K (.ref p) (.ref p')=some (Yq c (some c'))∧PySem.W.kitOne K (.ref p) (.ref p')=some (Yq c (some c'))
 ve:∀(c p:Nat) (ns:List Dat),gX G c=some (.obj p ns)→PySem.W.kitOne K (.ref p) (.type "ValueError")=some true
def As3(X:Cx):Prop:=∃c P,X.env.code = .ref c∧LamX.TabB X.base X.mg c P∧(P,X.env.qual ++ "<lambda>")∈TN.tabs∧∀p∈TN.tabs,p.1=P→p.2=X.env.qual ++ "<lambda>"
def Afa(P:Program)(w:World)(K:PySem.W.Frag)(mg:Str→Option Value)(base:Heap)(tb:Tb)(G:Nat→Option Dat)(f:Nat)(ds:List Dat)(outer:List PySem.Env)(s:Shared)(H:Hp)(lam:Addr):Prop:=
 ∀ (j n':Nat) (x:Str) (af:Addr) (fdf:FuncData) (psf:List Str) (Wf:List Dat→(Dat→Prop)→Prop),tb.fns[f]? = some x→Kg K mg tb f x af→PySem.W.keepIn K (.ref af)=true→FnX P w K G mg base j af fdf psf n' Wf→(∀ss,tb.shp[f]? = some ss→∀q∈ss,Gf ⟨K,P,w⟩ fdf psf q.1 q.2.1 q.2.2) →
  ∀(A1:Around) (outer1:List PySem.Env) (s1:Shared) (HZ:Hp) (m1:Nat) (Φ1:Dat→Prop),A1.handled=none→A1.depth < recursionLimit→(∀env,RoomG j (A1.deeper env))→0 < s1.toks→Env0 P w K mg base A1 outer1 s1 HZ→Un (frs outer) [] H HZ s.heap s1.heap→Ext H HZ→PotLe (n'+m1) HZ→Wf ds Φ1 →
   PySem.W.FnAt lam s1.heap∧codeAny (model P w) A1 (.call (.ref lam) ⟨[],[]⟩) (XO P w K G outer1 HZ s1 n' Φ1) s1
structure FnT(P:Program)(w:World)(K:PySem.W.Frag)(mg:Str→Option Value)(base:Heap)(tb:Tb)(G:Nat→Option Dat)(f:Nat)(k:Nat)(fa:Addr)(fd:FuncData)(ps:List Str)(n:Nat)(W:List Dat→(Dat→Prop)→Prop):Prop where
 run:∀(A:Around) (outer:List PySem.Env) (s:Shared) (H:Hp) (args:Args) (lam:Addr) (m:Nat) (Φ:Dat→Prop) (ds:List Dat),RoomG k A→0 < s.toks→Env0 P w K mg base A outer s H→BindsTo s fd args (ps.zip [.ref lam])→ps.length=1→PotLe (n+m) H→Afa P w K mg base tb G f ds outer s H lam→W ds Φ →
  codeAny (model P w) A (.call (.ref fa) args) (λr s'=>∃u,r = .ok (.ret u)∧0 < s'.toks∧CE outer P w H s (λv H'=>∃d,Step n H H'∧Rep ⟨K,P,w⟩ H' v d∧Φ d) u s') s
structure Gd(tb:Tb)(C:Nat→List Dat→(Dat→Prop)→Prop)(G:Nat→Option Dat)(cc k:Nat)(X:Cx):Prop where
 calm:X.calm=true
 nd:X.N.Nodup
 rm:RoomG k X.A
 kind:X.env.scope.kind = .function
 fre:∀x∈tb.fre,X.mg x=none
 glo:∀(i:Nat) (x:Str) (d:Dat),tb.gl[i]? = some x→G i=some d→∃u v,X.mg x=some u∧L2.RelV v u∧∀H,Rep X.kw H v d
 fns:∀(f:Nat) (x:Str),tb.fns[f]? = some x→∃a fd ps,Kg X.K X.mg tb f x a∧PySem.W.keepIn X.kw (.ref a)=true∧FnG X.prog X.w X.kw X.mg X.base k a fd ps cc (C f)∧∀ss,tb.shp[f]? = some ss→∀q∈ss,Gf X.kw fd ps q.1 q.2.1 q.2.2
 sys:Kw X.kw
 fnv:∀(f:Nat) (d:Dat),G (1000000+f)=some d→∃x a n,tb.fns[f]? = some x∧tb.isM f=false∧X.mg x=some (.ref a)∧d = .obj a []∧(∀ds Q,C f ds Q→ds.length=n)∧∃ss,tb.shp[f]? = some ss∧(n,[],Hj n)∈ss
 mfn:∀(f c:Nat) (m:Str),(f,c,m)∈tb.ms→∃x,tb.fns[f]? = some x
 cls:Ar0 X.prog X.w X.K X.mg X.base tb G
 owns:∀(f p:Nat) (x:Str),(f,p)∈tb.own→tb.fns[f]? = some x→∃a fd ps,Kg X.K X.mg tb f x a∧PySem.W.keepIn X.kw (.ref a)=true∧FnO X.prog X.w X.kw X.mg X.base k a fd ps cc p (C (4000000+16*f+p))∧∀ss,tb.shp[f]? = some ss→∀q∈ss,Gf X.kw fd ps q.1 q.2.1 q.2.2
 xcl:ClsX X.prog X.w X.K X.mg X.base tb G
 xfn:∀(f:Nat) (x:Str),f∈tb.xm→tb.fns[f]? = some x→∃a fd ps,Kg X.K X.mg tb f x a∧PySem.W.keepIn X.kw (.ref a)=true∧FnX X.prog X.w X.kw G X.mg X.base k a fd ps cc (C (6000000+f))∧∀ss,tb.shp[f]? = some ss→∀q∈ss,Gf X.kw fd ps q.1 q.2.1 q.2.2
 lam:tb.lam=true→As3 X
 low:∀(f:Nat) (x:Str),tb.fns[f]? = some x→∃a fd ps,Kg X.K X.mg tb f x a∧PySem.W.keepIn X.kw (.ref a)=true∧(∀ds Q,C (10000000+f) ds Q→∃(j:Nat) (W:List Dat→(Dat→Prop)→Prop),k=j+1∧FnG X.prog X.w X.kw X.mg X.base j a fd ps cc W∧W ds Q)∧∀ss,tb.shp[f]? = some ss→∀q∈ss,Gf X.kw fd ps q.1 q.2.1 q.2.2
 tol:∀(g f:Nat) (x:Str),g∈tb.tol→f∈tb.xm→f < 4096→tb.fns[g]? = some x→∃a fd ps,Kg X.K X.mg tb g x a∧PySem.W.keepIn X.kw (.ref a)=true∧ps.length=1∧(∀(s:Shared) (u:Value),X.K.In s.heap→BindsTo s fd ⟨[u],[]⟩ (ps.zip [u]))∧FnT X.prog X.w X.kw X.mg X.base tb G f k a fd ps cc (C (5000000+4096*g+f))
 ini:∀(c f:Nat) (q:Str×List Str) (p:Nat) (ns:List Dat),(c,f)∈tb.inis→tb.cls[c]? = some q→G (500000+c)=some (.obj p ns)→∃fi fd ps np,Mk X.K p fi∧np+1=ps.length∧Gf X.kw fd ps (np+1) [] (Hj (np+1))∧∀ds Q,C (8000000+f) ds Q→ds.length=np∧∃(j:Nat) (W:List Dat→(Dat→Prop)→Prop),k=j+1∧FnI X.prog X.w X.kw X.mg X.base j p q.2 fi fd ps cc W∧W ds Q
 rfn:∀(f:Nat) (x:Str),f∈tb.rs→tb.fns[f]? = some x→∃a fd ps,Kg X.K X.mg tb f x a∧PySem.W.keepIn X.kw (.ref a)=true∧FnR X.prog X.w X.kw X.mg X.base k a fd ps cc (C (12000000+f))∧∀ss,tb.shp[f]? = some ss→∀q∈ss,Gf X.kw fd ps q.1 q.2.1 q.2.2
theorem Gd.val{tb:Tb}{C:Nat→List Dat→(Dat→Prop)→Prop}{G:Nat→Option Dat}{cc k:Nat}{X:Cx}(g:Gd tb C G cc k X)(f:Nat)(d:Dat)(h:G (1000000+f)=some d):∃a fd ps m0,d = .obj a []∧PySem.W.keepIn X.kw (.ref a)=true∧FnG X.prog X.w X.kw X.mg X.base k a fd ps cc (C f)∧Gf X.kw fd ps m0 [] (Hj m0)∧∀ds Q,C f ds Q→ds.length=m0:=by
 obtain⟨x,a,n,h1,hM,h2,h3,h4,ss,h5,h6⟩:=g.fnv f d h;obtain⟨a',fd,ps,k1,k2,k3,k4⟩:=g.fns f x h1;have k1:=k1.1 hM;rw[h2]at k1
 cases k1
 exact⟨a,fd,ps,n,h3,k2,k3,k4 ss h5 _ h6,h4⟩
section
variable{tb:Tb}{C:Nat→List Dat→(Dat→Prop)→Prop}{G:Nat→Option Dat}{cc k:Nat}{X:Cx}
theorem Gd.blk(g:Gd tb C G cc k X){scope:Scope}(hk:scope.kind = .function)(s:Shared)(H:Hp)(Ca:Addr)(cl:List (Str×Addr))(fp:List Addr):Gd tb C G cc k (X.blk s H scope (compEnvC scope cl Ca X.env) fp):=
 ⟨g.calm,g.nd,g.rm,hk,g.fre,g.glo,g.fns,g.sys,g.fnv,g.mfn,g.cls,g.owns,g.xcl,g.xfn,g.lam,g.low,g.tol,g.ini,g.rfn⟩
theorem Kc{i:Nat}{x:Str}(h:Qv (ctx X) i x=true):X.N[i]? = some x∧Vis X.env.scope x∧(x == ("__debug__" : Str))=false∧(x == ("__classdict__" : Str))=false:=by
 unfold Qv at h;simp only[Yzh,beq_iff_eq]at h;obtain⟨⟨h1,h2⟩,h3⟩:=h;obtain⟨h4,h5,_⟩:=Hl h3;exact⟨h1,Ka h2,h4,h5⟩
theorem Vd{i:Nat}{x:Str}(h:Aif (ctx X) i x=true):X.N[i]? = some x∧Loc X.env.scope x∧(X.fn x=true∨X.env.scope.names.lookup x=some .local):=by
 unfold Aif at h;simp only[Yzh,Es,beq_iff_eq]at h;exact⟨h.1.1,Aq2 h.1.2,h.2⟩
theorem Hn(g:Gd tb C G cc k X){x y:Str}(h:Rc tb (ctx X) x y=true):x=y∧Gl X x∧X.mg x=none:=by
 unfold Rc at h;simp only[Yzh,beq_iff_eq,List.contains_iff_mem]at h;obtain⟨⟨h1,h2⟩,h3⟩:=h;unfold glB at h2;exact⟨h1,eq_of_beq h2,g.fre x h3⟩
theorem Aet{x:Str}(h:glB (ctx X).sc x=true):Gl X x:=by
 unfold glB at h;exact eq_of_beq h
mutual
theorem An9(hc:X.calm=true)(hN:X.N.Nodup)(E:Value→Shared→Prop):∀(p:P) (tg:Expr),Jg (ctx X) p tg=true→PG (X.wish E) tg (tgP X.kw p)
 | .v i,tg,h=>by
  cases tg with
  | Name x pos=>
   rw[Jg]at h;obtain⟨h1,h2,h3⟩:=Vd h;rw[tgP];exact pg_name (X:=X.wish E) hN h1 h2 h3
  | _=>simp[Jg]at h
 | .t ps,tg,h=>by
  cases tg with
  | Tuple es kk pos=>
   rw[Jg]at h;rw[tgP];obtain⟨h1,h2,h3⟩:=tgs_ok hc hN E ps es h;exact pg_tup (X:=X.wish E) hc h1 h2 h3
  | _=>simp[Jg]at h
theorem tgs_ok(hc:X.calm=true)(hN:X.N.Nodup)(E:Value→Shared→Prop):∀(ps:List P) (es:List Expr),chkPs (ctx X) ps es=true→PGs (X.wish E) es (tgPs X.kw ps)∧(assignEach es X.env).length=ps.length∧(assignEach es X.env).findIdx? (·.1)=none
 | [],[],_=>⟨by rw[tgPs];exact pgs_nil,rfl,rfl⟩
 | [],_::_,h=>by simp[chkPs]at h
 | _::_,[],h=>by simp[chkPs]at h
 | p::ps,e::es,h=>by
  simp only[chkPs,Yzh]at h;obtain⟨h1,h2,h3⟩:=tgs_ok hc hN E ps es h.2;have h0:=An9 hc hN E p e h.1;have ea:assignEach (e::es) X.env=(false,assign e X.env)::assignEach es X.env:=by
   cases e<;>first|rfl|(exfalso;have:=h.1;cases p<;>simp[Jg]at this)
  rw[tgPs];refine⟨pgs_cons h0 h1 (by show(assignEach (e::es) X.env).map (·.2)=_;rw[ea]<;>rfl),by rw[ea];exact congrArg (· + 1) h2,?_⟩;rw[ea,List.findIdx?_cons];simp[h3]
end
theorem Ow(g:Gd tb C G cc k X){p:P}{tg:Expr}(h:Jg (ctx X) p tg=true):K8 X tg p:=λE=>An9 g.calm g.nd E p tg h
theorem Abr{c:Ck}{scope:Scope}{own:List Nat}(h:Ww c scope own=true):BlkOk c.N c.sc scope (own.map λi=>(c.N.getD i "", i)):=by
 unfold Ww at h;simp only[Yzh,Ai,beq_iff_eq,Es,Bf,beq_eq_false_iff_ne,ne_eq,Ei]at h;obtain⟨⟨⟨⟨h1,h2⟩,h3⟩,h4⟩,h5⟩:=h;refine⟨h1,h2,λp hp=>?_,λy hy e=>?_,λy hy e=>?_⟩
 ·obtain⟨i,hi,rfl⟩:=Ac.mp hp
  have:=h3 i hi;show c.N[i]? = some (c.N.getD i "")
  cases q:c.N[i]? with
  | none=>rw[q]at this;cases this
  | some z=>simp[List.getD,q]
 ·rcases h4 y hy with q|q
  ·exact absurd e q
  ·exact q
 ·rcases h5 y hy with q|q
  ·rcases e with e|e<;>(rw[e]at q;cases q)
  ·rcases q with⟨i,hi,q⟩|q
   ·refine .inl (Ac.mpr ⟨(c.N.getD i "", i),Ac.mpr ⟨i,hi,rfl⟩,?_⟩)
    simp[List.getD,q]
   ·exact .inr (by simpa using q)
end
end SF
namespace SF
open PySem PySem.Spec PyProof.Rows L2
variable[TN]
section
variable{X:Cx}
theorem QE.cg{ex:Expr}{n n':Nat}{R:Km}{f g:Env→(Dat→Prop)→Prop}(h:QE X ex n R f)(hn:n≤n')(e:∀ δ Q,g δ Q→f δ Q):QE X ex n' R g:=λE pins s σ H δ m Φ ht I er pl hf=>h.le hn E pins s σ H δ m Φ ht I er pl (e _ _ hf)
theorem QT.cg{ex:Expr}{n n':Nat}{f g:Env→(Bool→Prop)→Prop}(h:QT X ex n f)(hn:n≤n')(e:∀ δ Q,g δ Q→f δ Q):QT X ex n' g:=λE pins s σ H δ m Φ ht I er pl hf=>
 thn (h E pins s σ H δ m Φ ht I er (pl.mono (by omega)) (e _ _ hf)) λk s1 q=>q.step (Step.refl H) (by omega)
theorem QA.cg{es:List Expr}{n n':Nat}{RL:Hp→List V→List Dat→Prop}{f g:Env→(List Dat→Prop)→Prop}(h:QA X es n RL f)(hn:n≤n')(e:∀ δ Q,g δ Q→f δ Q):QA X es n' RL g:=λpos E pins s σ H δ m Φ ht I er pl hf=>
 thn (h pos E pins s σ H δ m Φ ht I er (pl.mono (by omega)) (e _ _ hf)) λus s1 ⟨t,vs,H',ds,h1,h2,h3,h4,h5⟩=>⟨t,vs,H',ds,h1,h2,h3.mono hn,h4,h5⟩
theorem QI.cg{tg ex:Expr}{n n':Nat}{b z:Bool}{f g:Env→(Dat→Prop)→Prop}(h:QI X tg ex n b z f)(hn:n≤n')(e:∀ δ Q,g δ Q→f δ Q):QI X tg ex n' b z g:=λE pins s σ H δ m Φ ht I er pl hf=>
 thn (h E pins s σ H δ m Φ ht I er (pl.mono (by omega)) (e _ _ hf)) λv s1 q=>thn q λw s2 ⟨t,it,fp,tn,J,H',d,ds,h1,h2,h3,h4,h5,h6,h7⟩=>⟨t,it,fp,tn,J,H',d,ds,h1,h2,h3,h4,h5,h6.mono hn,h7⟩
theorem N7{ex:Expr}{n:Nat}{R:Km}{f:Env→(Dat→Prop)→Prop}(h:∀ δ Q,¬ f δ Q):QE X ex n R f:=λE pins s σ H δ m Φ ht I er pl hf=>absurd hf (h _ _)
theorem Apm{c a b:Expr}{n n' n'':Nat}{pos:Pos}{gc ga gb:Env→(Bool→Prop)→Prop}(hc:QT X c n gc)(ha:QT X a n' ga)(hb:QT X b n'' gb):QW X (.IfExp c a b pos) (n+(n'+n'')) (λδ Q=>gc δ λk=>if k=true then ga δ Q else gb δ Q):=λwhole E pins s σ H δ m Φ ht I er pl hf=>by
 refine isTrue_IfExp (thn (hc E pins s σ H δ (n'+n''+m) _ ht I er (pl.mono (by omega)) hf) λk s1 ⟨t,H',I',st,q⟩=>?_)
 cases k with
 | true=>
  rw[if_pos rfl]at q ⊢;exact thn (ha E pins s1 σ H' δ m Φ t I' (er.ext st.ext) (st.pot _ (pl.mono (by omega))) q) λu s2 z=>z.step st (by omega)
 | false=>
  rw[if_neg Bv]at q ⊢;exact thn (hb E pins s1 σ H' δ m Φ t I' (er.ext st.ext) (st.pot _ (pl.mono (by omega))) q) λu s2 z=>z.step st (by omega)
theorem Aim{a b c:Expr}{n n' n'':Nat}{pos:Pos}{fa fb fc:Env→(Dat→Prop)→Prop}(hu:X.A.units+200 < cLine)(o o':C2)(ha:QE X a n (RB X.kw) fa)(hb:QE X b n' (RB X.kw) fb)(hc:QE X c n'' (RB X.kw) fc)(hm:lastMarks [Ju o,Ju o'] [b,c]=false) :
  QT X (.Compare a [Ju o,Ju o'] [b,c] pos) (n+n'+n'') (λδ Q=>fa δ λx=>fb δ λy=>Ij o x y λk=>if k=true then fc δ λz=>Ij o' y z Q else Q false):=λE pins s σ H δ m Φ ht I er pl hf=>by
 refine isTrue_chain (thn (ha E pins s σ H δ (n'+n''+m) _ ht I er (pl.mono (by omega)) hf) λv s1 ⟨t1,x,H1,dx,I1,r1,st1,b1,q1⟩=>test_link (thn (hb E pins s1 σ H1 δ (n''+m) _ t1 I1 (er.ext st1.ext) (st1.pot _ (pl.mono (by omega))) q1) λu s2 ⟨t2,y,H2,dy,I2,r2,st2,b2,q2⟩=>?_)) hm;refine Cr t2 (Xl (X:=X.wish E) hu o pins s2 σ H2 x y v u (λw H'=>H'=H2∧∃k,w = .bl k∧(if k=true then fc δ λz=>Ij o' dy z Φ else Φ false)) (I2.wish E) r1 r2 ⟨dx,dy,b1.ext st2.ext,b2,Gq o dx dy _ _ (λk h=>⟨rfl,k,rfl,h⟩) q2⟩) λw s3 t3 ⟨z,H3,I3,r3,e1,k,e2,q3⟩=>?_
 subst e1 e2
 cases r3
 refine wpAny_truthy_bool ?_;have st:=st1.trans st2
 cases k with
 | false=>exact ite_ff ⟨t3,_,I3.unwish,st.mono (by omega),q3⟩
 | true=>
  refine ite_tt (test_last (thn (hc E pins s3 σ H3 δ m _ t3 I3.unwish (er.ext st.ext) (st.pot _ (pl.mono (by omega))) q3) λw' s4 ⟨t4,z',H4,dz,I4,r4,st4,b4,q4⟩=>?_));refine Cr t4 (Xl (X:=X.wish E) hu o' pins s4 σ H4 y z' u w' (λw H'=>H'=H4∧∃k,w = .bl k∧Φ k) (I4.wish E) r2 r4 ⟨dy,dz,b2.ext st4.ext,b4,Gq o' dy dz _ _ (λk h=>⟨rfl,k,rfl,h⟩) q4⟩) λw s' t ⟨z,H',I',r',e1,k,e2,h⟩=>?_
  subst e1 e2
  cases r'
  exact wpAny_truthy_bool ⟨t,_,I'.unwish,(st.trans st4).mono (by omega),h⟩
end
section
variable{tb:Tb}{C:Nat→List Dat→(Dat→Prop)→Prop}{G:Nat→Option Dat}{cc k:Nat}
theorem Mj:∀(l:List E) (m:M) (δ:Env) (Φ:List Dat→Prop),(∀f ds,Bj (C f ds))→evs C G l m δ Φ→evs C G l m δ λds=>ds.length=l.length∧Φ ds
 | [],m,δ,Φ,_,h=>by rw[evs]at h ⊢;exact⟨rfl,h⟩
 | e::l,m,δ,Φ,hC,h=>by
  rw[evs]at h ⊢;exact Ah hC e m δ _ _ (λd hd=>evs_mono hC l m δ _ _ (λds q=>⟨congrArg (· + 1) q.1,q.2⟩) (Mj l m δ _ hC hd)) h
theorem X7{e:E}(h:Lp e=false)(δ:Env)(Q:Dat→Prop):ev C G e .b δ Q→ev C G e .v δ Q:=by
 cases e<;>first
  | (intro q;simp only[ev]at q ⊢;exact q)
  | (intro q;simp only[ev]at q;done)
  | (simp[Lp]at h)
def isW:E→Bool
 | .zip _ _=>true
 | .enum _=>true
 | .range _=>true
 | _=>false
theorem Asv{e:E}(h:isW e=false):isZ e=false:=by
 cases e<;>first|rfl|(simp[isW]at h)
theorem Aoo{e:E}(h:isW e=false)(δ:Env)(Q:Dat→Prop):ev C G e .i δ Q→ev C G e .b δ Q:=by
 cases e<;>first
  | (intro q;simp only[ev]at q ⊢;exact q)
  | (simp[isW]at h)
theorem Arp{e:E}(h:isW e=false)(t:Option Expr)(c:Ck)(ex:Expr):chkE tb e t c ex=chkE tb e none c ex:=by
 rw[chkE.eq_def,chkE.eq_def tb e none]
 cases e<;>first
  | rfl
  | (simp[isW]at h)
theorem Zr{b:B1}{u:Value}(h:b1V b=some u):bootBuiltins (b1N b)=some u:=by
 cases b<;>simp only[b1V,Aj.injEq,reduceCtorEq]at h<;>subst h<;>decide +kernel
theorem Akv(t:Ty):bootBuiltins (PySem.Str.ofString (Yl t))=some (.type (Yl t)):=by
 cases t<;>decide +kernel
structure Snd(tb:Tb)(C:Nat→List Dat→(Dat→Prop)→Prop)(G:Nat→Option Dat)(cc k:Nat)(e:E):Prop where
 v:∀(X:Cx) (ex:Expr),Gd tb C G cc k X→chkE tb e none (ctx X) ex=true→QE X ex (cc*wE e) (RV X.kw) (ev C G e .v)
 o:∀(X:Cx) (ex:Expr),Gd tb C G cc k X→chkE tb e none (ctx X) ex=true→Ge e=true→QE X ex (cc*wE e) (ROw X.kw) (ev C G e .v)
 t:∀(X:Cx) (ex:Expr),Gd tb C G cc k X→chkE tb e none (ctx X) ex=true→QT X ex (cc*wE e) λδ Q=>ev C G e .v δ λx=>Bs x Q
 i:∀(X:Cx) (tg ex:Expr) (bb:Bool),Gd tb C G cc k X→chkE tb e (some tg) (ctx X) ex=true→(bb=false→Oh e=true)→QI X tg ex (cc*wE e) bb (isZ e) (ev C G e .i)
theorem Aob{e:E}(hv:∀(X:Cx) (ex:Expr),Gd tb C G cc k X→chkE tb e none (ctx X) ex=true→QE X ex (cc*wE e) (RV X.kw) (ev C G e .v))(X:Cx)(ex:Expr)(g:Gd tb C G cc k X)(hx:chkE tb e none (ctx X) ex=true):QE X ex (cc*wE e) (RB X.kw) (ev C G e .b):=by
 by_cases ho:Lp e=true
 ·cases e with
  | obs i=>
   cases ex with
   | Name x pos=>
    rw[chkE]at hx;obtain⟨h1,h2,h3,h4⟩:=Kc hx;exact(Apw h1 h2 h3 h4).cg (Am _) λδ Q q=>by simp only[ev]at q;exact q
   | _=>simp only[chkE]at hx;cases hx
  | _=>simp[Lp]at ho
 ·exact(hv X ex g hx).b.cg (Aa _) λδ Q=>X7 (by simpa using ho) δ Q
theorem Snd.b{e:E}(h:Snd tb C G cc k e)(X:Cx)(ex:Expr)(g:Gd tb C G cc k X)(hx:chkE tb e none (ctx X) ex=true):QE X ex (cc*wE e) (RB X.kw) (ev C G e .b):=Aob h.v X ex g hx
theorem M4{e:E}(hw:isW e=false)(hv:∀(X:Cx) (ex:Expr),Gd tb C G cc k X→chkE tb e none (ctx X) ex=true→QE X ex (cc*wE e) (RV X.kw) (ev C G e .v))(X:Cx)(tg ex:Expr)(bb:Bool)(g:Gd tb C G cc k X)(hx:chkE tb e (some tg) (ctx X) ex=true)(ho:bb=false→Oh e=true) :
  QI X tg ex (cc*wE e) bb (isZ e) (ev C G e .i):=by
 rw[Arp hw]at hx;rw[Asv hw]
 cases bb with
 | true=>exact(Air (bb:=true) (Aob hv X ex g hx)).cg (Aa _) λδ Q=>Aoo hw δ Q
 | false=>
  have ho:=ho rfl;exact(Air (bb:=false) (hv X ex g hx)).cg (Aa _) λδ Q q=>X7 (Ajh ho) δ Q (Aoo hw δ Q q)
def Oa:Expr→Bool
 | .UnaryOp .Not _ _=>false
 | .BoolOp ..=>false
 | .IfExp ..=>false
 | .Compare ..=>false
 | _=>true
theorem R5{ex:Expr}(h:Oa ex=true)(env:PySem.Env)(whole:Sem Value):isTrue ex env whole=(do let v ← whole;standAt ex.pos;holding [v] (truthy v)):=by
 cases ex with
 | UnaryOp op a p=>cases op<;>first|rfl|(simp[Oa]at h)
 | BoolOp=>simp[Oa]at h
 | IfExp=>simp[Oa]at h
 | Compare=>simp[Oa]at h
 | _=>rfl
theorem Snd.mkV{e:E}(hw:isW e=false)(hf:Ge e=false)(hp:∀(c:Ck) (ex:Expr),chkE tb e none c ex=true→Oa ex=true)(hv:∀(X:Cx) (ex:Expr),Gd tb C G cc k X→chkE tb e none (ctx X) ex=true→QE X ex (cc*wE e) (RV X.kw) (ev C G e .v)):Snd tb C G cc k e:=
 ⟨hv,λ_ _ _ _ f=>(by rw[hf]at f;exact nomatch f),λX ex g h=>Acv (hv X ex g h) λwhole=>R5 (hp _ _ h) _ whole,M4 hw hv⟩
theorem Snd.mkO{e:E}(hw:isW e=false)(hp:∀(c:Ck) (ex:Expr),chkE tb e none c ex=true→Oa ex=true)(ho:∀(X:Cx) (ex:Expr),Gd tb C G cc k X→chkE tb e none (ctx X) ex=true→QE X ex (cc*wE e) (ROw X.kw) (ev C G e .v)):Snd tb C G cc k e:=
 ⟨λX ex g h=>(ho X ex g h).frz,λX ex g h _=>ho X ex g h,λX ex g h=>Acv (ho X ex g h).frz λwhole=>R5 (hp _ _ h) _ whole,M4 hw λX ex g h=>(ho X ex g h).frz⟩
theorem Acx:∀{l:List E},(∀e∈l,Snd tb C G cc k e)→∀(X:Cx) (es:List Expr),Gd tb C G cc k X→chkL tb l (ctx X) es=true→QA X es (cc*wL l) (RLv X.kw) (evs C G l .v)
 | [],_,X,[],g,_=>(Aiy Aa2).cg (Am _) λδ Q q=>by rw[evs]at q;exact q
 | [],_,X,_::_,g,h=>by simp[chkL]at h
 | _::_,_,X,[],g,h=>by simp[chkL]at h
 | a::l,hs,X,e::es,g,h=>by
  simp only[chkL,Yzh]at h;exact(Ad8 Akg ((hs a (by simp)).v X e g h.1) (Acx (λe he=>hs e (by simp[he])) X es g h.2) (Dq h.1 _ _)).cg (by rw[wL,Ak];exact Aa _) λδ Q q=>by rw[evs]at q;exact q
theorem Aiz:∀{l:List E},(∀e∈l,Snd tb C G cc k e)→∀(X:Cx) (es:List Expr),Gd tb C G cc k X→chkL tb l (ctx X) es=true→QA X es (cc*wL l) (RLb X.kw) (evs C G l .b)
 | [],_,X,[],g,_=>(Aiy Atg).cg (Am _) λδ Q q=>by rw[evs]at q;exact q
 | [],_,X,_::_,g,h=>by simp[chkL]at h
 | _::_,_,X,[],g,h=>by simp[chkL]at h
 | a::l,hs,X,e::es,g,h=>by
  simp only[chkL,Yzh]at h;exact(Ad8 Aop ((hs a (by simp)).b X e g h.1) (Aiz (λe he=>hs e (by simp[he])) X es g h.2) (Dq h.1 _ _)).cg (by rw[wL,Ak];exact Aa _) λδ Q q=>by rw[evs]at q;exact q
theorem Asj:∀{l:List E},(∀e∈l,Snd tb C G cc k e)→∀(X:Cx) (ks:List Keyword),Gd tb C G cc k X→chkK tb l (ctx X) ks=true→QK X ks (cc*wL l) (evs C G l .v)
 | [],_,X,[],g,_=>λpos E pins s σ H δ m Φ ht I er pl hf=>App pos E pins s σ H δ m Φ ht I er (pl.mono (by omega)) (by rw[evs]at hf;exact hf)
 | [],_,X,_::_,g,h=>by simp[chkK]at h
 | _::_,_,X,[],g,h=>by simp[chkK]at h
 | a::l,hs,X,⟨nm,e,kp⟩::ks,g,h=>λpos E pins s σ H δ m Φ ht I er pl hf=>by
  simp only[chkK,Yzh]at h;have hw:cc*wE a+cc*wL l=cc*wL (a::l):=by rw[wL,Ak]
  rw[← hw]at pl ⊢;exact Al5 ((hs a (by simp)).v X e g h.1.2) (Asj (λe he=>hs e (by simp[he])) X ks g h.2) pos E pins s σ H δ m Φ ht I er pl (by rw[evs]at hf;exact hf)
theorem V9:∀{l:List E} {c:Ck} {ks:List Keyword},chkK tb l c ks=true→∀(env:PySem.Env) (pos:Pos),(backToKw pos (keywordEach ks env)).all (·.1.isSome)=true∧(backToKw pos (keywordEach ks env)).any (·.1.isNone)=false∧(backToKw pos (keywordEach ks env)).map (·.1)=kwN ks∧l.length=ks.length
 | [],c,[],_,env,pos=>⟨rfl,rfl,rfl,rfl⟩
 | [],c,_::_,h,_,_=>by simp[chkK]at h
 | _::_,c,[],h,_,_=>by simp[chkK]at h
 | a::l,c,⟨nm,e,kp⟩::ks,h,env,pos=>by
  simp only[chkK,Yzh]at h;obtain⟨h1,h2,h3,h4⟩:=V9 h.2 env pos;have hn:nm.isSome=true:=h.1.1;have hn':nm.isNone=false:=by cases nm<;>simp_all
  refine⟨?_,?_,?_,congrArg (· + 1) h4⟩
  ·show(nm.isSome && (backToKw pos (keywordEach ks env)).all (·.1.isSome))=true
   rw[hn,h1];rfl
  ·show(nm.isNone || (backToKw pos (keywordEach ks env)).any (·.1.isNone))=false
   rw[hn',h2];rfl
  ·show nm::(backToKw pos (keywordEach ks env)).map (·.1)=nm::kwN ks
   rw[h3]
theorem Ul{l:List (Option Str×Sem Value)}{ks:List Str}(h:l.map (·.1)=ks.map some):l.filterMap (·.1)=ks:=by
 have e:l.filterMap (·.1)=(l.map (·.1)).filterMap id:=by rw[Tt];rfl
 rw[e,h,Tt];show ks.filterMap (λx=>some x)=ks
 exact List.filterMap_some
theorem Aid{f:Nat}{l kl:List E}{sh:List Src}(hC:∀f ds,Bj (C f ds))(hl:∀e∈l,Snd tb C G cc k e)(hk:∀e∈kl,Snd tb C G cc k e):Snd tb C G cc k (.call f l kl sh):=by
 refine Snd.mkV rfl rfl (λc ex h=>?_) λX ex g h=>?_
 ·rw[chkE.eq_def]at h;dsimp only at h
  split at h
  ·rfl
  ·cases h
 ·rw [chkE.eq_def]at h;dsimp only at h
  split at h
  ·rename_i x p es kws pos
   simp only[Yzh,beq_iff_eq]at h;obtain⟨⟨⟨⟨⟨h1,h2⟩,h3⟩,h4⟩,h5⟩,h6⟩:=h;obtain⟨a,fd,ps,hm,hkeep,F,hbs⟩:=g.fns f x h1;have hm:=hm.1 (by simpa using h2.2);have hg:=Aet h2.1;have hdb:=(Hl h3).1;obtain⟨k1,k2,k3,k4⟩:=V9 h5 X.env pos;have hlen:=Oo h4
   split at h6
   ·rename_i ss hss
    simp only[Ei,Yzh,beq_iff_eq]at h6;obtain⟨q,hq,⟨e1,e2⟩,e3⟩:=h6;have hb:=hbs ss hss q hq;rw[e1,e3]at hb;have hfm:(backToKw pos (keywordEach kws X.env)).filterMap (·.1)=q.2.1:=Ul (k3.trans e2);have hkn:q.2.1.length=kl.length:=by
     have:=congrArg Dh e2;unfold kwN at this
     simpa [k4]using this.symm
    have hA:=Acx hl X es g h4;have hK:=Asj hk X kws g h5;have hle:∀ δ Φ,evs C G l .v δ Φ→evs C G l .v δ λds=>ds.length=es.length∧Φ ds:=λδ Φ z=>by have:=Mj l .v δ Φ hC z;rw[hlen]at this;exact this
    have hlk:∀ δ Φ,evs C G kl .v δ Φ→evs C G kl .v δ λds=>ds.length=q.2.1.length∧Φ ds:=λδ Φ z=>by have:=Mj kl .v δ Φ hC z;rw[← hkn]at this;exact this
    have hw:cc*wL l+cc*wL kl+cc=cc*wE (.call f l kl sh):=by rw[wE,Ak,Ak,Nat.mul_one]
    cases es with
    | nil=>
     have el:l=[]:=by cases l with|nil=>rfl|cons _ _=>simp at hlen
     subst el
     cases kws with
     | nil=>
      have ek:kl=[]:=by cases kl with|nil=>rfl|cons _ _=>simp at k4
      subst ek;have eq2:q.2.1=[]:=by cases z:q.2.1 with|nil=>rfl|cons _ _=>rw[z]at hkn;simp at hkn
      rw[eq2]at hb;exact(Amf F g.rm hg hm hkeep hb hdb).cg (by rw[← hw];omega) λδ Q z=>by rw[ev,evs,evs]at z;exact z
     | cons kw kws=>
      exact(Aiw F g.rm hg hm hkeep hb hdb hK k1 hfm hlk (by rw[k2];rfl)).cg (by rw[← hw];omega) λδ Q z=>by rw[ev,evs]at z;exact z
    | cons e es=>
     have hst:starEach (e::es) X.env=(false,eval e X.env)::starEach es X.env:=by
      cases l with
      | nil=>simp at hlen
      | cons a l=>simp only[chkL,Yzh]at h4;exact Dq h4.1 _ _
     have hpl0:=Vl h4 pos X.env;have hpl:(backTo pos (starEach es X.env)).any (·.1)=false:=by
      rw[hst]at hpl0;have z:(false || (backTo pos (starEach es X.env)).any (·.1))=false:=hpl0
      simpa using z
     cases kws with
     | nil=>
      have ek:kl=[]:=by cases kl with|nil=>rfl|cons _ _=>simp at k4
      subst ek;have eq2:q.2.1=[]:=by cases z:q.2.1 with|nil=>rfl|cons _ _=>rw[z]at hkn;simp at hkn
      rw[eq2]at hb;exact(Ame F g.rm hg hm hkeep hb hdb hA hle hst hpl).cg (by rw[← hw];omega) λδ Q z=>by rw[ev]at z;exact evs_mono hC l .v δ _ _ (λds y=>by rw[evs]at y;exact y) z
     | cons kw kws=>
      exact(Amd F g.rm hg hm hkeep hb hdb hA hle hst hK k1 hfm hlk (by rw[hpl0,k2];rfl) λδ=>evs_mono hC l .v δ).cg (by rw[← hw];exact Aa _) λδ Q z=>by rw[ev]at z;exact z
   ·cases h6
  ·cases h
end
end SF
namespace SF
open PySem PySem.Spec PyProof.Rows L2
variable[TN]
section
variable{tb:Tb}{C:Nat→List Dat→(Dat→Prop)→Prop}{G:Nat→Option Dat}{cc k:Nat}
theorem Ak3{i:Nat}:Snd tb C G cc k (.var i):=by
 refine Snd.mkV rfl rfl (λc ex h=>?_) λX ex g h=>?_
 ·rw[chkE.eq_def]at h;dsimp only at h
  split at h
  ·rfl
  ·cases h
 ·rw[chkE.eq_def]at h;dsimp only at h
  split at h
  ·obtain⟨h1,h2,h3,h4⟩:=Kc h
   exact(Apq h1 h2 h3 h4).cg (Am _) λδ Q q=>by rw[ev]at q;exact q
  ·cases h
theorem Ak8{i:Nat}:Snd tb C G cc k (.obs i):=by
 refine Snd.mkV rfl rfl (λc ex h=>?_) λX ex g h=>N7 λδ Q q=>by simp only[ev]at q
 rw[chkE.eq_def]at h;dsimp only at h
 split at h
 ·rfl
 ·cases h
theorem Aia{i:Nat}:Snd tb C G cc k (.glob i):=by
 refine Snd.mkV rfl rfl (λc ex h=>?_) λX ex g h=>?_
 ·rw[chkE.eq_def]at h;dsimp only at h
  split at h
  ·rfl
  ·cases h
 ·rw[chkE.eq_def]at h;dsimp only at h
  split at h
  ·simp only[Yzh,beq_iff_eq]at h
   obtain⟨⟨h1,h2⟩,h3⟩:=h
   cases hG:G i with
   | none=>exact N7 λδ Q q=>by simp only[ev,hG]at q
   | some d=>
    obtain⟨u,v,e1,e2,e3⟩:=g.glo i _ d h1 hG;exact(Amc (Aet h2) e1 e2 e3 (Hl h3).1).cg (Am _) λδ Q q=>by simp only[ev,hG]at q;exact q
  ·cases h
theorem Ala:Snd tb C G cc k .non:=by
 refine Snd.mkV rfl rfl (λc ex h=>?_) λX ex g h=>?_
 ·rw[chkE.eq_def]at h;dsimp only at h
  split at h
  ·rfl
  ·cases h
 ·rw[chkE.eq_def]at h;dsimp only at h
  split at h
  ·exact qe_non.cg (Am _) λδ Q q=>by rw[ev]at q;exact q
  ·cases h
theorem Ao3{b:Bool}:Snd tb C G cc k (.bl b):=by
 refine Snd.mkV rfl rfl (λc ex h=>?_) λX ex g h=>?_
 ·rw[chkE.eq_def]at h;dsimp only at h
  split at h
  ·rfl
  ·cases h
 ·rw[chkE.eq_def]at h;dsimp only at h
  split at h
  ·have e:=eq_of_beq h
   subst e;exact qe_bl.cg (Am _) λδ Q q=>by rw[ev]at q;exact q
  ·cases h
theorem Alj{b:Int}:Snd tb C G cc k (.int b):=by
 refine Snd.mkV rfl rfl (λc ex h=>?_) λX ex g h=>?_
 ·rw[chkE.eq_def]at h;dsimp only at h
  split at h
  ·rfl
  ·cases h
 ·rw[chkE.eq_def]at h;dsimp only at h
  split at h
  ·have e:=eq_of_beq h
   subst e;exact qe_int.cg (Am _) λδ Q q=>by rw[ev]at q;exact q
  ·cases h
theorem Ak5{b:List Nat}:Snd tb C G cc k (.str b):=by
 refine Snd.mkV rfl rfl (λc ex h=>?_) λX ex g h=>?_
 ·rw[chkE.eq_def]at h;dsimp only at h
  split at h
  ·rfl
  ·cases h
 ·rw[chkE.eq_def]at h;dsimp only at h
  split at h
  ·simp only[Yzh,beq_iff_eq,decide_eq_true_eq]at h
   exact(Apt h.1 (Bo h.2 (by decide))).cg (Am _) λδ Q q=>by rw[ev]at q;exact q
  ·cases h
theorem Ak7{o:O2}{a b:E}(ha:Snd tb C G cc k a)(hb:Snd tb C G cc k b):Snd tb C G cc k (.op2 o a b):=by
 refine Snd.mkO rfl (λc ex h=>?_) λX ex g h=>?_
 ·rw[chkE.eq_def]at h;dsimp only at h
  split at h
  ·rfl
  ·cases h
 ·rw[chkE.eq_def]at h;dsimp only at h
  split at h
  ·simp only[Yzh,beq_iff_eq]at h
   obtain⟨⟨rfl,h1⟩,h2⟩:=h;exact(Apv o (ha.b X _ g h1) (hb.b X _ g h2)).cg (by rw[wE,Ak];exact Aa _) λδ Q q=>by rw[ev]at q;exact q
  ·cases h
theorem Alc{a:E}(ha:Snd tb C G cc k a):Snd tb C G cc k (.neg a):=by
 refine Snd.mkV rfl rfl (λc ex h=>?_) λX ex g h=>?_
 ·rw[chkE.eq_def]at h;dsimp only at h
  split at h
  ·rfl
  ·cases h
 ·rw[chkE.eq_def]at h;dsimp only at h
  split at h
  ·exact(Apz (ha.v X _ g h)).cg (by rw[wE];exact Aa _) λδ Q q=>by rw[ev]at q;exact q
  ·cases h
theorem Aln{o:C2}{a b:E}(ha:Snd tb C G cc k a)(hb:Snd tb C G cc k b):Snd tb C G cc k (.cmp o a b):=by
 have hv:∀(X:Cx) (ex:Expr),Gd tb C G cc k X→chkE tb (.cmp o a b) none (ctx X) ex=true→QE X ex (cc*wE (.cmp o a b)) (RV X.kw) (ev C G (.cmp o a b) .v):=λX ex g h=>by
  rw[chkE.eq_def]at h;dsimp only at h
  split at h
  ·simp only[Yzh,beq_iff_eq]at h
   obtain⟨⟨rfl,h1⟩,h2⟩:=h;exact(Ap7 (by have:=g.rm.hu;omega) o (ha.b X _ g h1) (hb.b X _ g h2) (S7 h2 _)).cg (by rw[wE,Ak];exact Aa _) λδ Q q=>by rw[ev]at q;exact q
  ·cases h
 refine⟨hv,λ_ _ _ _ f=>by simp[Ge]at f,λX ex g h=>?_,M4 rfl hv⟩;rw[chkE.eq_def]at h;dsimp only at h
 split at h
 ·simp only[Yzh,beq_iff_eq]at h
  obtain⟨⟨rfl,h1⟩,h2⟩:=h;exact(Apj (by have:=g.rm.hu;omega) o (ha.b X _ g h1) (hb.b X _ g h2) (S7 h2 _)).t.cg (by rw[wE,Ak];exact Aa _) λδ Q q=>by rw[ev]at q;exact q
 ·cases h
theorem Afv{o o':C2}{a b d:E}(hC:∀f ds,Bj (C f ds))(ha:Snd tb C G cc k a)(hb:Snd tb C G cc k b)(hd:Snd tb C G cc k d):Snd tb C G cc k (.chain o o' a b d):=by
 have hv:∀(X:Cx) (ex:Expr),Gd tb C G cc k X→chkE tb (.chain o o' a b d) none (ctx X) ex=true→QE X ex (cc*wE (.chain o o' a b d)) (RV X.kw) (ev C G (.chain o o' a b d) .v):=λX ex g h=>by
  rw[chkE.eq_def]at h;dsimp only at h
  split at h
  ·simp only[Yzh,beq_iff_eq]at h
   obtain⟨⟨⟨⟨rfl,rfl⟩,h1⟩,h2⟩,h3⟩:=h;exact(Aix (by have:=g.rm.hu;omega) o o' (ha.b X _ g h1) (hb.b X _ g h2) (hd.b X _ g h3) (Ael h3)).cg (by rw[wE,Ak,Ak];exact Aa _) λδ Q q=>by rw[ev]at q;exact q
  ·cases h
 refine⟨hv,λ_ _ _ _ f=>by simp[Ge]at f,λX ex g h=>?_,M4 rfl hv⟩;rw[chkE.eq_def]at h;dsimp only at h
 split at h
 ·simp only[Yzh,beq_iff_eq]at h
  obtain⟨⟨⟨⟨rfl,rfl⟩,h1⟩,h2⟩,h3⟩:=h;refine(Aim (by have:=g.rm.hu;omega) o o' (ha.b X _ g h1) (hb.b X _ g h2) (hd.b X _ g h3) (Ael h3)).cg (by rw[wE,Ak,Ak];exact Aa _) λδ Q q=>?_
  rw[ev]at q;refine Ah hC a .b δ _ _ (λx=>Ah hC b .b δ _ _ λy=>Gq o x y _ _ λkk hk=>?_) q
  split at hk
  ·rename_i e;rw[if_pos e];exact hk
  ·rename_i e;rw[if_neg e];exact hk
 ·cases h
theorem Alh{a:E}(ha:Snd tb C G cc k a):Snd tb C G cc k (.isN a):=by
 have hv:∀(X:Cx) (ex:Expr),Gd tb C G cc k X→chkE tb (.isN a) none (ctx X) ex=true→QE X ex (cc*wE (.isN a)) (RV X.kw) (ev C G (.isN a) .v):=λX ex g h=>by
  rw[chkE.eq_def]at h;dsimp only at h
  split at h
  ·exact(Ap3 (ha.v X _ g h)).cg (by rw[wE];exact Aa _) λδ Q q=>by rw[ev]at q;exact q
  ·cases h
 refine⟨hv,λ_ _ _ _ f=>by simp[Ge]at f,λX ex g h=>?_,M4 rfl hv⟩;rw[chkE.eq_def]at h;dsimp only at h
 split at h
 ·exact(Apn (ha.v X _ g h)).cg (by rw[wE];exact Aa _) λδ Q q=>by rw[ev]at q;exact q
 ·cases h
theorem Ali{ng:Bool}{a:E}{b:Bool}(ha:Snd tb C G cc k a):Snd tb C G cc k (.isB ng a b):=by
 have hv:∀(X:Cx) (ex:Expr),Gd tb C G cc k X→chkE tb (.isB ng a b) none (ctx X) ex=true→QE X ex (cc*wE (.isB ng a b)) (RV X.kw) (ev C G (.isB ng a b) .v)∧QT X ex (cc*wE (.isB ng a b)) (λδ Q=>ev C G (.isB ng a b) .v δ λx=>Bs x Q):=λX ex g h=>by
  rw[chkE.eq_def]at h;dsimp only at h
  split at h
  ·rename_i l op kk j p' pos
   simp only[Yzh,beq_iff_eq]at h;obtain⟨⟨h1,h2⟩,h3⟩:=h;subst h2
   split at h1
   ·have e:ng=false:=by simpa using h1
    subst e;exact⟨(Amb (ha.v X _ g h3)).cg (by rw[wE];exact Aa _) λδ Q q=>by rw[ev]at q;simp only[Bool.bne_false]at q;exact q,
     (Al2 (ha.v X _ g h3)).cg (by rw[wE];exact Aa _) λδ Q q=>by rw[ev]at q;simp only[Bool.bne_false,Bs]at q ⊢;exact q⟩
   ·subst h1
    exact⟨(Ama (ha.v X _ g h3)).cg (by rw[wE];exact Aa _) λδ Q q=>by rw[ev]at q;simp only[Bool.bne_true]at q;exact q,
     (Al1 (ha.v X _ g h3)).cg (by rw[wE];exact Aa _) λδ Q q=>by rw[ev]at q;simp only[Bool.bne_true,Bs]at q ⊢;exact q⟩
   ·cases h1
  ·cases h
 exact⟨λX ex g h=>(hv X ex g h).1,λ_ _ _ _ f=>by simp[Ge]at f,λX ex g h=>(hv X ex g h).2,M4 rfl λX ex g h=>(hv X ex g h).1⟩
theorem Ah8{a:E}(ha:Snd tb C G cc k a):Snd tb C G cc k (.notN a):=by
 have hv:∀(X:Cx) (ex:Expr),Gd tb C G cc k X→chkE tb (.notN a) none (ctx X) ex=true→QE X ex (cc*wE (.notN a)) (RV X.kw) (ev C G (.notN a) .v):=λX ex g h=>by
  rw[chkE.eq_def]at h;dsimp only at h
  split at h
  ·exact(Al8 (ha.v X _ g h)).cg (by rw[wE];exact Aa _) λδ Q q=>by rw[ev]at q;exact q
  ·cases h
 refine⟨hv,λ_ _ _ _ f=>by simp[Ge]at f,λX ex g h=>?_,M4 rfl hv⟩;rw[chkE.eq_def]at h;dsimp only at h
 split at h
 ·exact(Al0 (ha.v X _ g h)).cg (by rw[wE];exact Aa _) λδ Q q=>by rw[ev]at q;exact q
 ·cases h
theorem QT.wAnd{X:Cx}{vs:List Expr}{op:BoolOp}{p:Pos}{n:Nat}{f:Env→(Bool→Prop)→Prop}(h:QT X (.BoolOp op vs p) n f):QW X (.BoolOp op vs p) n f:=λ_=>h
theorem Alo{a b:E}(hC:∀f ds,Bj (C f ds))(ha:Snd tb C G cc k a)(hb:Snd tb C G cc k b):Snd tb C G cc k (.and a b):=by
 have hv:∀(X:Cx) (ex:Expr),Gd tb C G cc k X→chkE tb (.and a b) none (ctx X) ex=true→QE X ex (cc*wE (.and a b)) (RV X.kw) (ev C G (.and a b) .v):=λX ex g h=>by
  rw[chkE.eq_def]at h;dsimp only at h
  split at h
  ·rename_i l r rest p
   simp only[Yzh]at h;obtain⟨h1,h2⟩:=h;have hb2:QE X (.BoolOp .And (r::rest) p) (cc*wE b) (RV X.kw) (ev C G b .v):=by
    cases rest with
    | nil=>exact Aiu (hb.v X _ g h2)
    | cons r2 rest=>exact hb.v X _ g h2
   exact(Ap8 (ha.v X _ g h1) hb2).cg (by rw[wE,Ak];exact Aa _) λδ Q q=>by rw[ev]at q;exact q
  ·cases h
 refine⟨hv,λ_ _ _ _ f=>by simp[Ge]at f,λX ex g h=>?_,M4 rfl hv⟩;rw[chkE.eq_def]at h;dsimp only at h
 split at h
 ·rename_i l r rest p
  simp only[Yzh]at h;obtain⟨h1,h2⟩:=h;have hb2:QW X (.BoolOp .And (r::rest) p) (cc*wE b) (λδ Q=>ev C G b .v δ λx=>Bs x Q):=by
   cases rest with
   | nil=>exact Alz (hb.t X _ g h2)
   | cons r2 rest=>exact(hb.t X _ g h2).wAnd
  refine(Apk (ha.t X _ g h1) hb2).t.cg (by rw[wE,Ak];exact Aa _) λδ Q q=>?_
  rw[ev]at q;refine Ah hC a .v δ _ _ (λx=>Cj x _ _ λkk hk=>?_) q
  split at hk
  ·rename_i e;rw[if_pos e];exact hk
  ·rename_i e;rw[if_neg e];exact hk
 ·cases h
theorem Ao1{a b:E}(hC:∀f ds,Bj (C f ds))(ha:Snd tb C G cc k a)(hb:Snd tb C G cc k b):Snd tb C G cc k (.or a b):=by
 have hv:∀(X:Cx) (ex:Expr),Gd tb C G cc k X→chkE tb (.or a b) none (ctx X) ex=true→QE X ex (cc*wE (.or a b)) (RV X.kw) (ev C G (.or a b) .v):=λX ex g h=>by
  rw[chkE.eq_def]at h;dsimp only at h
  split at h
  ·rename_i l r rest p
   simp only[Yzh]at h;obtain⟨h1,h2⟩:=h;have hb2:QE X (.BoolOp .Or (r::rest) p) (cc*wE b) (RV X.kw) (ev C G b .v):=by
    cases rest with
    | nil=>exact Aiu (hb.v X _ g h2)
    | cons r2 rest=>exact hb.v X _ g h2
   exact(Asm (ha.v X _ g h1) hb2).cg (by rw[wE,Ak];exact Aa _) λδ Q q=>by rw[ev]at q;exact q
  ·cases h
 refine⟨hv,λ_ _ _ _ f=>by simp[Ge]at f,λX ex g h=>?_,M4 rfl hv⟩;rw[chkE.eq_def]at h;dsimp only at h
 split at h
 ·rename_i l r rest p
  simp only[Yzh]at h;obtain⟨h1,h2⟩:=h;have hb2:QW X (.BoolOp .Or (r::rest) p) (cc*wE b) (λδ Q=>ev C G b .v δ λx=>Bs x Q):=by
   cases rest with
   | nil=>exact Api (hb.t X _ g h2)
   | cons r2 rest=>exact(hb.t X _ g h2).wAnd
  refine(Asi (ha.t X _ g h1) hb2).t.cg (by rw[wE,Ak];exact Aa _) λδ Q q=>?_
  rw[ev]at q;refine Ah hC a .v δ _ _ (λx=>Cj x _ _ λkk hk=>?_) q
  split at hk
  ·rename_i e;rw[if_pos e];exact hk
  ·rename_i e;rw[if_neg e];exact hk
 ·cases h
theorem Ak9{a:E}(hC:∀f ds,Bj (C f ds))(ha:Snd tb C G cc k a):Snd tb C G cc k (.not a):=by
 have hv:∀(X:Cx) (ex:Expr),Gd tb C G cc k X→chkE tb (.not a) none (ctx X) ex=true→QE X ex (cc*wE (.not a)) (RV X.kw) (ev C G (.not a) .v):=λX ex g h=>by
  rw[chkE.eq_def]at h;dsimp only at h
  split at h
  ·exact(Apx (ha.v X _ g h)).cg (by rw[wE];exact Aa _) λδ Q q=>by rw[ev]at q;exact q
  ·cases h
 refine⟨hv,λ_ _ _ _ f=>by simp[Ge]at f,λX ex g h=>?_,M4 rfl hv⟩;rw[chkE.eq_def]at h;dsimp only at h
 split at h
 ·exact(Apl (ha.t X _ g h)).t.cg (by rw[wE];exact Aa _) λδ Q q=>by rw[ev]at q;exact q
 ·cases h
theorem Aij{K:KW}{H H1 H':Hp}{v:V}{d:Dat}(e:Ext H H1)(h:ROw K H1 H' v d):ROw K H H' v d:=by
 rcases h with⟨D,a,b,c⟩|h
 ·exact .inl ⟨D,a,e.none b,c⟩
 ·exact .inr h
theorem Ale{t a b:E}(hC:∀f ds,Bj (C f ds))(ht:Snd tb C G cc k t)(ha:Snd tb C G cc k a)(hb:Snd tb C G cc k b):Snd tb C G cc k (.ite t a b):=by
 have hv:∀(X:Cx) (ex:Expr),Gd tb C G cc k X→chkE tb (.ite t a b) none (ctx X) ex=true→QE X ex (cc*wE (.ite t a b)) (RV X.kw) (ev C G (.ite t a b) .v):=λX ex g h=>by
  rw[chkE.eq_def]at h;dsimp only at h
  split at h
  ·simp only[Yzh]at h
   obtain⟨⟨h1,h2⟩,h3⟩:=h;exact(Aiv (λ_ _ _ _ _ _ z=>z) (ht.t X _ g h1) (ha.v X _ g h2) (hb.v X _ g h3)).cg (by rw[wE,Ak,Ak];exact Aa _) λδ Q q=>by rw[ev]at q;exact q
  ·cases h
 refine⟨hv,λX ex g h f=>?_,λX ex g h=>?_,M4 rfl hv⟩
 ·rw[Ge,Yzh]at f
  rw[chkE.eq_def]at h;dsimp only at h
  split at h
  ·simp only[Yzh]at h
   obtain⟨⟨h1,h2⟩,h3⟩:=h;refine QE.cg (Aiv (R:=ROw X.kw) (λ_ _ _ _ _ e z=>Aij e z) (ht.t X _ g h1) (ha.o X _ g h2 f.1) (hb.o X _ g h3 f.2)) ?_ ?_
   ·rw[wE,Ak,Ak];exact Aa _
   ·intro δ Q q;rw[ev]at q;exact q
  ·cases h
 rw[chkE.eq_def]at h;dsimp only at h
 split at h
 ·simp only[Yzh]at h
  obtain⟨⟨h1,h2⟩,h3⟩:=h;refine(Apm (ht.t X _ g h1) (ha.t X _ g h2) (hb.t X _ g h3)).t.cg (by rw[wE,Ak,Ak];exact Aa _) λδ Q q=>?_
  rw[ev]at q;refine Ah hC t .v δ _ _ (λx=>Cj x _ _ λkk hk=>?_) q
  split at hk
  ·rename_i e;rw[if_pos e];exact hk
  ·rename_i e;rw[if_neg e];exact hk
 ·cases h
theorem Ak4{l:List E}(hC:∀f ds,Bj (C f ds))(hl:∀e∈l,Snd tb C G cc k e):Snd tb C G cc k (.tup l):=by
 refine Snd.mkV rfl rfl (λc ex h=>?_) λX ex g h=>?_
 ·rw[chkE.eq_def]at h;dsimp only at h
  split at h
  ·rfl
  ·cases h
 ·rw[chkE.eq_def]at h;dsimp only at h
  split at h
  ·simp only[Yzh,decide_eq_true_eq]at h
   have hlen:=Oo h.1;exact(Aps (λδ Q q=>evs_mono hC l .v δ _ _ (λds z=>⟨by rw[z.1,hlen];exact Bo h.2 (by decide),z.2⟩) (Mj l .v δ Q hC q)) (Acx hl X _ g h.1)).cg (by rw[wE];exact Aa _) λδ Q q=>by rw[ev]at q;exact q
  ·cases h
theorem Ald{l:List E}(hC:∀f ds,Bj (C f ds))(hl:∀e∈l,Snd tb C G cc k e):Snd tb C G cc k (.lst l):=by
 refine Snd.mkO rfl (λc ex h=>?_) λX ex g h=>?_
 ·rw[chkE.eq_def]at h;dsimp only at h
  split at h
  ·rfl
  ·cases h
 ·rw[chkE.eq_def]at h;dsimp only at h
  split at h
  ·simp only[Yzh,decide_eq_true_eq]at h
   have hlen:=Oo h.1;exact(Ap0 (λδ Q q=>evs_mono hC l .v δ _ _ (λds z=>⟨by rw[z.1,hlen];exact Bo h.2 (by decide),z.2⟩) (Mj l .v δ Q hC q)) (Acx hl X _ g h.1)).cg (by rw[wE];exact Aa _) λδ Q q=>by rw[ev]at q;exact q
  ·cases h
theorem Alk{a i:E}(ha:Snd tb C G cc k a)(hi:Snd tb C G cc k i):Snd tb C G cc k (.idx a i):=by
 refine Snd.mkV rfl rfl (λc ex h=>?_) λX ex g h=>?_
 ·rw[chkE.eq_def]at h;dsimp only at h
  split at h
  ·rfl
  ·cases h
 ·rw[chkE.eq_def]at h;dsimp only at h
  split at h
  ·simp only[Yzh]at h
   exact(Ap4 (by have:=g.rm.hu;omega) (Ac0 h.2) (ha.b X _ g h.1) (hi.v X _ g h.2).b).cg (by rw[wE,Ak];exact Aa _) λδ Q q=>by rw[ev]at q;exact q
  ·cases h
theorem Aip{X:Cx}(n:Nat):QP X none n (ev C G .non .v):=λE pins s σ H δ m Φ ht I er pl hf=>by
 have hf':Φ .non:=by rw[ev]at hf;exact hf
 exact thn (Al4 E pins s σ H δ (n+m) Φ ht I er (pl.mono (by omega)) hf') λu s' ⟨t,H',d,h1,h2,h3,h4⟩=>⟨t,H',d,h1,h2.mono (Am _),h3,h4⟩
theorem Ak6{a lo hi:E}(ha:Snd tb C G cc k a)(hl:Snd tb C G cc k lo)(hh:Snd tb C G cc k hi):Snd tb C G cc k (.slc a lo hi):=by
 refine Snd.mkO rfl (λc ex h=>?_) λX ex g h=>?_
 ·rw[chkE.eq_def]at h;dsimp only at h
  split at h
  ·rfl
  ·cases h
 ·rw [chkE.eq_def]at h;dsimp only at h
  split at h
  ·rename_i v l u p1 p2
   simp only[Yzh]at h;obtain⟨⟨h1,h2⟩,h3⟩:=h;have q1:QP X l (cc*wE lo) (ev C G lo .v):=by
    cases l with
    | none=>
     cases lo<;>first
      | exact Aip _
      | cases h2
    | some l=>exact Ad6 (hl.v X _ g h2)
   have q2:QP X u (cc*wE hi) (ev C G hi .v):=by
    cases u with
    | none=>
     cases hi<;>first
      | exact Aip _
      | cases h3
    | some l=>exact Ad6 (hh.v X _ g h3)
   exact(Apu (ha.b X _ g h1) q1 q2).cg (by rw[wE,Ak,Ak];exact Aa _) λδ Q q=>by rw[ev]at q;exact q
  ·cases h
end
end SF
namespace SF
open PySem PySem.Spec PyProof.Rows L2
variable[TN]
section
variable{tb:Tb}{C:Nat→List Dat→(Dat→Prop)→Prop}{G:Nat→Option Dat}{cc k:Nat}
theorem QR.cg{X:Cx}{ex:Expr}{n n':Nat}{F F':Env→(Dat→Prop)→Prop}(h:QR X G ex n F)(hn:n≤n')(e:∀ δ Q,F' δ Q→F δ Q):QR X G ex n' F':=λE pins s σ H δ m Φ t I er ex0 pl hE hf=>
 thn (h E pins s σ H δ m Φ t I er ex0 (pl.mono (by omega)) (λu s' q=>hE u s' ⟨q.1,Yi (λ_ _ _ _ ⟨a1,c,y,st,a2⟩=>⟨a1,c,y,st.mono hn,a2⟩) q.2⟩) (e _ _ hf)) λu s' q=>q.step (Step.refl H) (by omega) λ_ _ _ z=>z
theorem ClsX.field{P:Program}{w:World}{K:PySem.W.Frag}{mg:Str→Option Value}{base:Heap}(x:ClsX P w K mg base tb G)(c q:Nat)(l:List Nat)(h:gX G c=some (.obj q [.str l])):∃fn:Str,fn.cps.toList=l∧XcOk P w K mg base q fn:=by
 obtain⟨r,hr⟩:=x.of c _ h;obtain⟨p,e1,e2,e3⟩:=x.at_ c r hr;rw[h]at e1;obtain⟨_,fo⟩:=r
 cases fo with
 | none=>cases e1
 | some fn=>
  injection e1 with e1;injection e1 with e4 e5;unfold nsX at e5;injection e5 with e5;injection e5 with e5;subst e4;exact⟨fn,e5.symm,(e3 fn rfl).2⟩
end
end SF
namespace SF
open PySem PySem.Spec PyProof.Rows L2
variable[TN]
def noC:Nat→List Dat→(Dat→Prop)→Prop:=λ_ _ _=>False
theorem Q5:∀f ds,Bj (noC f ds):=λ_ _ _ _ _ h=>h
end SF
namespace SF
open PySem PySem.Spec PyProof.Rows L2
variable[TN]
section
variable{tb:Tb}{C:Nat→List Dat→(Dat→Prop)→Prop}{G:Nat→Option Dat}{cc k:Nat}
theorem Iu{c:Ck}{l:List E}{e:Expr}{es:List Expr}(h:chkL tb l c (e::es)=true)(env:PySem.Env):starEach (e::es) env=(false,eval e env)::starEach es env:=by
 cases l with
 | nil=>simp[chkL]at h
 | cons a l=>simp only[chkL,Yzh]at h;exact Dq h.1 _ _
theorem Gy{c:Ck}{l:List E}{e:Expr}{es:List Expr}(h:chkL tb l c (e::es)=true)(pos:Pos)(env:PySem.Env):(backTo pos (starEach es env)).any (·.1)=false:=by
 cases l with
 | nil=>simp[chkL]at h
 | cons a l=>simp only[chkL,Yzh]at h;exact Vl h.2 _ _
theorem Ao4{b:B1}{l:List E}(hC:∀f ds,Bj (C f ds))(hl:∀e∈l,Snd tb C G cc k e):Snd tb C G cc k (.bi b l):=by
 refine Snd.mkO rfl (λc ex h=>?_) λX ex g h=>?_
 ·rw[chkE.eq_def]at h;dsimp only at h
  split at h
  ·rfl
  ·cases h
 ·rw[chkE.eq_def]at h;dsimp only at h
  split at h
  ·simp only[Yzh]at h
   obtain⟨⟨h1,h2⟩,h3⟩:=h;obtain⟨u,hu⟩:=Option.isSome_iff_exists.mp h2;obtain⟨e1,hg,hm⟩:=Hn g h1;exact(Asn g.sys g.rm.hu g.rm.gu g.calm b u hu e1 hg hm (by rw[e1];exact Zr hu) (Aiz hl X _ g h3) (Iu h3 _) (Gy h3 _ _)).cg (by rw[wE];exact Aa _) λδ Q q=>by rw[ev]at q;exact q
  ·cases h
theorem Alf{a:E}{t:Ty}(ha:Snd tb C G cc k a):Snd tb C G cc k (.isi a t):=by
 refine Snd.mkV rfl rfl (λc ex h=>?_) λX ex g h=>?_
 ·rw[chkE.eq_def]at h;dsimp only at h
  split at h
  ·rfl
  ·cases h
 ·rw[chkE.eq_def]at h;dsimp only at h
  split at h
  ·rename_i x p e y p' pos
   simp only[Yzh]at h;obtain⟨⟨h1,h2⟩,h3⟩:=h;obtain⟨e1,hg,hm⟩:=Hn g h1;obtain⟨e2,hg2,hm2⟩:=Hn g h2;have hy:QE X (.Name y p') 0 (RT (Yl t)) (λ_ Q=>Q .non):=by
    refine Asl hg2 hm2 (by rw[e2];exact Akv t) ?_ ?_
    ·rw[e2];cases t<;>decide
    ·rw[e2];cases t<;>decide
   exact(Ap2 t e1 hg hm (ha.v X _ g h3) hy (Dq h3 _ _) rfl rfl).cg (by rw[wE];exact Aa _) λδ Q q=>by rw[ev]at q;exact q
  ·cases h
theorem Aj7(hC:∀f ds,Bj (C f ds)):∀{l:List E},(∀e∈l,Lp e=false)→∀(δ:Env) (Q:List Dat→Prop),evs C G l .b δ Q→evs C G l .v δ Q
 | [],_,δ,Q,h=>by rw[evs]at h ⊢;exact h
 | a::l,no,δ,Q,h=>by
  rw[evs]at h ⊢;exact Ah hC a .v δ _ _ (λd hd=>Aj7 hC (λe he=>no e (by simp[he])) δ _ hd) (X7 (no a (by simp)) δ _ h)
theorem Afr{o:E}{l:List E}(ho:Snd tb C G cc k o)(hl:∀e∈l,Snd tb C G cc k e)(X:Cx)(ex:Expr)(g:Gd tb C G cc k X)(h:chkE tb (.me .split o l) none (ctx X) ex=true):QE X ex (cc*wE (.me .split o l)) (ROw X.kw) (ev C G (.me .split o l) .v):=by
 rw[chkE.eq_def]at h;dsimp only at h
 split at h
 ·rename_i v nm ap e es cp
  simp only[Yzh,beq_iff_eq,decide_eq_true_eq]at h;obtain⟨⟨⟨⟨⟨⟨h1,h2⟩,h3⟩,h4⟩,h5⟩,h6⟩,h7⟩:=h;have hbase:=U0 h1 nm X.env (eval v X.env);have hline:(ap.endLine == cp.line)=true:=beq_iff_eq.mpr h3;have hst:=Iu h6 X.env;have hfew:((backTo cp (starEach (e::es) X.env)).all (λx=>!x.1) && (backToKw cp (keywordEach [] X.env)).all (λx=>x.1.isSome) && decide ((e::es).length+([]:List Keyword).length+(if([]:List Keyword).isEmpty then 0 else 1) < 30))=true:=by
   rw[Zt h6];have:(e::es).length+([]:List Keyword).length+(if([]:List Keyword).isEmpty then 0 else 1) < 30:=by
    simp only[Yzk,Az,Wk,if_true];omega
   rw[decide_eq_true this];rfl
  exact(Aog (by decide) h2 (λE d ok=>Xp ok) (ho.b X _ g h5) (Aiz hl X _ g h6) hbase hfew hline hst (Gy h6 _ _)).cg (by rw[wE,Ak];exact Aa _) λδ Q q=>by rw[ev]at q;exact q
 ·cases h
theorem Ao2{m:M1}{o:E}{l:List E}(hC:∀f ds,Bj (C f ds))(ho:Snd tb C G cc k o)(hl:∀e∈l,Snd tb C G cc k e):Snd tb C G cc k (.me m o l):=by
 have hp:∀(c:Ck) (ex:Expr),chkE tb (.me m o l) none c ex=true→Oa ex=true:=λc ex h=>by
  rw[chkE.eq_def]at h;dsimp only at h
  split at h
  ·rfl
  ·cases h
 have hv:∀(X:Cx) (ex:Expr),Gd tb C G cc k X→chkE tb (.me m o l) none (ctx X) ex=true→QE X ex (cc*wE (.me m o l)) (RV X.kw) (ev C G (.me m o l) .v):=λX ex g h=>by
  rw[chkE.eq_def]at h;dsimp only at h
  split at h
  ·rename_i v nm ap e es cp
   simp only[Yzh,beq_iff_eq,decide_eq_true_eq]at h;obtain⟨⟨⟨⟨⟨⟨h1,h2⟩,h3⟩,h4⟩,h5⟩,h6⟩,h7⟩:=h;have hbase:=U0 h1 nm X.env (eval v X.env);have hline:(ap.endLine == cp.line)=true:=beq_iff_eq.mpr h3;have hst:=Iu h6 X.env;have hfew:((backTo cp (starEach (e::es) X.env)).all (λx=>!x.1) && (backToKw cp (keywordEach [] X.env)).all (λx=>x.1.isSome) && decide ((e::es).length+([]:List Keyword).length+(if([]:List Keyword).isEmpty then 0 else 1) < 30))=true:=by
    rw[Zt h6];have:(e::es).length+([]:List Keyword).length+(if([]:List Keyword).isEmpty then 0 else 1) < 30:=by
     simp only[Yzk,Az,Wk,if_true];omega
    rw[decide_eq_true this];rfl
   have gen:m ≠ .get→(∀E d,Ih m d=true→MetR (X.wish E) m d)→QE X (.Call (.Attribute v nm ap) (e::es) [] cp) (cc*wE (.me m o l)) (RV X.kw) (ev C G (.me m o l) .v):=λng hm=>
    (Aog ng h2 hm (ho.b X _ g h5) (Aiz hl X _ g h6) hbase hfew hline hst (Gy h6 _ _)).frz.cg (by rw[wE,Ak];exact Aa _) λδ Q q=>by rw[ev]at q;exact q
   cases m with
   | index=>exact gen (by decide) λE d ok=>Agk (X:=X.wish E) g.rm.hu ok
   | count=>exact gen (by decide) λE d ok=>Agl (X:=X.wish E) g.rm.hu ok
   | join=>exact gen (by decide) λE d ok=>Ajm ok
   | lstrip=>exact gen (by decide) λE d ok=>Ac9 ok
   | replace=>
    have key:∃y j c0 z k' c1 ya zl,e = .Constant (.str y) j c0∧es=[.Constant (.str z) k' c1]∧l=[.str ya,.str zl]:=by
     dsimp only at h7
     split at h7<;>first
      | exact⟨_,_,_,_,_,_,_,_,rfl,rfl,rfl⟩
      | (split at h7<;>first
        | exact⟨_,_,_,_,_,_,_,_,rfl,rfl,rfl⟩
        | cases h7)
      | cases h7
    obtain⟨y,j,c0,z,k',c1,ya,zl,rfl,rfl,rfl⟩:=key;simp only[chkL,Yzh]at h6;have hy:=h6.1;have hz:=h6.2.1;rw[chkE.eq_def]at hy hz;dsimp only at hy hz;simp only[Yzh,beq_iff_eq]at hy hz;subst h2;refine(Acw (X:=X) hy.1 hz.1 (ho.b X _ g h5) rfl hbase hline).frz.cg (by rw[wE,Ak];omega) λδ Q q=>?_
    rw[ev]at q;refine Ah hC o .b δ _ _ (λx hx=>⟨hx.1,?_⟩) q;have:=hx.2;simp only[evs,ev]at this;exact this
   | get=>
    have eq:nm=("get" : Str):=h2;subst eq;refine(Ap5 (by have:=g.rm.hu;omega) (ho.b X _ g h5) (Acx hl X _ g h6) hbase hfew hline hst (Gy h6 _ _)).cg (by rw[wE,Ak];exact Aa _) λδ Q q=>?_
    rw[ev]at q;exact Ah hC o .b δ _ _ (λx hx=>⟨hx.1,Aj7 hC (λe he=>by have:=Ai.mp h7 _ he;simpa using this) δ _ hx.2⟩) q
   | upper=>cases h7
   | split=>exact gen (by decide) λE d ok=>Xp ok
   | partition=>exact gen (by decide) λE d ok=>Wu ok
   | startswith=>exact gen (by decide) λE d ok=>Vt ok
  ·cases h
 exact⟨λX ex g h=>(hv X ex g h),λX ex g h f=>by
  cases m<;>first
   | exact Afr ho hl X ex g h
   | (simp[Ge]at f;done),λX ex g h=>Acv (hv X ex g h) λwhole=>R5 (hp _ _ h) _ whole,M4 rfl λX ex g h=>(hv X ex g h)⟩
theorem Agf{a b c d:Nat}:a*b+sizeLine*(a*c+a*d)=a*(b+sizeLine*(c+d)):=by
 rw[Ak a b,← Ak a c d,← G6,Jc sizeLine a,G6]
theorem Iv{own:List Nat}{p:P}{it t e:E}{X:Cx}{elt tg iter:Expr}{ifs:List Expr}{scope:Scope}
    (h:(Ig iter && chkE tb it (some tg) (ctx X) iter && Ww (ctx X) scope own && ((Dm p).all λi=>own.contains i) && Jg ((ctx X).blk scope) p tg &&
      (match ifs with
      | []=>(match t with | .bl true=>true|_=>false)
      | [x]=>chkE tb t none ((ctx X).blk scope) x
      | _=>false) && chkE tb e none ((ctx X).blk scope) elt)=true) (hC:∀f ds,Bj (C f ds)) (hi:Snd tb C G cc k it) (ht:Snd tb C G cc k t) (he:Snd tb C G cc k e) (g:Gd tb C G cc k X) :
    (∀x,foldedSetIterable iter X.env x=pure x)∧QI X tg iter (cc*wE it) true (isZ it) (ev C G it .i)∧BlkOk X.N X.env.scope scope (own.map λi=>(X.N.getD i "", i))∧(isZ it=true→isT p=true)∧(∀i∈Dm p,i∈(own.map λi=>(X.N.getD i "", i)).map (·.2)) ∧
      (∀(s:Shared) (H:Hp) (Ca:Addr) (cl:List (Str×Addr)) (fp:List Addr),K8 (X.blk s H scope (compEnvC scope cl Ca X.env) fp) tg p) ∧
      (∀(s:Shared) (H:Hp) (Ca:Addr) (cl:List (Str×Addr)) (fp:List Addr),QTs (X.blk s H scope (compEnvC scope cl Ca X.env) fp) ifs (cc*wE t) λδ Q=>ev C G t .v δ λx=>Bs x Q) ∧
      (∀(s:Shared) (H:Hp) (Ca:Addr) (cl:List (Str×Addr)) (fp:List Addr),QE (X.blk s H scope (compEnvC scope cl Ca X.env) fp) elt (cc*wE e) (RV X.kw) (ev C G e .v)):=by
  simp only[Yzh]at h;obtain⟨⟨⟨⟨⟨⟨h1,h2⟩,h3⟩,h4⟩,h5⟩,h6⟩,h7⟩:=h;have ok:=Abr h3;have hk:scope.kind = .function:=ok.kind;refine⟨Lq h1 X.env,hi.i X tg iter true g h2 (λe=>nomatch e),ok,λhz=>?_,λi hi=>?_,λs H Ca cl fp=>?_,λs H Ca cl fp=>?_,λs H Ca cl fp=>?_⟩
  · have htg : ∃a b c,tg = .Tuple a b c:=by
      cases tg<;>first
        | exact⟨_,_,_,rfl⟩
        | (exfalso
           cases it<;>first
             | (simp[isZ]at hz;done)
             | (rw[chkE.eq_def]at h2;simp at h2;done))
    obtain⟨a,b,c,rfl⟩:=htg
    cases p with
    | v i=>simp[Jg]at h5
    | t ps=>rfl
  · have:=Ai.mp h4 i hi
    rw[Dk];have:i∈own:=by simpa using this
    exact Ac.mpr ⟨i,this,rfl⟩
  · exact Ow (X:=X.blk s H scope (compEnvC scope cl Ca X.env) fp) (g.blk hk s H Ca cl fp) h5
  · have g':=g.blk hk s H Ca cl fp
    split at h6
    · split at h6
      · exact λE pins s σ H δ m Φ ht I er pl hf=>thn (Ad4 E pins s σ H δ (cc*wE (.bl true)+m) Φ ht I er (pl.mono (by omega)) (by simp only[ev]at hf;exact hf)) λb s1 q=>q.step (Step.refl H) (by omega)
      · cases h6
    · exact Ad3 (ht.t _ _ g' h6)
    · cases h6
  · exact he.v _ _ (g.blk hk s H Ca cl fp) h7
theorem O5(own:List Nat)(N:List Str):(own.map λi=>(N.getD i "", i)).map (·.2)=own:=by
 rw[Dk];exact List.map_id' own
theorem Aic{own:List Nat}{p:P}{it t e:E}(hC:∀f ds,Bj (C f ds))(hi:Snd tb C G cc k it)(ht:Snd tb C G cc k t)(he:Snd tb C G cc k e):Snd tb C G cc k (.comp own p it t e):=by
 refine Snd.mkO rfl (λc ex h=>?_) λX ex g h=>?_
 ·rw[chkE.eq_def]at h;dsimp only at h
  split at h
  ·rfl
  ·cases h
 ·rw[chkE.eq_def]at h;dsimp only at h
  split at h
  ·rename_i elt tg iter ifs a scope pos
   have ea:a=0:=by
    simp only[Yzh,beq_iff_eq]at h;exact h.1.1.1.1.1.1.1
   subst ea;obtain⟨q1,q2,q3,q4,q5,q6,q7,q8⟩:=Iv (tb:=tb) (X:=X) (it:=it) (t:=t) (e:=e) (ifs:=ifs) (scope:=scope) (elt:=elt) (tg:=tg) (iter:=iter) (p:=p) (own:=own) (by
    simp only[Yzh]at h ⊢;obtain⟨⟨⟨⟨⟨⟨⟨_,h1⟩,h2⟩,h3⟩,h4⟩,h5⟩,h6⟩,h7⟩:=h;exact⟨⟨⟨⟨⟨⟨h1,h2⟩,h3⟩,h4⟩,h5⟩,h6⟩,h7⟩) hC hi ht he g
   refine(Amg g.calm g.nd q2 q3 q4 q5 q6 q7 q8 q1 λδ=>Ah hC it .i δ).cg (by rw[wE,← Agf];exact Aa _) λδ Q q=>?_
   rw[ev]at q;rw[O5];exact q
  ·cases h
theorem Ah7{a:E}(hC:∀f ds,Bj (C f ds))(ha:Snd tb C G cc k a):Snd tb C G cc k (.sset a):=by
 refine Snd.mkO rfl (λc ex h=>?_) λX ex g h=>?_
 ·rw[chkE.eq_def]at h;dsimp only at h
  split at h
  ·rfl
  ·cases h
 ·rw[chkE.eq_def]at h;dsimp only at h
  split at h
  ·rename_i x p y p2 l pos2 pos
   simp only[Yzh]at h;obtain⟨h1,h2,h3⟩:=h;obtain⟨e1,hg,hm⟩:=Hn g h1;obtain⟨e2,hg2,hm2⟩:=Hn g h2;subst e1;subst e2;refine(Aaq g.rm.hu g.calm hg hm (Al6 g.calm hg2 hm2 (ha.b X _ g h3) (Dq h3 [] X.env)) rfl).cg (by rw[wE];exact Aa _) λδ Q q=>?_
   rw[ev]at q;exact Ah hC a .b δ _ _ (λx ⟨l,e,hl,q⟩=>⟨l,e,hl,l,e,q⟩) q
  ·cases h
theorem Zo{c:Nat}{p:Str×List Str→Bool}(h:tb.clsB c p=true):∃q,tb.cls[c]? = some q∧p q=true:=by
 unfold Tb.clsB at h
 split at h
 ·rename_i q hq;exact⟨q,hq,h⟩
 ·cases h
theorem Alb{c:Nat}{l:List E}(hC:∀f ds,Bj (C f ds))(hl:∀e∈l,Snd tb C G cc k e):Snd tb C G cc k (.new c l):=by
 refine Snd.mkV rfl rfl (λc ex h=>?_) λX ex g h=>?_
 ·rw[chkE.eq_def]at h;dsimp only at h
  split at h
  ·rfl
  ·cases h
 ·rw [chkE.eq_def]at h;dsimp only at h
  split at h
  ·rename_i x p e es pos
   simp only[Yzh]at h;obtain⟨h0,h1,h2,h3,h4⟩:=h;by_cases hG:∃p ns,G (500000+c)=some (.obj p ns)
   ·obtain⟨p,ns,hG⟩:=hG
    obtain⟨q,e1,h1⟩:=Zo h1;obtain⟨e2,e3,_,ok⟩:=g.cls.1 c p ns q e1 hG;rw[eq_of_beq h1]at e2;exact(Apy (ok (by simpa using h0)) g.rm (Aet h2) e2 (Hl h3).1 (Acx hl X _ g h4) (Iu h4 _) (Gy h4 _ _)).cg (by rw[wE];exact Aa _) λδ Q z=>by
     rw[ev]at z;obtain⟨p',ns',z1,z⟩:=z;rw[hG]at z1
     cases z1
     refine evs_mono hC l .v δ _ _ (λds ⟨z2,z3⟩=>?_) z;rw[e3]at z2 z3;exact⟨by rw[Yzi]at z2;exact z2,z3⟩
   ·exact N7 λδ Q z=>by
     rw[ev]at z;obtain⟨p',ns',z1,_⟩:=z;exact hG ⟨p',ns',z1⟩
  ·cases h
theorem Alm{c i:Nat}{a:E}(hC:∀f ds,Bj (C f ds))(ha:Snd tb C G cc k a):Snd tb C G cc k (.fld c i a):=by
 refine Snd.mkV rfl rfl (λc ex h=>?_) λX ex g h=>?_
 ·rw[chkE.eq_def]at h;dsimp only at h
  split at h
  ·rfl
  ·cases h
 ·rw [chkE.eq_def]at h;dsimp only at h
  split at h
  ·rename_i v x pos
   simp only[Yzh]at h;obtain⟨h1,h2,h3⟩:=h;by_cases hG:∃p ns,G (500000+c)=some (.obj p ns)
   ·obtain⟨p,ns,hG⟩:=hG
    obtain⟨q,e1,h1⟩:=Zo h1;obtain⟨e2,e3,ok,_⟩:=g.cls.1 c p ns q e1 hG;exact(Ap6 ok (eq_of_beq h1) (ha.v X _ g h3) (U0 h2 x X.env (eval v X.env))).cg (by rw[wE];exact Aa _) λδ Q z=>by
     rw[ev]at z;obtain⟨p',ns',z1,z⟩:=z;rw[hG]at z1
     cases z1
     refine Ah hC a .v δ _ _ (λd ⟨vs,y,z2,z3,z4,z5⟩=>?_) z;rw[e3]at z2 z3;exact⟨vs,y,z2,by rw[Yzi]at z3;exact z3,z4,z5⟩
   ·exact N7 λδ Q z=>by
     rw[ev]at z;obtain⟨p',ns',z1,_⟩:=z;exact hG ⟨p',ns',z1⟩
  ·cases h
theorem Ah9{c f:Nat}{a:E}{l:List E}(hC:∀f ds,Bj (C f ds))(ha:Snd tb C G cc k a)(hl:∀e∈l,Snd tb C G cc k e):Snd tb C G cc k (.meth c f a l):=by
 refine Snd.mkV rfl rfl (λc ex h=>?_) λX ex g h=>?_
 ·rw[chkE.eq_def]at h;dsimp only at h
  split at h
  ·rfl
  ·cases h
 ·rw [chkE.eq_def]at h;dsimp only at h
  split at h
  ·rename_i v m ap e es cp
   simp only[Yzh,decide_eq_true_eq]at h;obtain⟨h1,h2,h3,h4,h5,h6,h7,h8⟩:=h;by_cases hG:∃p ns,G (500000+c)=some (.obj p ns)
   ·obtain⟨p,ns,hG⟩:=hG
    obtain⟨q,e1,h2⟩:=Zo h2;obtain⟨e2,e3,ok,_⟩:=g.cls.1 c p ns q e1 hG;have hmn:m∉q.2:=by simpa using h2
    unfold Tb.posB at h3
    split at h3
    ·rename_i ss hss
     obtain⟨x,hx⟩:∃x,tb.fns[f]? = some x:=g.mfn f c m (by simpa using h1);obtain⟨a',fd,ps,hm,hkeep,F,hbs⟩:=g.fns f x hx;have M:=hm.2 c m (by simpa using h1) q p e1 e2;have hb:Gf X.kw fd ps ((e::es).length+1) [] (Hj ((e::es).length+1)):=by
      simp only[Ei,Yzh,beq_iff_eq,Nk]at h3;obtain⟨q0,hq,e4,e5,e6⟩:=h3;have:=hbs ss hss q0 hq;rw[e4,e5,e6]at this;exact this
     have hfew:((backTo cp (starEach (e::es) X.env)).all (λx=>!x.1) && (backToKw cp (keywordEach [] X.env)).all (λx=>x.1.isSome) && decide ((e::es).length+([]:List Keyword).length+(if([]:List Keyword).isEmpty then 0 else 1) < 30))=true:=by
      rw[Zt h8];have:(e::es).length+([]:List Keyword).length+(if([]:List Keyword).isEmpty then 0 else 1) < 30:=by
       simp only[Yzk,Az,Wk,if_true];omega
      rw[decide_eq_true this];rfl
     have hlen:=Oo h8;exact(Al9 ok M hmn F g.rm hb (ha.v X _ g h7) (Acx hl X _ g h8) (λδ Φ z=>by have:=Mj l .v δ Φ hC z;rw[hlen]at this;exact this) (Iu h8 _) (Gy h8 _ _) (U0 h4 m X.env (eval v X.env)) hfew h5).cg (by rw[wE,Ak,Ak,Nat.mul_one];exact Aa _) λδ Q z=>by
      rw[ev]at z;obtain⟨p',ns',z1,z⟩:=z;rw[hG]at z1
      cases z1
      refine Ah hC a .v δ _ _ (λd ⟨⟨vs,z2,z3⟩,z4⟩=>?_) z;rw[e3]at z2 z3;exact⟨⟨vs,z2,by rw[Yzi]at z3;exact z3⟩,z4⟩
    ·cases h3
   ·exact N7 λδ Q z=>by
     rw[ev]at z;obtain⟨p',ns',z1,_⟩:=z;exact hG ⟨p',ns',z1⟩
  ·cases h
theorem Afs{own:List Nat}{p:P}{it t e:E}(hC:∀f ds,Bj (C f ds))(hi:Snd tb C G cc k it)(ht:Snd tb C G cc k t)(he:Snd tb C G cc k e):Snd tb C G cc k (.scomp own p it t e):=by
 refine Snd.mkO rfl (λc ex h=>?_) λX ex g h=>?_
 ·rw[chkE.eq_def]at h;dsimp only at h
  split at h
  ·rfl
  ·cases h
 ·rw [chkE.eq_def]at h;dsimp only at h
  split at h
  ·rename_i y py elt tg iter ifs a scope pos pos2
   rw[Yzh]at h;obtain⟨hb,h⟩:=h;obtain⟨e1,hg,hm⟩:=Hn g hb;subst e1;have ea:a=0:=by
    simp only[Yzh,beq_iff_eq]at h;exact h.1.1.1.1.1.1.1
   subst ea;obtain⟨q1,q2,q3,q4,q5,q6,q7,q8⟩:=Iv (tb:=tb) (X:=X) (it:=it) (t:=t) (e:=e) (ifs:=ifs) (scope:=scope) (elt:=elt) (tg:=tg) (iter:=iter) (p:=p) (own:=own) (by
    simp only[Yzh]at h ⊢;obtain⟨⟨⟨⟨⟨⟨⟨_,h1⟩,h2⟩,h3⟩,h4⟩,h5⟩,h6⟩,h7⟩:=h;exact⟨⟨⟨⟨⟨⟨h1,h2⟩,h3⟩,h4⟩,h5⟩,h6⟩,h7⟩) hC hi ht he g
   refine(Aaq g.rm.hu g.calm hg hm (Ait g.calm g.nd q2 q3 q4 q5 q6 q7 q8 q1 (λδ=>Ah hC it .i δ) λδ=>Ah hC e .v δ) rfl).cg (by rw[wE,← Agf];exact Aa _) λδ Q q=>?_
   rw[ev]at q;rw[O5];refine Ah hC it .i δ _ _ (λx ⟨ds,q1,q2,q3⟩=>⟨ds,q1,q2,?_⟩) q;exact Ip (λd P Q h hp=>by
    refine Eu p d _ _ _ (λδ'=>Ah hC t .v δ' _ _ λb=>Cj b _ _ λk hk=>?_) hp
    split at hk
    ·rename_i hkk
     rw[if_pos hkk];exact Ah hC e .v δ' _ _ (λy ⟨t,q1,q2⟩=>⟨t,q1,h _ q2⟩) hk
    ·rename_i hkk
     rw[if_neg hkk];exact h _ hk) ds _ _ (λys ⟨l,q1,q2⟩=>⟨l,by rw[q1],q2⟩) q3
  ·cases h
theorem Aco{own:List Nat}{p:P}{it t e:E}(hC:∀f ds,Bj (C f ds))(hi:Snd tb C G cc k it)(ht:Snd tb C G cc k t)(he:Snd tb C G cc k e):Snd tb C G cc k (.scompN own p it t e):=by
 refine Snd.mkO rfl (λc ex h=>?_) λX ex g h=>?_
 ·rw[chkE.eq_def]at h;dsimp only at h
  split at h
  ·rfl
  ·cases h
 ·rw [chkE.eq_def]at h;dsimp only at h
  split at h
  ·rename_i y py elt tg iter ifs a scope pos pos2
   rw[Yzh]at h;obtain⟨hb,h⟩:=h;obtain⟨e1,hg,hm⟩:=Hn g hb;subst e1;have ea:a=0:=by
    simp only[Yzh,beq_iff_eq]at h;exact h.1.1.1.1.1.1.1
   subst ea;obtain⟨q1,q2,q3,q4,q5,q6,q7,q8⟩:=Iv (tb:=tb) (X:=X) (it:=it) (t:=t) (e:=e) (ifs:=ifs) (scope:=scope) (elt:=elt) (tg:=tg) (iter:=iter) (p:=p) (own:=own) (by
    simp only[Yzh]at h ⊢;obtain⟨⟨⟨⟨⟨⟨⟨_,h1⟩,h2⟩,h3⟩,h4⟩,h5⟩,h6⟩,h7⟩:=h;exact⟨⟨⟨⟨⟨⟨h1,h2⟩,h3⟩,h4⟩,h5⟩,h6⟩,h7⟩) hC hi ht he g
   refine(Aar g.rm.hu g.calm hg hm (Af7 g.calm (by have:=g.rm.hu;omega) g.nd q2 q3 q4 q5 q6 q7 q8 q1 (λδ=>Ah hC it .i δ) λδ=>Ah hC e .v δ) rfl).cg (by rw[wE,← Agf];exact Aa _) λδ Q q=>?_
   rw[ev]at q;rw[O5];refine Ah hC it .i δ _ _ (λx ⟨ds,q1,q2,q3⟩=>⟨ds,q1,q2,?_⟩) q;exact Ip (λd P Q h hp=>by
    refine Eu p d _ _ _ (λδ'=>Ah hC t .v δ' _ _ λb=>Cj b _ _ λk hk=>?_) hp
    split at hk
    ·rename_i hkk
     rw[if_pos hkk];exact Ah hC e .v δ' _ _ (λy ⟨q1,q2⟩=>⟨q1,h _ q2⟩) hk
    ·rename_i hkk
     rw[if_neg hkk];exact h _ hk) ds _ _ (λys ⟨q1,q2⟩=>⟨q1,ys,rfl,q2⟩) q3
  ·cases h
theorem Afq{a:E}(hC:∀f ds,Bj (C f ds))(ha:Snd tb C G cc k a):Snd tb C G cc k (.ssetN a):=by
 refine Snd.mkO rfl (λc ex h=>?_) λX ex g h=>?_
 ·rw[chkE.eq_def]at h;dsimp only at h
  split at h
  ·rfl
  ·cases h
 ·rw[chkE.eq_def]at h;dsimp only at h
  split at h
  ·rename_i x p y p2 l pos2 pos
   simp only[Yzh]at h;obtain⟨h1,h2,h3⟩:=h;obtain⟨e1,hg,hm⟩:=Hn g h1;obtain⟨e2,hg2,hm2⟩:=Hn g h2;subst e1;subst e2;refine(Aar g.rm.hu g.calm hg hm (Al7 g.calm (by have:=g.rm.hu;omega) hg2 hm2 (ha.b X _ g h3) (Dq h3 [] X.env)) rfl).cg (by rw[wE];exact Aa _) λδ Q q=>?_
   rw[ev]at q;exact Ah hC a .b δ _ _ (λx ⟨l,e,hl,mem,q⟩=>⟨l,e,hl,mem,l,e,q⟩) q
  ·cases h
theorem Aeg(N:List Str)(own:List Nat):(own.map λi=>(N.getD i "", i)).map (·.2)=own:=by rw[Dk];exact List.map_id' own
theorem Sw{own:List Nat}{p p1:P}{it t it1 t1 e:E}{X:Cx}{elt tg iter tg1 iter1:Expr}{ifs ifs1:List Expr}{scope:Scope}
    (h:(Ig iter && (Ig iter1 && (Oh it1 && (chkE tb it (some tg) (ctx X) iter && (chkE tb it1 (some tg1) ((ctx X).blk scope) iter1 && (Ww (ctx X) scope own && (((Dm p).all λi=>own.contains i) && (((Dm p1).all λi=>own.contains i) && (Jg ((ctx X).blk scope) p tg && (Jg ((ctx X).blk scope) p1 tg1 &&
      ((match ifs with
      | []=>(match t with | .bl true=>true|_=>false)
      | [x]=>chkE tb t none ((ctx X).blk scope) x
      | _=>false) && ((match ifs1 with
      | []=>(match t1 with | .bl true=>true|_=>false)
      | [x]=>chkE tb t1 none ((ctx X).blk scope) x
      | _=>false) && chkE tb e none ((ctx X).blk scope) elt))))))))))))=true) (hC:∀f ds,Bj (C f ds)) (hi:Snd tb C G cc k it) (ht:Snd tb C G cc k t) (hi1:Snd tb C G cc k it1) (ht1:Snd tb C G cc k t1) (he:Snd tb C G cc k e) (g:Gd tb C G cc k X) :
    LCR X elt iter [⟨tg,iter,ifs,0⟩,⟨tg1,iter1,ifs1,0⟩] scope (cc*wE (.comp2 own p it t p1 it1 t1 e)) (λδ Q=>ev C G it .i δ λx=>∃ds B,Di x=some ds∧ds.length*B≤big ∧
      Ii (Hf p (Bb δ own) (λδ Q=>ev C G t .v δ λx=>Bs x Q) B (ev C G it1 .i) p1 (λδ Q=>ev C G t1 .v δ λx=>Bs x Q) (ev C G e .v)) ds Q):=by
  simp only[Yzh]at h;obtain⟨h1,h1',ho,h2,h2',h3,h4,h4',h5,h5',h6,h6',h7⟩:=h;have ok:=Abr h3;have hk:scope.kind = .function:=ok.kind;have tup:∀{it:E} {c:Ck} {tg iter:Expr} {p:P},chkE tb it (some tg) c iter=true→Jg ((ctx X).blk scope) p tg=true→isZ it=true→isT p=true:=λ{it c tg iter p} h2 h5 hz=>by
    have htg : ∃a b c,tg = .Tuple a b c:=by
      cases tg<;>first
        | exact⟨_,_,_,rfl⟩
        | (exfalso
           cases it<;>first
             | (simp[isZ]at hz;done)
             | (rw[chkE.eq_def]at h2;simp at h2;done))
    obtain⟨a,b,c,rfl⟩:=htg
    cases p with
    | v i=>simp[Jg]at h5
    | t ps=>rfl
  have inOwn:∀{p:P},((Dm p).all λi=>own.contains i)=true→∀i∈Dm p,i∈(own.map λi=>(X.N.getD i "", i)).map (·.2):=λ{p} h4 i hi=>by
    have:=Ai.mp h4 i hi;rw[Aeg]
    simpa using this
  have tests:∀{ifs:List Expr} {t:E},(match ifs with
      | []=>(match t with | .bl true=>true|_=>false)
      | [x]=>chkE tb t none ((ctx X).blk scope) x
      | _=>false)=true→Snd tb C G cc k t→∀(s:Shared) (H:Hp) (Ca:Addr) (cl:List (Str×Addr)) (fp:List Addr),QTs (X.blk s H scope (compEnvC scope cl Ca X.env) fp) ifs (cc*wE t) λδ Q=>ev C G t .v δ λx=>Bs x Q:=λ{ifs t} h6 ht s H Ca cl fp=>by
    have g':=g.blk hk s H Ca cl fp
    split at h6
    · split at h6
      · exact λE pins s σ H δ m Φ t0 I er pl hf=>thn (Ad4 E pins s σ H δ m Φ t0 I er (pl.mono (by omega)) (by simpa [ev,Bs]using hf)) λb s' ⟨t',H',I',st,q⟩=>⟨t',H',I',st.mono (Am _),q⟩
      · cases h6
    · exact Ad3 (ht.t _ _ g' h6)
    · cases h6
  refine LCR.cg (Am6 (X:=X) (elt:=elt) (ifs:=ifs) (ifs1:=ifs1) g.calm g.nd (hi.i X tg iter true g h2 (λe=>nomatch e)) ok (tup h2 h5) (tup (c:=(ctx X).blk scope) h2' h5') (inOwn h4) (inOwn h4')
    (λs H Ca cl fp=>Ow (g.blk hk s H Ca cl fp) h5) (tests h6 ht) (λs H Ca cl fp=>hi1.i _ tg1 iter1 false (g.blk hk s H Ca cl fp) h2' (λ_=>ho)) (λs H Ca cl fp=>Ow (g.blk hk s H Ca cl fp) h5') (tests h6' ht1)
    (λs H Ca cl fp=>he.v _ elt (g.blk hk s H Ca cl fp) h7) (Lq h1 X.env) (λenv x=>Lq h1' env x) (λδ=>Ah hC it .i δ) (λδ=>Ah hC it1 .i δ)) ?_ λδ Q q=>?_
  · rw[wE.eq_def (.comp2 _ _ _ _ _ _ _ _)]
    dsimp only;have a1:∀x y:Nat,cc*(x+y)=cc*x+cc*y:=λx y=>Ak _ _ _
    have a2:∀x:Nat,cc*(sizeLine*x)=sizeLine*(cc*x):=λx=>by rw[← G6,Jc cc,G6]
    rw[a1,a2,a1,a1,a2,a1];exact Aa _
  · rw[Aeg]
    exact q
theorem Afu{own:List Nat}{p p1:P}{it t it1 t1 e:E}(hC:∀f ds,Bj (C f ds))(hi:Snd tb C G cc k it)(ht:Snd tb C G cc k t)(hi1:Snd tb C G cc k it1)(ht1:Snd tb C G cc k t1)(he:Snd tb C G cc k e):Snd tb C G cc k (.comp2 own p it t p1 it1 t1 e):=by
 refine Snd.mkO rfl (λc ex h=>?_) λX ex g h=>?_
 ·rw[chkE.eq_def]at h;dsimp only at h
  split at h
  ·rfl
  ·cases h
 ·rw[chkE.eq_def]at h;dsimp only at h
  split at h
  ·rename_i elt tg iter ifs a tg1 iter1 ifs1 a1 scope pos
   rw[Yzh,Yzh]at h;obtain⟨h0,h0',h⟩:=h;have ea:=eq_of_beq h0;have ea':=eq_of_beq h0';subst ea ea';exact(Ap1 (pos:=pos) (Sw h hC hi ht hi1 ht1 he g) (λ_=>rfl) rfl).cg (Aa _) λδ Q q=>by rw[ev]at q;exact q
  ·cases h
theorem Ak2{a b:E}(ha:Snd tb C G cc k a)(hb:Snd tb C G cc k b):Snd tb C G cc k (.zip a b):=by
 have no:∀(c:Ck) (ex:Expr),chkE tb (.zip a b) none c ex≠true:=λc ex h=>by rw[chkE.eq_def]at h;dsimp only at h;cases h
 refine⟨λX ex g h=>absurd h (no _ _),λX ex g h=>absurd h (no _ _),λX ex g h=>absurd h (no _ _),λX tg ex bb g h ho=>?_⟩;rw[chkE.eq_def]at h;dsimp only at h
 split at h
 ·rename_i elts kk tpos x p l r pos heq
  cases heq
  simp only[Yzh]at h;obtain⟨⟨h1,h2⟩,h3⟩:=h;obtain⟨e1,hg,hm⟩:=Hn g h1;subst e1;have s2:starEach [r] X.env=[(false,eval r X.env)]:=Dq h3 [] X.env
  cases bb with
  | true=>exact(Aiq (bb:=true) hg hm (ha.b X _ g h2) (hb.b X _ g h3) (Dq h2 _ _) s2).cg (by rw[wE,Ak];exact Aa _) λδ Q q=>by simp only[ev]at q;exact q
  | false=>
   have ho:=ho rfl;have oa:Lp a=false:=by simp only[Oh,Yzh,Bf]at ho;exact ho.1
   have ob:Lp b=false:=by simp only[Oh,Yzh,Bf]at ho;exact ho.2
   have ba:QE X l (cc*wE a) (RV X.kw) (ev C G a .b):=(ha.v X _ g h2).cg (Aa _) λδ Q=>X7 oa δ Q
   have bb':QE X r (cc*wE b) (RV X.kw) (ev C G b .b):=(hb.v X _ g h3).cg (Aa _) λδ Q=>X7 ob δ Q
   exact(Aiq (bb:=false) hg hm ba bb' (Dq h2 _ _) s2).cg (by rw[wE,Ak];exact Aa _) λδ Q q=>by simp only[ev]at q;exact q
 ·cases h
theorem Aib{a:E}(ha:Snd tb C G cc k a):Snd tb C G cc k (.enum a):=by
 have no:∀(c:Ck) (ex:Expr),chkE tb (.enum a) none c ex≠true:=λc ex h=>by rw[chkE.eq_def]at h;dsimp only at h;cases h
 refine⟨λX ex g h=>absurd h (no _ _),λX ex g h=>absurd h (no _ _),λX ex g h=>absurd h (no _ _),λX tg ex bb g h ho=>?_⟩;rw[chkE.eq_def]at h;dsimp only at h
 split at h
 ·rename_i elts kk tpos x p l pos heq
  cases heq
  simp only[Yzh]at h;obtain⟨h1,h2⟩:=h;obtain⟨e1,hg,hm⟩:=Hn g h1;subst e1;have s1:starEach [l] X.env=[(false,eval l X.env)]:=Dq h2 [] X.env
  cases bb with
  | true=>exact(Ad7 (bb:=true) hg hm (ha.b X _ g h2) s1).cg (by rw[wE];exact Aa _) λδ Q q=>by simp only[ev]at q;exact q
  | false=>
   have ho:=ho rfl;have oa:Lp a=false:=by simpa [Oh]using ho
   have ba:QE X l (cc*wE a) (RV X.kw) (ev C G a .b):=(ha.v X _ g h2).cg (Aa _) λδ Q=>X7 oa δ Q
   exact(Ad7 (bb:=false) hg hm ba s1).cg (by rw[wE];exact Aa _) λδ Q q=>by simp only[ev]at q;exact q
 ·cases h
theorem Aft{a:E}(ha:Snd tb C G cc k a):Snd tb C G cc k (.range a):=by
 have no:∀(c:Ck) (ex:Expr),chkE tb (.range a) none c ex≠true:=λc ex h=>by rw[chkE.eq_def]at h;dsimp only at h;cases h
 refine⟨λX ex g h=>absurd h (no _ _),λX ex g h=>absurd h (no _ _),λX ex g h=>absurd h (no _ _),λX tg ex bb g h ho=>?_⟩;rw[chkE.eq_def]at h;dsimp only at h
 split at h
 ·simp only[Yzh]at h
  obtain⟨h1,h2⟩:=h;obtain⟨e1,hg,hm⟩:=Hn g h1;subst e1;exact(Ais hg hm (ha.v X _ g h2) (Dq h2 [] X.env)).cg (by rw[wE];exact Aa _) λδ Q q=>by simp only[ev]at q;exact q
 ·cases h
mutual
theorem Cg(hC:∀f ds,Bj (C f ds)):∀e:E,Snd tb C G cc k e
 | .var _=>Ak3
 | .obs _=>Ak8
 | .glob _=>Aia
 | .non=>Ala
 | .bl _=>Ao3
 | .int _=>Alj
 | .str _=>Ak5
 | .op2 _ a b=>Ak7 (Cg hC a) (Cg hC b)
 | .neg a=>Alc (Cg hC a)
 | .cmp _ a b=>Aln (Cg hC a) (Cg hC b)
 | .chain _ _ a b d=>Afv hC (Cg hC a) (Cg hC b) (Cg hC d)
 | .isN a=>Alh (Cg hC a)
 | .notN a=>Ah8 (Cg hC a)
 | .and a b=>Alo hC (Cg hC a) (Cg hC b)
 | .or a b=>Ao1 hC (Cg hC a) (Cg hC b)
 | .not a=>Ak9 hC (Cg hC a)
 | .ite t a b=>Ale hC (Cg hC t) (Cg hC a) (Cg hC b)
 | .tup l=>Ak4 hC (sndAll hC l)
 | .lst l=>Ald hC (sndAll hC l)
 | .idx a i=>Alk (Cg hC a) (Cg hC i)
 | .slc a l h=>Ak6 (Cg hC a) (Cg hC l) (Cg hC h)
 | .bi _ l=>Ao4 hC (sndAll hC l)
 | .isi a _=>Alf (Cg hC a)
 | .me _ o l=>Ao2 hC (Cg hC o) (sndAll hC l)
 | .call _ l kl _=>Aid hC (sndAll hC l) (sndAll hC kl)
 | .comp _ _ it t e=>Aic hC (Cg hC it) (Cg hC t) (Cg hC e)
 | .zip a b=>Ak2 (Cg hC a) (Cg hC b)
 | .enum a=>Aib (Cg hC a)
 | .range a=>Aft (Cg hC a)
 | .sset a=>Ah7 hC (Cg hC a)
 | .ssetN a=>Afq hC (Cg hC a)
 | .new _ l=>Alb hC (sndAll hC l)
 | .fld _ _ a=>Alm hC (Cg hC a)
 | .meth _ _ a l=>Ah9 hC (Cg hC a) (sndAll hC l)
 | .scomp _ _ it t e=>Afs hC (Cg hC it) (Cg hC t) (Cg hC e)
 | .scompN _ _ it t e=>Aco hC (Cg hC it) (Cg hC t) (Cg hC e)
 | .isB _ a _=>Ali (Cg hC a)
 | .comp2 _ _ it t _ it1 t1 e=>Afu hC (Cg hC it) (Cg hC t) (Cg hC it1) (Cg hC t1) (Cg hC e)
theorem sndAll(hC:∀f ds,Bj (C f ds)):∀(l:List E),∀e∈l,Snd tb C G cc k e
 | [],e,h=>by cases h
 | a::l,e,h=>by
  rcases Ad.mp h with q|q
  ·rw[q];exact Cg hC a
  ·exact sndAll hC l e q
end
end
end SF
namespace SF
open PySem PySem.Spec PyProof.Rows L2
variable[TN]
section
variable{X:Cx}
theorem Q1.cg{st:Stmt}{n n':Nat}{F F':Env→Post→Prop}(h:Q1 X st n F)(hn:n≤n')(e:∀ δ D,F' δ D→F δ D):Q1 X st n' F':=λE hE pins s σ H0 H δ m D t I es ex pl hf=>
 thn (h E hE pins s σ H0 H δ m D t I es ex (pl.mono (by omega)) (e _ _ hf)) λf s1 q=>q.le (StepS.refl ex) (by omega)
theorem QS.cg{sts:List Stmt}{n n':Nat}{F F':Env→Post→Prop}(h:QS X sts n F)(hn:n≤n')(e:∀ δ D,F' δ D→F δ D):QS X sts n' F':=λE hE pins s σ H0 H δ m D t I es ex pl hf=>
 thn (h E hE pins s σ H0 H δ m D t I es ex (pl.mono (by omega)) (e _ _ hf)) λf s1 q=>q.le (StepS.refl ex) (by omega)
end
section
variable{tb:Tb}{C:Nat→List Dat→(Dat→Prop)→Prop}{G:Nat→Option Dat}{cc k:Nat}
theorem Qw(v:Expr)(h1:G9 v=true)(h2:P0 v=true)(t:Option Expr)(l:Nat)(env:PySem.Env):swapsWith v t l env=pure false:=by
 cases v<;>first|rfl|(simp[G9]at h1;done)|(simp[P0]at h2;done)
theorem Yp(tg v:Expr)(h1:G9 v=true)(h2:P0 v=true)(l:Nat)(env:PySem.Env):swapsWithSole [tg] v l env=pure false:=Qw v h1 h2 (some tg) l env
theorem Adz{X:Cx}(g:Gd tb C G cc k X)(elt:Expr)(gs:List Comprehension)(scope:Scope)(vp:Pos)(x:Str)(px:Pos)(l:Nat) :
  swapsWith (.ListComp elt gs scope vp) (some (.Name x px)) l X.env=pure (W6 (ctx X) x l px (.ListComp elt gs scope vp)):=by
 have hb:X.env.blockKind = .function:=by unfold Env.blockKind;rw[g.kind];rfl
 unfold swapsWith W6;simp only[hb];rfl
theorem Rb{e:E}{c:Ck}{elt:Expr}{gs:List Comprehension}{scope:Scope}{vp:Pos}(h:chkE tb e none c (.ListComp elt gs scope vp)=true) :
    (∃own p it t e' tg iter ifs,e = .comp own p it t e'∧gs=[⟨tg,iter,ifs,0⟩]∧(Ig iter && chkE tb it (some tg) c iter && Ww c scope own && ((Dm p).all λi=>own.contains i) && Jg (c.blk scope) p tg &&
      (match ifs with
      | []=>(match t with | .bl true=>true|_=>false)
      | [x]=>chkE tb t none (c.blk scope) x
      | _=>false) && chkE tb e' none (c.blk scope) elt)=true) ∨
    (∃own p it t p1 it1 t1 e' tg iter ifs tg1 iter1 ifs1,e = .comp2 own p it t p1 it1 t1 e'∧gs=[⟨tg,iter,ifs,0⟩,⟨tg1,iter1,ifs1,0⟩]∧(Ig iter && (Ig iter1 && (Oh it1 && (chkE tb it (some tg) c iter && (chkE tb it1 (some tg1) (c.blk scope) iter1 && (Ww c scope own && (((Dm p).all λi=>own.contains i) && (((Dm p1).all λi=>own.contains i) && (Jg (c.blk scope) p tg && (Jg (c.blk scope) p1 tg1 &&
      ((match ifs with
      | []=>(match t with | .bl true=>true|_=>false)
      | [x]=>chkE tb t none (c.blk scope) x
      | _=>false) && ((match ifs1 with
      | []=>(match t1 with | .bl true=>true|_=>false)
      | [x]=>chkE tb t1 none (c.blk scope) x
      | _=>false) && chkE tb e' none (c.blk scope) elt))))))))))))=true):=by
  rw[chkE.eq_def]at h
  cases e<;>dsimp only at h<;>first
    | (cases h;done)
    | (split at h
       · rename_i elt' tg iter ifs a scope' pos heq
         cases heq
         simp only[Yzh]at h ⊢;obtain⟨⟨⟨⟨⟨⟨⟨h0,h1⟩,h2⟩,h3⟩,h4⟩,h5⟩,h6⟩,h7⟩:=h;have e0:=eq_of_beq h0;subst e0;exact .inl ⟨_,_,_,_,_,_,_,_,rfl,rfl,⟨⟨⟨⟨⟨h1,h2⟩,h3⟩,h4⟩,h5⟩,h6⟩,h7⟩
       · cases h)
    | (split at h
       · rename_i elt' tg iter ifs a tg1 iter1 ifs1 a1 scope' pos heq
         cases heq
         rw[Yzh,Yzh]at h;obtain⟨h0,h0',h⟩:=h;have e0:=eq_of_beq h0;have e0':=eq_of_beq h0';subst e0 e0';exact .inr ⟨_,_,_,_,_,_,_,_,_,_,_,_,_,_,rfl,rfl,h⟩
       · cases h)
theorem Ad2{c:Ck}{x:Str}{v:Expr}(h:Ao9 c x v=true):G9 v=true∨(∃a b d s p,v = .DictComp a b d s p)∧c.sc.names.lookup x≠some .local:=by
 unfold Ao9 at h;rw[Es]at h;refine h.imp id λh=>?_
 split at h
 ·exact⟨⟨_,_,_,_,_,rfl⟩,by simpa using h⟩
 ·cases h
theorem Ad0{X:Cx}(_g:Gd tb C G cc k X){x:Str}{v:Expr}(h:(∃a b d s p,v = .DictComp a b d s p)∧(ctx X).sc.names.lookup x≠some .local)(px:Pos)(l:Nat):swapsWith v (some (.Name x px)) l X.env=pure false:=by
 obtain⟨⟨a,b,d,s,p,rfl⟩,h⟩:=h;have e:(X.env.kindOf x == some .local)=false:=by
  rw[beq_eq_false_iff_ne];exact h
 unfold swapsWith;simp only[e,Qt,Fd]
theorem Aih{i:Nat}{e:E}(hC:∀f ds,Bj (C f ds)){X:Cx}{st:Stmt}(g:Gd tb C G cc k X)(h:chkS tb (.set i e) (ctx X) st=true):Q1 X st (cc*wS (.set i e)) (exec C G (.set i e)):=by
 rw[chkS.eq_def]at h;dsimp only at h
 split at h
 ·rename_i x px v pos
  simp only[Yzh]at h;obtain⟨⟨h1,h2⟩,h3⟩:=h;obtain⟨e1,e2,e3⟩:=Vd h1;have plain:swapsWith v (some (.Name x px)) pos.line X.env=pure false→Q1 X (.Assign [.Name x px] v pos) (cc*wS (.set i e)) (exec C G (.set i e)):=λhs=>
   (Aqe g.nd e1 e2 e3 ((Cg hC e).v X v g h3) hs).cg (by rw[wS];exact Aa _) λδ D q=>by rw[exec]at q;exact q
  refine(Ad2 h2).elim (λh2=>?_) λh2=>plain (Ad0 g h2 px pos.line)
  by_cases hl:P0 v=true
  ·exact plain (Qw v h2 hl _ _ _)
  ·cases v with
   | ListComp elt gs scope vp=>
    have hs:=Adz g elt gs scope vp x px pos.line
    cases hb:W6 (ctx X) x pos.line px (.ListComp elt gs scope vp)with
    | false=>rw[hb]at hs;exact plain hs
    | true=>
     rw[hb]at hs;have hyl:X.env.scope.names.lookup x=some .local:=by
      unfold W6 at hb;simp only[Yzh]at hb;exact eq_of_beq hb.1.1
     rcases Rb h3 with⟨own,p,it,t,e',tg,iter,ifs,rfl,rfl,hh⟩|⟨own,p,it,t,p1,it1,t1,e',tg,iter,ifs,tg1,iter1,ifs1,rfl,rfl,hh⟩
     ·obtain⟨q1,q2,q3,q4,q5,q6,q7,q8⟩:=Iv hh hC (Cg hC it) (Cg hC t) (Cg hC e') g
      refine(Ai2 g.calm g.nd e1 hyl hs q2 q3 q4 q5 q6 q7 q8 q1 λδ=>Ah hC it .i δ).cg (by rw[wS,wE,← Agf];exact Aa _) λδ D q=>?_
      rw[exec,ev]at q;rw[O5];exact q
     ·refine(Aml g.nd e1 hyl (Aex hs) (Sw hh hC (Cg hC it) (Cg hC t) (Cg hC it1) (Cg hC t1) (Cg hC e') g)).cg (by rw[wS];exact Aa _) λδ D q=>?_
      rw[exec,ev]at q;exact q
   | _=>simp[P0]at hl
 ·cases h
theorem Ar9{i:Nat}{e:E}(hC:∀f ds,Bj (C f ds)){X:Cx}{st:Stmt}(g:Gd tb C G cc k X)(h:chkS tb (.own i e) (ctx X) st=true):Q1 X st (cc*wS (.own i e)) (exec C G (.own i e)):=by
 rw[chkS.eq_def]at h;dsimp only at h
 split at h
 ·rename_i x px v pos
  simp only[Yzh]at h;obtain⟨⟨⟨h1,h2⟩,hf⟩,h3⟩:=h;obtain⟨e1,e2,e3⟩:=Vd h1;have plain:swapsWith v (some (.Name x px)) pos.line X.env=pure false→Q1 X (.Assign [.Name x px] v pos) (cc*wS (.own i e)) (exec C G (.own i e)):=λhs=>
   (Aqi g.nd e1 e2 e3 ((Cg hC e).o X v g h3 hf) hs).cg (by rw[wS];exact Aa _) λδ D q=>by rw[exec]at q;exact q
  by_cases hl:P0 v=true
  ·exact plain (Qw v h2 hl _ _ _)
  ·cases v with
   | ListComp elt gs scope vp=>
    have hs:=Adz g elt gs scope vp x px pos.line
    cases hb:W6 (ctx X) x pos.line px (.ListComp elt gs scope vp)with
    | false=>rw[hb]at hs;exact plain hs
    | true=>
     rw[hb]at hs;have hyl:X.env.scope.names.lookup x=some .local:=by
      unfold W6 at hb;simp only[Yzh]at hb;exact eq_of_beq hb.1.1
     rcases Rb h3 with⟨own,p,it,t,e',tg,iter,ifs,rfl,rfl,hh⟩|⟨own,p,it,t,p1,it1,t1,e',tg,iter,ifs,tg1,iter1,ifs1,rfl,rfl,hh⟩
     ·obtain⟨q1,q2,q3,q4,q5,q6,q7,q8⟩:=Iv hh hC (Cg hC it) (Cg hC t) (Cg hC e') g
      refine(Ai3 g.calm g.nd e1 hyl hs q2 q3 q4 q5 q6 q7 q8 q1 λδ=>Ah hC it .i δ).cg (by rw[wS,wE,← Agf];exact Aa _) λδ D q=>?_
      rw[exec,ev]at q;rw[O5];exact q
     ·refine(Amm g.nd e1 hyl (Aex hs) (Sw hh hC (Cg hC it) (Cg hC t) (Cg hC it1) (Cg hC t1) (Cg hC e') g)).cg (by rw[wS];exact Aa _) λδ D q=>?_
      rw[exec,ev]at q;exact q
   | _=>simp[P0]at hl
 ·cases h
theorem Ak1{ts:List Expr}{kt:Nat}{pt:Pos}{v:Expr}{env:PySem.Env}(h:Aho ts.length v=true):swappedStores [.Tuple ts kt pt] v env=pure none:=by
 cases v with
 | Tuple es k2 p2=>
  simp only[Aho,Es,decide_eq_true_eq,Bf,beq_eq_false_iff_ne,ne_eq]at h;unfold swappedStores;have hc:(!(ts.length == 2 || ts.length == 3) || es.length != ts.length || env.blockKind != .function)=true:=by
   rcases h with h|h
   ·have h1:(ts.length == 2)=false:=by simp;omega
    have h2:(ts.length == 3)=false:=by simp;omega
    rw[h1,h2];rfl
   ·have h1:(es.length != ts.length)=true:=by simp[h]
    rw[h1];simp
  simp only[hc,if_true]
 | ListComp=>simp[Aho]at h
 | _=>rfl
theorem M8{α β:Type}(f:α→Option β):∀l:List α,(∃x∈l,f x=none)→(l.filterMap f).length < l.length
 | [],h=>by obtain⟨x,hx,_⟩:=h;cases hx
 | a::l,⟨x,hx,e⟩=>by
  rw[Hq]
  cases q:f a with
  | none=>exact Nat.lt_succ_of_le (List.length_filterMap_le f l)
  | some y=>
   rcases Ad.mp hx with rfl|hx
   ·rw[q]at e;cases e
   ·exact Nat.succ_lt_succ (M8 f l ⟨x,hx,e⟩)
theorem Aoz{ts:List Expr}{kt:Nat}{pt:Pos}{v:Expr}{env:PySem.Env}(hl:P0 v=true)(h:(ts.any fun | .Name x _=>env.scope.names.lookup x != some .local|_=>true)=true):swappedStores [.Tuple ts kt pt] v env=pure none:=by
 cases v with
 | Tuple es k2 p2=>
  obtain⟨t,ht,e⟩:=Ei.mp h;unfold swappedStores;dsimp only;split
  ·rfl
  ·split
   ·rfl
   ·rw[if_pos]
    rw[Es]
    left
    refine bne_iff_ne.mpr (Cp (M8 _ ts ⟨t,ht,?_⟩))
    cases t with
    | Name x px=>
     have e2:(env.kindOf x == some .local)=false:=by
      unfold PySem.Env.kindOf
      simpa using e
     simp only[e2,Fd,Yzg,if_false]
    | _=>rfl
 | ListComp=>simp[P0]at hl
 | _=>rfl
theorem Ak0{X:Cx}{ts:List Expr}{kt:Nat}{pt:Pos}{v:Expr}(hl:P0 v=true)(h:Ass (ctx X) ts v=true):swappedStores [.Tuple ts kt pt] v X.env=pure none:=by
 rcases Rj.mp h with h|h
 ·exact Aoz hl h
 ·cases v with
  | Tuple es k2 p2=>
   have h:es.all (foldedForSure 8)=true:=h;unfold swappedStores;dsimp only;split
   ·rfl
   ·split
    ·rfl
    ·split
     ·rfl
     ·first
       | rfl
       | (rw[if_pos h];rfl)
  | _=>cases h
theorem Ar4{p:P}{e:E}(hC:∀f ds,Bj (C f ds)){X:Cx}{st:Stmt}(g:Gd tb C G cc k X)(h:chkS tb (.unp p e) (ctx X) st=true):Q1 X st (cc*wS (.unp p e)) (exec C G (.unp p e)):=by
 rw[chkS.eq_def]at h;dsimp only at h
 split at h
 ·rename_i ts kt pt v pos
  simp only[Yzh]at h;obtain⟨⟨⟨⟨h0,h1⟩,h2⟩,h3⟩,h4⟩:=h;have hnl:P0 v=true:=by
   rcases Rj.mp h3 with h3|h3
   ·cases v<;>first|rfl|(simp[Aho]at h3)
   ·exact(Qu.mp h3).1
  have hss:swappedStores [.Tuple ts kt pt] v X.env=pure none:=by
   rcases Rj.mp h3 with h3|h3
   ·exact Ak1 h3
   ·exact Ak0 hnl (Qu.mp h3).2
  have ht:K8 X (.Tuple ts kt pt) p:=by
   refine Ow g ?_
   cases p with
   | v i=>simp at h0
   | t ps=>rw[Jg]at h1 ⊢;exact h1
  exact(Aqc ht ((Cg hC e).v X v g h4) (Yp _ v h2 hnl _ _) hss rfl).cg (by rw[wS];exact Aa _) λδ D q=>by rw[exec]at q;exact q
 ·cases h
theorem Asd{e:E}(hC:∀f ds,Bj (C f ds)){X:Cx}{st:Stmt}(g:Gd tb C G cc k X)(h:chkS tb (.exp e) (ctx X) st=true):Q1 X st (cc*wS (.exp e)) (exec C G (.exp e)):=by
 rw[chkS.eq_def]at h;dsimp only at h
 split at h
 ·simp only[Yzh]at h
  exact(Aqn ((Cg hC e).v X _ g h.2) (Qw _ h.1.1 h.1.2 _ _ _)).cg (by rw[wS];exact Aa _) λδ D q=>by rw[exec]at q;exact q
 ·cases h
theorem Ar6{e:E}(hC:∀f ds,Bj (C f ds)){X:Cx}{st:Stmt}(g:Gd tb C G cc k X)(h:chkS tb (.ret e) (ctx X) st=true):Q1 X st (cc*wS (.ret e)) (exec C G (.ret e)):=by
 rw[chkS.eq_def]at h;dsimp only at h
 split at h
 ·exact(Aqf ((Cg hC e).v X _ g h)).cg (by rw[wS];exact Aa _) λδ D q=>by rw[exec]at q;exact q
 ·cases h
theorem Apb{X:Cx}{st:Stmt}(h:chkS tb .retN (ctx X) st=true):Q1 X st (cc*wS .retN) (exec C G .retN):=by
 rw[chkS.eq_def]at h;dsimp only at h
 split at h
 ·exact q1_retN.cg (Am _) λδ D q=>by rw[exec]at q;exact q
 ·cases h
theorem Apc{X:Cx}{st:Stmt}(h:chkS tb .pass (ctx X) st=true):Q1 X st (cc*wS .pass) (exec C G .pass):=by
 rw[chkS.eq_def]at h;dsimp only at h
 split at h
 ·exact q1_pass.cg (Am _) λδ D q=>by rw[exec]at q;exact q
 ·cases h
theorem Arh{e:E}{X:Cx}{v:Expr}(h:chkE tb e none (ctx X) v=true)(cp:Pos):((backTo cp (starEach [v] X.env)).all (λx=>!x.1) && (backToKw cp (keywordEach [] X.env)).all (λx=>x.1.isSome) && decide ([v].length+([]:List Keyword).length+(if([]:List Keyword).isEmpty then 0 else 1) < 30))=true:=by
 rw[Dq h [] X.env];rfl
theorem Ase{i:Nat}{e:E}(hC:∀f ds,Bj (C f ds)){X:Cx}{st:Stmt}(g:Gd tb C G cc k X)(h:chkS tb (.app i e) (ctx X) st=true):Q1 X st (cc*wS (.app i e)) (exec C G (.app i e)):=by
 rw[chkS.eq_def]at h;dsimp only at h
 split at h
 ·rename_i x px nm ap v cp pos
  simp only[Yzh]at h;obtain⟨⟨⟨h1,h2⟩,h3⟩,h4⟩:=h;obtain⟨e1,e2,e3,e4⟩:=Kc h1;have en:=eq_of_beq h2;subst en;exact(Aqo e1 e2 e3 e4 ((Cg hC e).v X _ g h4) rfl (Arh h4 cp) h3 (Dq h4 [] X.env)).cg (by rw[wS];exact Aa _) λδ D q=>by rw[exec]at q;exact q
 ·cases h
theorem Asb{i:Nat}{e:E}(hC:∀f ds,Bj (C f ds)){X:Cx}{st:Stmt}(g:Gd tb C G cc k X)(h:chkS tb (.ext i e) (ctx X) st=true):Q1 X st (cc*wS (.ext i e)) (exec C G (.ext i e)):=by
 rw[chkS.eq_def]at h;dsimp only at h
 split at h
 ·rename_i x px nm ap v cp pos
  simp only[Yzh]at h;obtain⟨⟨⟨h1,h2⟩,h3⟩,h4⟩:=h;obtain⟨e1,e2,e3,e4⟩:=Kc h1;have en:=eq_of_beq h2;subst en;exact(Aqm e1 e2 e3 e4 ((Cg hC e).b X _ g h4) rfl (Arh h4 cp) h3 (Dq h4 [] X.env)).cg (by rw[wS];exact Aa _) λδ D q=>by rw[exec]at q;exact q
 ·cases h
theorem Ar7{i:Nat}{e:E}(hC:∀f ds,Bj (C f ds)){X:Cx}{st:Stmt}(g:Gd tb C G cc k X)(h:chkS tb (.pop i e) (ctx X) st=true):Q1 X st (cc*wS (.pop i e)) (exec C G (.pop i e)):=by
 rw[chkS.eq_def]at h;dsimp only at h
 split at h
 ·rename_i x px nm ap v cp pos
  simp only[Yzh]at h;obtain⟨⟨⟨h1,h2⟩,h3⟩,h4⟩:=h;obtain⟨e1,e2,e3,e4⟩:=Kc h1;have en:=eq_of_beq h2;subst en;exact(Aqg e1 e2 e3 e4 ((Cg hC e).v X _ g h4) rfl (Arh h4 cp) h3 (Dq h4 [] X.env)).cg (by rw[wS];exact Aa _) λδ D q=>by rw[exec]at q;exact q
 ·cases h
theorem Atj{a e:E}{X:Cx}{u v:Expr}(h0:chkE tb a none (ctx X) u=true)(h:chkE tb e none (ctx X) v=true)(cp:Pos):((backTo cp (starEach [u,v] X.env)).all (λx=>!x.1) && (backToKw cp (keywordEach [] X.env)).all (λx=>x.1.isSome) && decide ([u,v].length+([]:List Keyword).length+(if([]:List Keyword).isEmpty then 0 else 1) < 30))=true:=by
 rw[Dq h0 [v] X.env,Dq h [] X.env];rfl
theorem Asa{i:Nat}{ix e:E}(hC:∀f ds,Bj (C f ds)){X:Cx}{st:Stmt}(g:Gd tb C G cc k X)(h:chkS tb (.ins i ix e) (ctx X) st=true):Q1 X st (cc*wS (.ins i ix e)) (exec C G (.ins i ix e)):=by
 rw[chkS.eq_def]at h;dsimp only at h
 split at h
 ·rename_i x px nm ap v w cp pos
  simp only[Yzh]at h;obtain⟨⟨⟨⟨h1,h2⟩,h3⟩,h4⟩,h5⟩:=h;obtain⟨e1,e2,e3,e4⟩:=Kc h1;have en:=eq_of_beq h2;subst en;exact(Aqk e1 e2 e3 e4 ((Cg hC ix).v X _ g h4) ((Cg hC e).v X _ g h5) rfl (Atj h4 h5 cp) h3 (Dq h4 [_] X.env) (Dq h5 [] X.env)).cg (by rw[wS,Ak];exact Aa _) λδ D q=>by rw[exec]at q;exact q
 ·cases h
theorem Ar5{i:Nat}{ix e:E}(hC:∀f ds,Bj (C f ds)){X:Cx}{st:Stmt}(g:Gd tb C G cc k X)(h:chkS tb (.sto i ix e) (ctx X) st=true):Q1 X st (cc*wS (.sto i ix e)) (exec C G (.sto i ix e)):=by
 rw[chkS.eq_def]at h;dsimp only at h
 split at h
 ·rename_i x px kx sp v pos
  simp only[Yzh]at h;obtain⟨⟨⟨⟨h1,h2⟩,h3⟩,h4⟩,h5⟩:=h;obtain⟨e1,e2,e3,e4⟩:=Kc h1;have ha:∀v,assign (.Subscript (.Name x px) kx sp) X.env v=(do
   let ov ← holding [v] (eval (.Name x px) X.env)
   let iv ← holding [v,ov] (eval kx X.env)
   standAt sp
   holding [v,ov,iv] (setItem ov iv v)
   release [v,ov,iv] []):=λv=>by
   cases kx<;>first|rfl|(rw[Sy]at h4;cases h4)
  exact(Aqd e1 e2 e3 e4 ((Cg hC e).v X _ g h5) ((Cg hC ix).v X _ g h4) (Yp _ v h2 h3 _ _) rfl rfl ha).cg (by rw[wS,Ak];exact Aa _) λδ D q=>by rw[exec]at q;exact q
 ·cases h
theorem QAo.cg{X:Cx}{es:List Expr}{j p n n':Nat}{fs fs':Env→(List Dat→List Dat→Prop)→Prop}(h:QAo X es j p n fs)(hn:n≤n')(e:∀ δ Q,fs' δ Q→fs δ Q):QAo X es j p n' fs':=λpos E pins s σ H δ m Φ a t I er ha pl hf=>
 thn (h pos E pins s σ H δ m Φ a t I er ha (pl.mono (by omega)) (e _ _ hf)) λus s1 ⟨t1,vs,H1,d1,d2,h1,h2,h3,h4⟩=>⟨t1,vs,H1,d1,d2,h1,h2,h3.mono hn,h4⟩
theorem QAP.cg{X:Cx}{es:List Expr}{n n':Nat}{fs fs':Env→(List Dat→Env→Prop)→Prop}(h:QAP X es n fs)(hn:n≤n')(e:∀ δ Q,fs' δ Q→fs δ Q):QAP X es n' fs':=λpos E pins s σ H0 H δ m Φ t I es ex pl hf=>
 thn (h pos E pins s σ H0 H δ m Φ t I es ex (pl.mono (by omega)) (e _ _ hf)) λus s1 ⟨t1,vs,H1,ds,δ1,h1,h2,h3,h4,h5,h6⟩=>⟨t1,vs,H1,ds,δ1,h1,h2,h3,h4,h5.mono hn,h6⟩
end
end SF
namespace SF
open PySem PySem.Spec PyProof.Rows L2
variable[TN]
section
variable{tb:Tb}{C:Nat→List Dat→(Dat→Prop)→Prop}{G:Nat→Option Dat}{cc k:Nat}
theorem QPar.cg{X:Cx}{es:List Expr}{os:List Bool}{n n':Nat}{f g:Env→(List Dat→Prop)→Prop}(h:QPar X es os n f)(hn:n≤n')(e:∀ δ Q,g δ Q→f δ Q):QPar X es os n' g:=λpos E pins s σ H δ m Φ ht I er pl hf=>
 thn (h pos E pins s σ H δ m Φ ht I er (pl.mono (by omega)) (e _ _ hf)) λus s1 ⟨t,vs,H',ds,h1,h2,h3,h4,h5⟩=>⟨t,vs,H',ds,h1,h2,h3.mono hn,h4,h5⟩
theorem Ad5(hC:∀f ds,Bj (C f ds)){X:Cx}(g:Gd tb C G cc k X):∀(l:List E) (os:List Bool) (es:List Expr),os.length=es.length→chkL tb l (ctx X) es=true→((os.zip l).all λq=>!q.1 || Ge q.2)=true→QPar X es os (cc*wL l) (evs C G l .v)
 | [],[],[],_,_,_=>qpar_nil.cg (Am _) λδ Q q=>by rw[evs]at q;exact q
 | [],_,_::_,_,h,_=>by simp[chkL]at h
 | [],_::_,[],h,_,_=>by simp at h
 | _::_,_,[],_,h,_=>by simp[chkL]at h
 | _::_,[],_::_,h,_,_=>by simp at h
 | a::l,o::os,e::es,hl,h,hf=>by
  simp only[chkL,Yzh]at h;rw[Ed,Eb,Yzh]at hf;have rest:=Ad5 hC g l os es (by simpa using hl) h.2 hf.2;have ha:QE X e (cc*wE a) (if o=true then ROw X.kw else RV X.kw) (ev C G a .v):=by
   cases o with
   | true=>exact(Cg hC a).o X e g h.1 (by simpa using hf.1)
   | false=>exact(Cg hC a).v X e g h.1
  exact(Af5 o ha rest (Dq h.1 _ _)).cg (by rw[wL,Ak];exact Aa _) λδ Q q=>by rw[evs]at q;exact q
theorem Vs{env:PySem.Env}{ln:Nat}:∀{ts:List Expr} {xs:List Str},O4 ts=some xs→(∀x∈xs,env.kindOf x=some .local)→(ts.all λt=>t.pos.line == ln)=true →
  (ts.filterMap fun | .Name id pos=>if env.kindOf id == some .local && pos.line == ln then some id else none|_=>none)=xs∧ts.length=xs.length
 | [],xs,h,_,_=>by rw[O4]at h;cases h;exact⟨rfl,rfl⟩
 | t::ts,xs,h,hx,hl=>by
  cases t with
  | Name x p=>
   rw[O4]at h;obtain⟨ys,h1,rfl⟩:=Fl.mp h;rw[Eb,Yzh]at hl;obtain⟨e1,e2⟩:=Vs (env:=env) (ln:=ln) h1 (λy hy=>hx y (by simp[hy])) hl.2;have hk:=hx x (by simp);have hp:(p.line == ln)=true:=hl.1;refine⟨?_,by simp[e2]⟩;rw[Hq];simp only[hk,hp,beq_self_eq_true,Bool.and_self,if_true];rw[e1]
  | _=>simp[O4]at h
theorem Ajg:∀{l:List E} {c:Ck} {es:List Expr},chkL tb l c es=true→(es.any fun | .Starred ..=>true|_=>false)=false
 | [],c,[],_=>rfl
 | [],c,_::_,h=>by simp[chkL]at h
 | _::_,c,[],h=>by simp[chkL]at h
 | a::l,c,e::es,h=>by
  simp only[chkL,Yzh]at h;rw[Jv,Ajg h.2]
  cases e<;>first|rfl|(have z:=h.1;rw[Abp]at z;cases z)
theorem Ar8{os:List Bool}{is:List Nat}{l:List E}(hC:∀f ds,Bj (C f ds)){X:Cx}{st:Stmt}(g:Gd tb C G cc k X)(h:chkS tb (.par os is l) (ctx X) st=true):Q1 X st (cc*wS (.par os is l)) (exec C G (.par os is l)):=by
 rw[chkS.eq_def]at h;dsimp only at h
 split at h
 ·rename_i ts kt pt es k2 pt2 pos
  split at h
  ·rename_i xs hxs
   simp only[Yzh,Es,beq_iff_eq,Bf]at h;obtain⟨⟨⟨⟨⟨⟨⟨⟨⟨⟨h0,h1⟩,h2⟩,h3⟩,h4⟩,h5⟩,h6⟩,h7⟩,h8⟩,h9⟩,h10⟩:=h;have hz:∀(j i:Nat) (x:Str),is[j]? = some i→xs[j]? = some x→X.N[i]? = some x∧X.env.scope.names.lookup x=some .local:=λj i x a b=>by
    have hm:(i,x)∈is.zip xs:=Ae (by rw[Zy];exact⟨a,b⟩:(is.zip xs)[j]? = some (i,x));have:=Ai.mp h5 _ hm;simp only[Yzh]at this;exact⟨eq_of_beq this.1,eq_of_beq this.2⟩
   have hloc:∀x∈xs,X.env.kindOf x=some .local:=λx hx=>by
    obtain⟨j,hj⟩:=List.mem_iff_getElem?.mp hx;have lt:j < is.length:=by
     rw[h2];by_cases q:j < xs.length
     ·exact q
     ·rw[Bq (by omega)]at hj;cases hj
    exact(hz j _ x (Ab lt) hj).2
   obtain⟨e1,e2⟩:=Vs (env:=X.env) hxs hloc h8;have hb:X.env.blockKind = .function:=by unfold Env.blockKind;rw[g.kind];rfl
   have hw:swappedStores [.Tuple ts kt pt] (.Tuple es k2 pt2) X.env=pure (some xs):=by
    unfold swappedStores;have c1:(!(ts.length == 2 || ts.length == 3) || es.length != ts.length || X.env.blockKind != .function)=false:=by
     rw[e2,h3,hb]
     rcases h0 with z|z<;>rw[z]<;>rfl
    have c2:(xs.length != ts.length || xs.eraseDups.length != xs.length)=false:=by rw[e2,h4];simp
    simp only[c1,Yzg,if_false];refine(if_neg λz=>absurd (z.symm.trans (Ajg h7)) (by decide)).trans ?_;generalize hF:Qs _ ts=F;have eF:F=xs:=hF.symm.trans e1;rw[eF];simp only[c2,h9,h10,Yzg,if_false]
   refine(Aqh g.calm g.nd h2 h1 hz ?_ h3.symm (Ad5 hC g l os es (by rw[h1,h3]) h7 h6) hw rfl).cg (by rw[wS];exact Aa _) λδ D q=>by rw[exec]at q;exact q
   rw[h3]
   rcases h0 with z|z<;>rw[z]<;>decide
  ·cases h
 ·cases h
theorem Ast{a b d:Nat}(n:Nat):a*b+n*(a*d)=a*(b+n*d):=by
 rw[Ak,← G6,Jc n a,G6]
mutual
theorem Asf(hC:∀f ds,Bj (C f ds)){X:Cx}(g:Gd tb C G cc k X):∀(s:S) (st:Stmt),chkS tb s (ctx X) st=true→Q1 X st (cc*wS s) (exec C G s)
  | .dead,st,h=>λE hE pins s σ H0 H δ m D t I es ex pl hf=>by rw[exec]at hf;exact hf.elim
  | .set i e,st,h=>Aih hC g h
  | .own i e,st,h=>Ar9 hC g h
  | .unp p e,st,h=>Ar4 hC g h
  | .par os is l,st,h=>Ar8 hC g h
  | .frz i,st,h=>by rw[chkS.eq_def]at h;cases h
  | .app i e,st,h=>Ase hC g h
  | .ext i e,st,h=>Asb hC g h
  | .ins i ix e,st,h=>Asa hC g h
  | .pop i e,st,h=>Ar7 hC g h
  | .sto i ix e,st,h=>Ar5 hC g h
  | .exp e,st,h=>Asd hC g h
  | .ret e,st,h=>Ar6 hC g h
  | .retN,st,h=>Apb h
  | .pass,st,h=>Apc h
  | .ite c a b,st,h=>by
    rw[chkS.eq_def]at h;dsimp only at h
    split at h
    · simp only[Yzh]at h
      obtain⟨⟨h1,h2⟩,h3⟩:=h;exact(Aqj ((Cg hC c).t X _ g h1) (ss_all hC g a _ h2) (ss_all hC g b _ h3)).cg (by rw[wS,Ak,Ak];exact Aa _) λδ D q=>by
        rw[exec]at q;exact Ah hC c .v δ _ _ (λx=>Cj x _ _ λkk hk=>by
          split at hk
          · rename_i e;rw[if_pos e];exact hk
          · rename_i e;rw[if_neg e];exact hk) q
    · cases h
  | .for p it b, st,h=>by
    rw[chkS.eq_def]at h;dsimp only at h
    split at h
    · rename_i tg iter body pos
      simp only[Yzh]at h;obtain⟨⟨⟨⟨h1,h2⟩,h3⟩,h4⟩,h5⟩:=h;have hz:isZ it=true→isT p=true:=λhz=>by
        have htg : ∃a b c,tg = .Tuple a b c:=by
          cases tg<;>first
            | exact⟨_,_,_,rfl⟩
            | (exfalso
               cases it<;>first
                 | (simp[isZ]at hz;done)
                 | (rw[chkE.eq_def]at h4;simp at h4;done))
        obtain⟨a,b,c,rfl⟩:=htg
        cases p with
        | v i=>simp[Jg]at h3
        | t ps=>rfl
      exact(Aql g.calm ((Cg hC it).i X tg iter false g h4 λ_=>h2) hz (Ow g h3) (ss_all hC g b _ h5) (Lq h1 X.env) λδ=>Ah hC it .i δ).cg (by rw[wS,← Ast];exact Aa _) λδ D q=>by rw[exec]at q;exact q
    · cases h
  | .whl c b,st,h=>by
    rw[chkS.eq_def]at h;dsimp only at h
    split at h
    · simp only[Yzh]at h
      exact(Aqb ((Cg hC c).t X _ g h.1) (ss_all hC g b _ h.2)).cg (by rw[wS,← Ak,← G6,Jc big cc,G6];exact Aa _) λδ D q=>by rw[exec]at q;exact q
    · cases h
theorem ss_all(hC:∀f ds,Bj (C f ds)){X:Cx}(g:Gd tb C G cc k X):∀(l:List S) (sts:List Stmt),chkSs tb l (ctx X) sts=true→QS X sts (cc*wSs l) (execs C G l)
 | [],sts,h=>by
  cases sts with
  | nil=>exact qs_nil.cg (Am _) λδ D q=>by rw[execs]at q;exact q
  | cons _ _=>simp[chkSs]at h
 | s::r,sts,h=>by
  by_cases hf:∃i,s = .frz i
  ·obtain⟨i,rfl⟩:=hf
   have h':chkSs tb r (ctx X) sts=true:=by rw[chkSs.eq_def]at h;exact h
   exact(Apo (i:=i) (ss_all hC g r sts h')).cg (by rw[wSs];exact Cd _ (Nat.le_add_left _ _)) λδ D q=>by rw[execs,exec]at q;exact q
  ·have h':∃st sts',sts=st::sts'∧chkS tb s (ctx X) st=true∧chkSs tb r (ctx X) sts'=true:=by
    rw[chkSs.eq_def]at h
    cases sts with
    | nil=>cases s<;>first|(simp at h;done)|exact absurd ⟨_,rfl⟩ hf
    | cons st sts'=>cases s<;>first|(exact absurd ⟨_,rfl⟩ hf)|(simp only[Yzh]at h;exact⟨_,_,rfl,h.1,h.2⟩)
   obtain⟨st,sts',rfl,h1,h2⟩:=h';exact(Al3 (Asf hC g s st h1) (ss_all hC g r sts' h2)).cg (by rw[wSs,Ak];exact Aa _) λδ D q=>by rw[execs]at q;exact q
end
end
end SF
namespace SF
open PySem PySem.Spec PyProof.Rows L2
variable[TN]
def AskX(X:Cx)(G:Nat→Option Dat)(C:Nat→List Dat→(Dat→Prop)→Prop)(cc:Nat):Prop:=∀(pn:List (Addr×Obj)) (xe:Value→Shared→Prop) (pins:List (Addr×Obj)) (s:Shared) (σ:L2.St) (H:Hp) (m:Nat) (Φ:Dat→Prop) (d:Dat),0 < s.toks→L2.Inv (X.tr pn xe) pins σ H s→Ext X.H_0 H→PotLe (cc+m) H→C 7000000 [d] Φ →
 ∃a,d = .obj a []∧PySem.W.FnAt a s.heap∧codeAny (model X.prog X.w) X.A (.call (.ref a) ⟨[],[]⟩) (XO X.prog X.w X.K G X.stack H s cc Φ) s
section
variable{tb:Tb}{C:Nat→List Dat→(Dat→Prop)→Prop}{G:Nat→Option Dat}{cc k:Nat}{X:Cx}
theorem Gd.tr(g:Gd tb C G cc k X)(pn:List (Addr×Obj))(xe:Value→Shared→Prop):Gd tb C G cc k (X.tr pn xe):=
 ⟨g.calm,g.nd,g.rm,g.kind,g.fre,g.glo,g.fns,g.sys,g.fnv,g.mfn,g.cls,g.owns,g.xcl,g.xfn,g.lam,g.low,g.tol,g.ini,g.rfn⟩
theorem AskX.tr(a:AskX X G C cc)(pn:List (Addr×Obj))(xe:Value→Shared→Prop):AskX (X.tr pn xe) G C cc:=λpn' xe'=>a pn' xe'
structure FrOk(X:Cx):Prop where
 hs:X.stack=X.env::X.outer
 hf:X.env.frame=some X.env.locals
 hex:X.ex=[]
theorem Ab6(hC:∀f ds,Bj (C f ds)):∀(l:List S) (X:Cx),Gd tb C G cc k X→AskX X G C cc→FrOk X→∀sts:List Stmt,Aoq tb l (ctx X) sts=true→QSX X G sts (cc*wSs l) (execs C G l):=λl X g a fr sts h=>nomatch (show false=true from h)
end
end SF
namespace SF
open PySem PySem.Spec PyProof.Rows L2
variable[TN]
def Aor(_:Tb)(_:List S)(_:Ck)(_:List Stmt):Bool:=false
section
variable{tb:Tb}{C:Nat→List Dat→(Dat→Prop)→Prop}{G:Nat→Option Dat}{cc k p:Nat}
theorem Ahq(hC:∀f ds,Bj (C f ds)){X:Cx}(g:Gd tb C G cc k X):∀(l:List S) (sts:List Stmt),Aor tb l (ctx X) sts=true→QST X p sts (cc*wSs l) (execs C G l):=λl sts h=>nomatch (show false=true from h)
end
theorem SOT.so{X:Cx}{pins:List (Addr×Obj)}{p:Nat}{a:Addr}{n:Nat}{H0 H:Hp}{D:Post}{fl:Flow}{s':Shared}(h:SOT X pins p a n H0 H D fl s'):SO X pins n H0 H D fl s':=by
 obtain⟨t,h⟩:=h;refine⟨t,?_⟩
 cases fl with
 | next=>obtain⟨σ',H',δ',h0,h1,h2,h3,h4⟩:=h;exact⟨σ',H',δ',h1,h2,h3,h4⟩
 | ret u=>obtain⟨v,σ',H',d,δ',h0,h1,h2,h3,h6,h4,h5⟩:=h;exact⟨v,σ',H',d,δ',h1,h2,h3,h6,h4,h5⟩
 | brk=>exact h.elim
 | cont=>exact h.elim
theorem Anj{P:Program}{w:World}{K:PySem.W.Frag}{mg:Str→Option Value}{base:Heap}{x qual:Str}{params:Arguments}{body:List Stmt}{scope:Scope}{dvs:List V}{kws:List (Str×V)}{f:Addr}{fd:FuncData}{N ps:List Str}{k n p:Nat}{W:List Dat→(Dat→Prop)→Prop}
  (F:FunD K x qual params body scope dvs kws f fd) (S:FnScope N ps scope)
  (hbody:∀(cdv:Value) (A:Around) (outer:List PySem.Env) (s:Shared) (H:Hp),fd.code=cdv→RoomG k (A.deeper (envOfC qual scope s.heap.objs.size f cdv)) →
   ∃Fb,QST (cxOf CX0 P w K mg base N qual scope f cdv A outer s H λ_ _ _=>False) p body n Fb∧∀ds Φ,W ds Φ→Fb (Bp N.length ds) { nx:=λ_=>Φ .non,rt:=λ_=>Φ }) :
  FnG P w K mg base (k+1) f fd ps n W:=by
 refine⟨λA outer s H args us vs ds m Φ hr t0 e0 hb r hl hrep pl hW=>Jf F S hr e0 hb r hl λcdv s1 hcv hr1 tk I=>?_⟩;obtain⟨Fb,hQ,hFb⟩:=hbody cdv A outer s H hcv hr1;refine wpAny_mono (hQ _ PassesOwn.never [] s1 (L2.start N vs) H H _ m _ 0 (Ax t0 tk) I (Ly hrep (fits S hl)) (Ext.refl H) pl (λ_ h=>absurd h Io) (hFb ds Φ hW)) (λfl s' hs=>?_) λ_ _ z=>z
 exact⟨_,rfl,Om hs.so⟩
theorem Aci{n p:Nat}{ds:List Dat}{d:Dat}{s:Slot}(h:p < ds.length):(Bp n (ds.set p d)).set p s=(Bp n ds).set p s:=by
 unfold Bp;rw[Ec,List.set_append_left _ _ (by simpa using h),List.set_append_left _ _ (by simpa using h),List.map_set,List.set_set]
theorem Akz{K:KW}{H:Hp}{N:List Str}{vs xs:List V}{ds l:List Dat}{p:Nat}{a:Addr}(h:Reps K H vs (ds.set p (.obj a [])))(hl:vs.length≤N.length)(hp:p < ds.length)(hx:H a=some (.lst xs))(hz:l.length≤sizeLine)(hr:Reps K H xs l) :
  EnvS K (L2.start N vs) (Ov H a) H ((Bp N.length ds).set p (.own (.lst l)))∧Tk p a (L2.start N vs) ((Bp N.length ds).set p (.own (.lst l))):=by
 have er:=Ox h hl;have hlen:=h.length;rw[Ec]at hlen;obtain⟨v,hv,rv⟩:=h.get (i:=p) (d:=.obj a []) (by rw[Be];simp[hp]);rw[Rep]at rv;obtain⟨_,ev⟩:(([]:List Dat)=[]∧v = .ref a):=rv.resolve_right λz=>z.elim (λ⟨_,_,_,h,_⟩=>h rfl) λ⟨_,_,_,_,h,_⟩=>h rfl
 subst ev;have hs:(L2.start N vs)[p]? = some (some (.ref a)):=by
  unfold L2.start;rw[Dr (by rw[Yzi];omega),Af,hv];rfl
 have only:∀(i:Nat) (d:Dat),((Bp N.length ds).set p (.own (.lst l)))[i]? = some (Slot.own d)→i=p:=λi d hi=>by
  by_cases e:i=p
  ·exact e
  ·rw[Qq (λz=>e z.symm)]at hi
   exact absurd hi Io
 refine⟨⟨⟨?_,λi s hi=>?_⟩,λi j d d' hij hi hj=>?_,λi d b hi hb=>?_⟩,λd _=>hs⟩
 ·have:=er.1
  rw[Ec];unfold Bp at this ⊢
  simpa using this
 ·by_cases e:i=p
  ·subst e
   rw[Be]at hi
   split at hi
   ·split at hi
    ·cases hi
     rw[hs];exact⟨a,rfl,xs,hx,hz,hr⟩
    ·cases hi
   ·rename_i z;exact absurd rfl z
  ·rw[← Aci (d:=.obj a []) hp,Qq (λz=>e z.symm)]at hi
   exact er.2 i s hi
 ·exact absurd ((only i d hi).trans (only j d' hj).symm) hij
 ·have:=only i d hi
  subst this;rw[hs]at hb
  cases hb
  exact Yk
theorem Arc{P:Program}{w:World}{K:PySem.W.Frag}{mg:Str→Option Value}{base:Heap}{x qual:Str}{params:Arguments}{body:List Stmt}{scope:Scope}{dvs:List V}{kws:List (Str×V)}{f:Addr}{fd:FuncData}{N ps:List Str}{k n p:Nat}{W:List Dat→(Dat→Prop)→Prop}
  (F:FunD K x qual params body scope dvs kws f fd) (S:FnScope N ps scope)
  (hbody:∀(cdv:Value) (A:Around) (outer:List PySem.Env) (s:Shared) (H:Hp),fd.code=cdv→RoomG k (A.deeper (envOfC qual scope s.heap.objs.size f cdv)) →
   ∃Fb,QST (cxOf CX0 P w K mg base N qual scope f cdv A outer s H λ_ _ _=>False) p body n Fb∧∀ds l Φ,ds[p]? = some (.lst l)→W ds Φ→Fb ((Bp N.length ds).set p (.own (.lst l))) { nx:=λ_=>False,rt:=λδ r=>∃y,δ[p]? = some (.own (.lst y))∧Φ (.tup [r,.lst y]) }) :
  FnO P w K mg base (k+1) f fd ps n p W:=by
 refine⟨λA outer s H args us vs ds m Φ a xs l hr t0 e0 hb r hl hrep hd hx hrx hz pl hW=>Jf F S hr e0 hb r hl λcdv s1 hcv hr1 tk I=>?_⟩;obtain⟨Fb,hQ,hFb⟩:=hbody cdv A outer s H hcv hr1;have hp:p < ds.length:=(Ag.mp hd).1;obtain⟨es,tk0⟩:=Akz (N:=N) hrep (fits S hl) hp hx hz hrx;refine wpAny_mono (hQ _ PassesOwn.never [] s1 (L2.start N vs) (Ov H a) H _ m _ a (Ax t0 tk) I es (Z5 H a) pl tk0 (hFb ds l Φ hd hW)) (λfl s' hs=>?_) λ_ _ z=>z
 obtain⟨t',hs⟩:=hs
 cases fl with
 | brk=>exact hs.elim
 | cont=>exact hs.elim
 | next=>obtain⟨_,_,_,_,_,_,_,z⟩:=hs;exact z.elim
 | ret u=>
  obtain⟨v,σ',H',d,δ',tk',J,rv,rd,es',st,y,hδ,q⟩:=hs;obtain⟨b,zs,hb1,hb2,hb3,hb4,_⟩:=es'.ownAt hδ;have eb:b=a:=by
   have:=tk' _ hδ;rw[hb1]at this;injection this with e;injection e with e;injection e with e
  subst eb;exact⟨u,rfl,t',v,H',J.os,J.bare,J.base,J.hok,rv,d,zs,y,st,rd,hb2,hb4,hb3,q⟩
end SF
namespace SF
open PySem PySem.Spec PyProof.Rows L2
variable[TN]
section
variable{P:Program}{w:World}{K:PySem.W.Frag}{mg:Str→Option Value}{base:Heap}{x qual:Str}{params:Arguments}{body:List Stmt}{scope:Scope}{dvs:List V}{kws:List (Str×V)}{f:Addr}{fd:FuncData}{N ps:List Str}{k n n':Nat}{G:Nat→Option Dat}
theorem Agu{CXx:CXT}{E:XK}{A:Around}{outer:List PySem.Env}{s:Shared}{H:Hp}{args:Args}{us:List Value}{vs:List V}{R:Result→Shared→Prop}
  (F:FunD K x qual params body scope dvs kws f fd) (S:FnScope N ps scope) (hr:RoomG (k+1) A) (e0:Env0 P w K mg base A outer s H) (hb:BindsTo s fd args (ps.zip us)) (r:L2.Vals vs us) (hl:vs.length=ps.length)
  (go:∀(cdv:Value) (s1:Shared),fd.code=cdv→RoomG k (A.deeper (envOfC qual scope s.heap.objs.size f cdv))→s.toks≤s1.toks→L2.Inv (cxOf CXx P w K mg base N qual scope f cdv A outer s H E) [] (L2.start N vs) H s1 →
   wpAny (model P w) (A.deeper (envOfC qual scope s.heap.objs.size f cdv)) (PySem.execs body (envOfC qual scope s.heap.objs.size f cdv)) (λfl s'=>R (.ok (.ret (match fl with | .ret v=>v|_=>.none))) s')
    (λe s'=>wpAny (model P w) (A.deeper (envOfC qual scope s.heap.objs.size f cdv)) (leaving (envOfC qual scope s.heap.objs.size f cdv) e) (λ_ s''=>R (.error e) s'') (λe' s''=>R (.error e') s'') s') s1) :
  codeAny (model P w) A (.call (.ref f) args) R s:=by
 obtain⟨oc,od,dV,kV,doc,pm,an,cdv,ct,osl,rfl,lk,hcd,-,-⟩:=F.ex;have kin:K.In s.heap:=e0.mod.kin.keeps λb o e=>(e0.bs b o e).1
 refine codeAny_call_function (RoomG.depth hr) (kin _ _ lk) rfl S.co S.gen rfl (PySem.W.codeRec_of kin hcd) (hb _ _ _ _ ?_);have named:∀y∈ps.zip us,scope.names.lookup y.1=some .local∨(scope.names.lookup y.1=some .cell∧((cellsFrom (s.heap.objs.size+1) scope.names []).lookup y.1).isSome=true):=by
  intro y hy;exact(S.par y.1 (Pa hy).1).imp_right λq=>⟨q,PySem.W.cellsFrom_some _ _ _ (Or.inl q)⟩
 refine wpAny_mono (wpAny_toks (wpAny_newFunctionEnv_cells (Q:=λenv s1=>env=envOfC qual scope s.heap.objs.size f cdv∧InCallC s env.locals (bindL env.kindOf (ps.zip us) λ_=>none) env.cells (bindC env.kindOf (ps.zip us) λ_=>none) s1) (E:=λ_ _=>False) S.kind named λenv he s1 x=>⟨he,x⟩)) ?_ λ_ _ z=>z.2.elim
 rintro env s1 ⟨tk,rfl,x⟩;have nl:s1.heap.NoLimit:=by
  refine e0.mod.nolimit.keeps ?_;intro b o e;exact x.toInCall.keep b o (e0.bs b o e).1
 exact⟨nl,codeAny_func (go cdv s1 rfl (hr.deeper _) tk (inv_start S hr.hd e0 hl r x))⟩
theorem Aq9{W:List Dat→(Dat→Prop)→Prop}(F:FunD K x qual params body scope dvs kws f fd)(S:FnScope N ps scope)
  (hbody:∀(cdv:Value) (A:Around) (outer:List PySem.Env) (s:Shared) (H:Hp) (E:XK),fd.code=cdv→RoomG k (A.deeper (envOfC qual scope s.heap.objs.size f cdv)) →
   ∃Fb,QSX (cxOf (L2.CX P w) P w K mg base N qual scope f cdv A outer s H E) G body n Fb∧∀ds Φ,W ds Φ→Fb (Bp N.length ds) { nx:=λ_=>Φ (.tup [.non]),rt:=λ_ r=>Φ (.tup [r]),ex:=λ_=>Φ }) :
  FnX P w K G mg base (k+1) f fd ps n W:=by
 refine⟨λA outer s H args us vs ds m Φ hr t0 e0 hb r hl hrep pl hW=>Agu (CXx:=L2.CX P w) (E:=λcls d H'=>∃(c:Nat) (y:Dat),Step n H H'∧ExR ⟨K,P,w⟩ G H' cls d c y∧Φ (.tup [.int c,y])) F S hr e0 hb r hl λcdv s1 hcv hr1 tk I=>?_⟩;obtain⟨Fb,hQ,hFb⟩:=hbody cdv A outer s H (λcls d H'=>∃(c:Nat) (y:Dat),Step n H H'∧ExR ⟨K,P,w⟩ G H' cls d c y∧Φ (.tup [.int c,y])) hcv hr1;refine wpAny_mono (hQ (λe s'=>wpAny (model P w) (A.deeper (envOfC qual scope s.heap.objs.size f cdv)) (leaving (envOfC qual scope s.heap.objs.size f cdv) e) (λ_ s''=>XO P w K G outer H s n Φ (.error e) s'') (λe' s''=>XO P w K G outer H s n Φ (.error e') s'') s')
  PassesOwn.leaving [] s1 (L2.start N vs) H _ m _ (Ax t0 tk) I (Ly hrep (fits S hl)) (Ext.refl H) pl (λu s' xs=>?_) (hFb ds Φ hW)) (λfl s' hs=>?_) λ_ _ z=>z
 ·have lv:=XE.leave (X:=cxOf (L2.CX P w) P w K mg base N qual scope f cdv A outer s H (λcls d H'=>∃(c:Nat) (y:Dat),Step n H H'∧ExR ⟨K,P,w⟩ G H' cls d c y∧Φ (.tup [.int c,y]))) (E:=λcls d H'=>∃(c:Nat) (y:Dat),Step n H H'∧ExR ⟨K,P,w⟩ G H' cls d c y∧Φ (.tup [.int c,y])) (E₁:=λe'' s''=>XO P w K G outer H s n Φ (.error e'') s'') rfl rfl rfl (λcls d σ' H' z=>by
   obtain⟨δ',c,y,es,st,er,q⟩:=z;exact⟨c,y,⟨st.ext,st.pot⟩,er,q⟩) xs.2
  exact Cr xs.1 lv λ_ s'' t q=>⟨t,q⟩
 ·obtain⟨t,h⟩:=hs
  refine⟨t,?_⟩
  cases fl with
  | brk=>obtain⟨_,_,_,_,_,_,z⟩:=h;exact z.elim
  | cont=>obtain⟨_,_,_,_,_,_,z⟩:=h;exact z.elim
  | next=>
   obtain⟨_,H',_,J,_,st,q⟩:=h;exact⟨.non,H',J.os,J.bare,J.base,J.hok,rfl,.non,⟨st.ext,st.pot⟩,by rw[Rep],q⟩
  | ret u=>
   obtain⟨v,_,H',d,_,J,rv,rd,_,st,q⟩:=h;exact⟨v,H',J.os,J.bare,J.base,J.hok,rv,d,⟨st.ext,st.pot⟩,rd,q⟩
theorem Adw{X:Cx}{n:Nat}{H:Hp}{u:Value}{s':Shared}(h:XS X G n H (λ_ _=>False) u s'):False:=by
 obtain⟨_,_,_,_,_,_,_,_,_,_,_,_,_,_,_,_,_,z⟩:=h;obtain⟨_,_,_,_,_,_,z⟩:=z;exact z
theorem Ani{W:List Dat→(Dat→Prop)→Prop}(F:FunD K x qual params body scope dvs kws f fd)(S:FnScope N ps scope)
  (hbody:∀(cdv:Value) (A:Around) (outer:List PySem.Env) (s:Shared) (H:Hp),fd.code=cdv→RoomG k (A.deeper (envOfC qual scope s.heap.objs.size f cdv)) →
   ∃Fb,QSX (cxOf CX0 P w K mg base N qual scope f cdv A outer s H λ_ _ _=>False) G body n Fb∧∀ds Φ,W ds Φ→Fb (Bp N.length ds) { nx:=λ_=>Φ .non,rt:=λ_=>Φ }) :
  FnG P w K mg base (k+1) f fd ps n W:=by
 refine⟨λA outer s H args us vs ds m Φ hr t0 e0 hb r hl hrep pl hW=>Jf F S hr e0 hb r hl λcdv s1 hcv hr1 tk I=>?_⟩;obtain⟨Fb,hQ,hFb⟩:=hbody cdv A outer s H hcv hr1;refine wpAny_mono (hQ _ PassesOwn.never [] s1 (L2.start N vs) H _ m _ (Ax t0 tk) I (Ly hrep (fits S hl)) (Ext.refl H) pl (λu s' xs=>Adw xs) (hFb ds Φ hW)) (λfl s' hs=>?_) λ_ _ z=>z
 exact⟨_,rfl,Om hs⟩
theorem Ara{tb:Tb}{ft:Nat}{W:List Dat→(Dat→Prop)→Prop}{Wf:List Dat→(Dat→Prop)→Prop}{xf:Str}{af:Addr}{fdf:FuncData}{psf:List Str}
  (F:FunD K x qual params body scope dvs kws f fd) (S:FnScope N ps scope)
  (hxf:tb.fns[ft]? = some xf) (hadr:Kg K mg tb ft xf af) (hkf:PySem.W.keepIn K (.ref af)=true) (FX:FnX P w K G mg base k af fdf psf n' Wf) (hbf:∀ss,tb.shp[ft]? = some ss→∀q∈ss,Gf ⟨K,P,w⟩ fdf psf q.1 q.2.1 q.2.2)
  (hbody:∀(cdv:Value) (A:Around) (outer:List PySem.Env) (s:Shared) (H:Hp) (lam:Addr) (ds:List Dat),fd.code=cdv→RoomG k (A.deeper (envOfC qual scope s.heap.objs.size f cdv)) →
   (∀C:Nat→List Dat→(Dat→Prop)→Prop,(∀d Φ,C 7000000 [d] Φ→d = .obj lam []∧Wf ds Φ)→Afa P w K mg base tb G ft ds outer s H lam→(∀env,RoomG k ((A.deeper (envOfC qual scope s.heap.objs.size f cdv)).deeper env))→AskX (cxOf CX0 P w K mg base N qual scope f cdv A outer s H λ_ _ _=>False) G C n') →
   Afa P w K mg base tb G ft ds outer s H lam→(∀env,RoomG k ((A.deeper (envOfC qual scope s.heap.objs.size f cdv)).deeper env)) →
   ∃Fb,QSX (cxOf CX0 P w K mg base N qual scope f cdv A outer s H λ_ _ _=>False) G body n Fb∧∀ Φ,W ds Φ→Fb (Bp N.length [.obj lam []]) { nx:=λ_=>Φ .non,rt:=λ_=>Φ }) :
  FnT P w K mg base tb G ft (k+1) f fd ps n W:=by
 refine⟨λA outer s H args lam m Φ ds hr t0 e0 hb hps pl lo hW=>Jf (us:=[.ref lam]) (vs:=[.ref lam]) F S hr e0 hb (.cons rfl .nil) (by rw[hps];rfl) λcdv s1 hcv hr1 tk I=>?_⟩;have deep:∀env,RoomG k ((A.deeper (envOfC qual scope s.heap.objs.size f cdv)).deeper env):=λenv=>
  ⟨hr.hd,by have:=hr.dp;show A.depth+1+1+3*k+20 < _;omega,by have:=hr.un;show A.units+3+3+16*k+400 < _;omega,hr.gu⟩
 have rep1:Reps ⟨K,P,w⟩ H [V.ref lam] [.obj lam []]:=by
  rw[Reps,Reps,Rep];exact⟨.inl ⟨rfl,rfl⟩,trivial⟩
 have mk:∀C:Nat→List Dat→(Dat→Prop)→Prop,(∀d Φ,C 7000000 [d] Φ→d = .obj lam []∧Wf ds Φ)→Afa P w K mg base tb G ft ds outer s H lam→(∀env,RoomG k ((A.deeper (envOfC qual scope s.heap.objs.size f cdv)).deeper env))→AskX (cxOf CX0 P w K mg base N qual scope f cdv A outer s H λ_ _ _=>False) G C n':=by
  intro C hC lo deep pn xe pins s2 σ HZ m2 Φ2 d t2 I2 ex pl2 hc;obtain⟨ed,hw⟩:=hC d Φ2 hc;exact⟨lam,ed,lo k n' xf af fdf psf Wf hxf hadr hkf FX hbf (A.deeper (envOfC qual scope s.heap.objs.size f cdv)) (envOfC qual scope s.heap.objs.size f cdv::outer) s2 HZ m2 Φ2 hr1.hd hr1.depth deep t2 I2.env0 I2.base ex pl2 hw⟩
 obtain⟨Fb,hQ,hFb⟩:=hbody cdv A outer s H lam ds hcv hr1 mk lo deep;refine wpAny_mono (hQ _ PassesOwn.never [] s1 (L2.start N [.ref lam]) H _ m _ (Ax t0 tk) I (Ly rep1 (fits S (by rw[hps];rfl))) (Ext.refl H) pl (λu s' xs=>Adw xs) (hFb Φ hW)) (λfl s' hs=>?_) λ_ _ z=>z
 exact⟨_,rfl,Om hs⟩
end
end SF
namespace SF
open PySem PySem.Spec PyProof.Rows L2
variable[TN]
def Wv(tb:Tb)(c:Ck)(s0:Str):List E→List Str→List Stmt→Bool
 | [],[],[]=>true
 | a::l,f::fs,.Assign [.Attribute (.Name s _) f1 _] v _::sts=>s == s0 && (f1 == f && (chkE tb a none c v && Wv tb c s0 l fs sts))
 | _,_,_=>false
theorem Ark{K:KW}{σ:L2.St}{H:Hp}{δ:Env}{a:Addr}{u o:HO}(h:EnvRep K σ H δ)(no:∀(i:Nat) (d:Dat),δ[i]? ≠ some (Slot.own d))(hu:Chg u)(h0:H a=some u):EnvRep K σ (L2.upd H a o) δ:=by
 refine⟨h.1,λi s q=>?_⟩;have z:=h.2 i s q
 cases s with
 | no=>trivial
 | val d=>
  obtain⟨v,q,z⟩:=z.valAt;rw[q];exact Rep.wr hu _ h0 _ _ z
 | own d=>exact absurd q (no i d)
section
variable{tb:Tb}{C:Nat→List Dat→(Dat→Prop)→Prop}{G:Nat→Option Dat}{cc k:Nat}{X:Cx}
theorem Aer(hC:∀f ds,Bj (C f ds))(g:Gd tb C G cc k X){Ca:Addr}{nms:List Str}(cl:ClsA X.K Ca nms)(few:nms.length≤1000){s0:Str}(hv:Qv (ctx X) 0 s0=true){p dx:Addr}{H0:Hp}(ne:dx≠p)(hd0:H0 dx=none){Ex:Value→Shared→Prop}{σ:L2.St}(hσ:σ[0]? = some (some (.ref p))){δ:Env}(no:∀(i:Nat) (d:Dat),δ[i]? ≠ some (Slot.own d)) :
  ∀(l:List E) (fns:List Str) (sts:List Stmt) (done:List Str) (vs:List V) (ds:List Dat) (s:Shared) (H:Hp) (n0 m:Nat) (Φ:List Dat→Prop),Wv tb (ctx X) s0 l fns sts=true→nms=done++fns→vs.length=done.length→0 < s.toks→L2.Inv X [] σ H s→EnvRep X.kw σ H δ→Step n0 H0 H→H p=some (M5 Ca dx p)→H dx=some (Nf dx (done.zip vs))→Reps X.kw H vs ds→PotLe (cc*wL l+m) H→evs C G l .v δ Φ →
   wpAny (model X.prog X.w) X.A (PySem.execs sts X.env) (λfl s'=>fl = .next∧0 < s'.toks∧∃H' us es,L2.Inv X [] σ H' s'∧H' p=some (M5 Ca dx p)∧us.length=nms.length∧H' dx=some (Nf dx (nms.zip us))∧Step (n0+cc*wL l) H0 H'∧Reps X.kw H' us (ds++es)∧Φ es) Ex s
 | [],fns,sts,done,vs,ds,s,H,n0,m,Φ,h,hn,hl,t,I,er,st,hp,hd,hr,pl,hf=>by
  match fns,sts,h with
  | [],[],_=>
   rw[evs]at hf;rw[Bu]at hn;subst hn;exact wpAny_execs_nil ⟨rfl,t,H,vs,[],I,hp,hl,hd,st.mono (El _ _),by rw[Bu];exact hr,hf⟩
  | [],_::_,h=>simp[Wv]at h
  | _::_,_,h=>simp[Wv]at h
 | a :: l,fns,sts,done,vs,ds,s,H,n0,m,Φ,h,hn,hl,t,I,er,st,hp,hd,hr,pl,hf=>by
  match fns,sts,h with
  | [],_,h=>simp[Wv]at h
  | f::fns,[],h=>simp[Wv]at h
  | f::fns,st1::sts,h=>
   obtain⟨s1,p1,f1,p2,v,p3,rfl,h1,h2,h3,h4⟩:∃s1 p1 f1 p2 v p3,st1 = .Assign [.Attribute (.Name s1 p1) f1 p2] v p3∧s1=s0∧f1=f∧chkE tb a none (ctx X) v=true∧Wv tb (ctx X) s0 l fns sts=true:=by
    unfold Wv at h
    split at h
    ·rename_i e1 e2;cases e2
    ·rename_i e1 e2 e3
     cases e1;cases e2;cases e3
     simp only[Yzh,beq_iff_eq]at h;exact⟨_,_,_,_,_,_,rfl,h⟩
    ·cases h
   subst h1 h2;obtain⟨e1,e2,e3,e4⟩:=Kc hv;have ew:wL (a::l)=wE a+wL l:=by rw[wL]
   rw[ew,Ak]at pl ⊢;rw[evs]at hf;have hs:swapsWith v (some (.Attribute (.Name s1 p1) f1 p2)) p3.line X.env=pure false:=by cases v<;>rfl
   have hin:f1∈nms:=by rw[hn];simp
   have hnd:=cl.nd;rw[hn]at hnd;refine wpAny_execs_cons (thn (plainObj_wpAny_Assign_Attribute (Q:=λfl s'=>fl = .next∧0 < s'.toks∧∃H' y d,L2.Inv X [] σ (L2.upd H' dx (Nf dx (done.zip vs++[(f1,y)]))) s'∧H' p=some (M5 Ca dx p)∧H' dx=some (Nf dx (done.zip vs))∧Step (cc*wE a) H H'∧Rep X.kw H' y d∧evs C G l .v δ λds=>Φ (d::ds)) (thn ((Cg hC a).v X v g h3 Ex [] s σ H δ (cc*wL l+m) _ t I er (pl.mono (by omega)) hf) λu s2 ⟨t2,y,H2,d,I2,r2,st2,b2,q2⟩=>?_) hs) λfl s3 ⟨efl,t3,H3,y,d,I3,hp3,hd3,st3,b3,q3⟩=>?_)
   ·have hp2:H2 p=some (M5 Ca dx p):=st2.ext.keep hp (λz e=>Chg.pot (e ▸ Afx)) λ_ q=>nomatch q
    have hd2:H2 dx=some (Nf dx (done.zip vs)):=st2.ext.keep hd (λz e=>Chg.pot (e ▸ Kd)) λ_ q=>nomatch q
    refine Je e1 e2 e3 e4 I2 hσ ?_;have hz:(done.zip vs).length=done.length:=by rw[List.length_zip,hl,Nat.min_self]
    have hlt:done.length < 1000:=by
     have:=congrArg Dh hn;rw[Yzj,Yzk]at this;omega
    refine Cr (X:=X) t2 (Aie (Q:=λ_ s'=>L2.Inv X [] σ (L2.upd H2 dx (Nf dx (done.zip vs++[(f1,y)]))) s') I2 ne hp2 hd2 cl.cl (cl.no f1 hin) (by rw[hz];exact hlt) (λq hq e=>?_) r2 λs' I'=>I') λ_ s4 t4 I4=>⟨rfl,t4,H2,y,d,I4,hp2,hd2,st2,b2,q2⟩
    have:q.1∈done:=(Pa hq).1;rw[e]at this;exact(List.nodup_append.mp hnd).2.2 f1 this f1 (by simp) rfl
   ·subst efl
    have ez:done.zip vs++[(f1,y)]=(done++[f1]).zip (vs++[y]):=by rw[List.zip_append hl.symm];rfl
    rw[ez]at I3;have hp4:(L2.upd H3 dx (Nf dx ((done++[f1]).zip (vs++[y])))) p=some (M5 Ca dx p):=by rw[upd_ne (Ne.symm ne)];exact hp3
    have st4:=(st.trans st3).put hd0 (.chg hd3 Kd) (o:=Nf dx ((done++[f1]).zip (vs++[y]))) (λz e=>Chg.pot (e ▸ Kd));have pot3:=st3.pot _ (pl.mono (show cc*wE a+(cc*wL l+m)≤_ by omega));have pot4:PotLe (cc*wL l+m) (L2.upd H3 dx (Nf dx ((done++[f1]).zip (vs++[y])))):=⟨pot3.1,λb z q=>by
     by_cases hb:b=dx
     ·subst hb;rw[upd_same]at q;exact(Chg.pot (Aj.inj q ▸ Kd)).elim
     ·rw[upd_ne hb]at q;exact pot3.2 b z q,pot3.3.put (.chg hd3 Kd)⟩
    have z:=Aer hC g cl few hv ne hd0 (Ex:=Ex) hσ no l fns sts (done++[f1]) (vs++[y]) (ds++[d]) s3 _ (n0+cc*wE a) m _ h4 (by rw[hn,Cm];rfl) (by simp[hl]) t3 I3 (Ark (er.ext st3.ext) no Kd hd3) st4 hp4 upd_same
     (Reps.wr Kd _ hd3 _ _ ((Reps.ext st3.ext _ _ hr).snoc b3)) pot4 q3
    refine thn z λfl s5 ⟨a1,a2,H5,us,es,a3,a4,a5,a6,a7,a8,a9⟩=>⟨a1,a2,H5,us,d::es,a3,a4,a5,a6,by rw[← Nat.add_assoc];exact a7,by rw[Cm]at a8;exact a8,a9⟩
theorem Ard{P:Program}{w:World}{K:PySem.W.Frag}{mg:Str→Option Value}{base:Heap}{x qual:Str}{params:Arguments}{body:List Stmt}{scope:Scope}{dvs:List V}{kws:List (Str×V)}{f:Addr}{fd:FuncData}{N ps nms:List Str}{j n:Nat}{Ca:Addr}{l:List E}{s0:Str}{W:List Dat→(Dat→Prop)→Prop}
  (hC:∀f ds,Bj (C f ds)) (F:FunD K x qual params body scope dvs kws f fd) (S:FnScope N ps scope) (cl:ClsA K Ca nms) (few:nms.length≤1000) (ok:Wv tb ⟨N,scope,λ_=>true⟩ s0 l nms body=true) (hv:Qv ⟨N,scope,λ_=>true⟩ 0 s0=true) (hw:cc*wL l≤n)
  (hg:∀(cdv:Value) (A:Around) (outer:List PySem.Env) (s:Shared) (H:Hp),fd.code=cdv→RoomG j (A.deeper (envOfC qual scope s.heap.objs.size f cdv))→Gd tb C G cc j (cxOf CX0 P w K mg base N qual scope f cdv A outer s H λ_ _ _=>False))
  (hW:∀(ds:List Dat) (Q:Dat→Prop) (a:Nat),W ds Q→evs C G l .v (Bp N.length (.obj a []::ds)) λes=>Q (.tup es)):FnI P w K mg base j Ca nms f fd ps n W:=by
 refine⟨λA outer s H0 H args us vs ds m Φ p dx hh hdp hr t0 e0 hb r hl ne hp0 hd0 st hp hd hrep pl hWq=>Yb F S hh hdp hr e0 hb r hl λcdv s1 hcv hr1 tk I=>?_⟩;have hps:0 < ps.length:=by
  rw[← hl,Reps.length hrep];exact Nat.succ_pos _
 obtain⟨v0,vs,rfl⟩:∃v0 vs',vs=v0::vs':=by
  cases vs with
  | nil=>simp[Reps]at hrep
  | cons a b=>exact⟨_,_,rfl⟩
 have hv0:v0 = .ref p:=by
  rw[Reps,Rep]at hrep;exact(hrep.1.resolve_right λz=>z.elim (λ⟨_,_,_,h,_⟩=>h rfl) λ⟨_,_,_,_,h,_⟩=>h rfl).2
 subst hv0;have z:=Aer hC (hg cdv A outer s H hcv hr1) cl few hv ne hd0 (Ex:=λ_ _=>False) (σ:=L2.start N (.ref p::vs)) (by unfold L2.start;rfl) (δ:=Bp N.length (.obj p []::ds)) (λi d=>Io) l nms body [] [] [] s1 H 0 m _ ok rfl rfl (Ax t0 tk) I (Ox hrep (fits S hl)) st hp hd (by rw[Reps];trivial) (pl.mono (by omega)) (hW _ _ p hWq);refine wpAny_mono z (λfl s' ⟨e,t',H',us',es,J,b1,b2,b3,b4,b5,b6⟩=>?_) λ_ _ z=>z
 subst e;exact⟨.none,rfl,t',.non,H',J.os,J.bare,J.base,J.hok,rfl,rfl,b1,us',es,b2,b3,b4.mono (by omega),b5,b6⟩
end
end SF
namespace SF
open PySem PySem.Spec PyProof.Rows L2
variable[TN]
mutual
def Q4:S→Bool
 | .ret _=>false
 | .retN=>false
 | .ite _ a b=>noRets a && noRets b
 | .for _ _ b=>noRets b
 | .whl _ b=>noRets b
 | _=>true
def noRets:List S→Bool
 | []=>true
 | s::r=>Q4 s && noRets r
end
structure LeN(D D':Post):Prop where
 nx:∀ δ,D.nx δ→D'.nx δ
 bk:∀ δ,D.bk δ→D'.bk δ
 ct:∀ δ,D.ct δ→D'.ct δ
 ex:∀ δ d,D.ex δ d→D'.ex δ d
section
variable{C:Nat→List Dat→(Dat→Prop)→Prop}{G:Nat→Option Dat}
theorem V2{p:P}{b:Env→Post→Prop}(hb:∀ δ D D',LeN D D'→b δ D→b δ D'):∀(ds:List Dat) (δ:Env) (D D':Post),LeN D D'→G5 p b ds δ D→G5 p b ds δ D'
 | [],δ,D,D',l,h=>by rw[G5]at *;exact l.nx _ h
 | d::ds,δ,D,D',l,h=>by
  rw[G5]at *;refine Eu p d δ _ _ (λδ' h2=>?_) h;refine hb _ _ _ ?_ h2;exact⟨λδ z=>V2 hb ds δ D D' l z,l.nx,λδ z=>V2 hb ds δ D D' l z,l.ex⟩
theorem U4{c:Env→(Bool→Prop)→Prop}{b:Env→Post→Prop}(hc:∀ δ,Bj (c δ))(hb:∀ δ D D',LeN D D'→b δ D→b δ D'):∀(n:Nat) (δ:Env) (D D':Post),LeN D D'→Nq c b n δ D→Nq c b n δ D'
 | 0,_,_,_,_,h=>by rw[Nq]at h;exact h.elim
 | n+1,δ,D,D',l,h=>by
  rw[Nq]at *;refine hc δ _ _ (λk h=>?_) h
  split at h
  ·rename_i hk
   rw[if_pos hk];refine hb _ _ _ ?_ h;exact⟨λδ z=>U4 hc hb n δ D D' l z,l.nx,λδ z=>U4 hc hb n δ D D' l z,l.ex⟩
  ·rename_i hk
   rw[if_neg hk];exact l.nx _ h
def Aom:S→Bool
 | .ite ..=>true
 | .for ..=>true
 | .whl ..=>true
 | _=>false
theorem Et(hC:∀f ds,Bj (C f ds)){s:S}(hb:Aom s=false)(hn:Q4 s=true){δ:Env}{D D':Post}(l:LeN D D')(h:exec C G s δ D):exec C G s δ D':=by
 have h1:exec C G s δ { D with rt:=D'.rt }:=by
  cases s<;>first
   | (rw[exec]at h ⊢;exact h)
   | (simp[Aom]at hb;done)
   | (simp[Q4]at hn;done)
 exact X6 hC s δ { D with rt:=D'.rt } D' ⟨l.nx,λ_ _ z=>z,l.bk,l.ct,l.ex⟩ h1
mutual
theorem Alv(hC:∀f ds,Bj (C f ds)):∀(s:S),Q4 s=true→∀(δ:Env) (D D':Post),LeN D D'→exec C G s δ D→exec C G s δ D'
 | .ite c a b,hn,δ,D,D',l,h=>by
  rw[Q4,Yzh]at hn;rw[exec]at *;refine Ah hC c .v δ _ _ (λx h=>Cj x _ _ (λk h=>?_) h) h
  split at h
  ·rename_i hk
   rw[if_pos hk];exact rets_any hC a hn.1 _ _ _ l h
  ·rename_i hk
   rw[if_neg hk];exact rets_any hC b hn.2 _ _ _ l h
 | .for p it b,hn,δ,D,D',l,h=>by
  rw[Q4]at hn;rw[exec]at *;exact Ah hC it .i δ _ _ (λx ⟨ds,e,h⟩=>⟨ds,e,V2 (λδ D D' l h=>rets_any hC b hn δ D D' l h) ds δ D D' l h⟩) h
 | .whl c b,hn,δ,D,D',l,h=>by
  rw[Q4]at hn;rw[exec]at *;obtain⟨n,hle,h⟩:=h;exact⟨n,hle,U4 (λδ' P Q hq h=>Ah hC c .v δ' _ _ (λx h=>Cj x _ _ hq h) h) (λδ D D' l h=>rets_any hC b hn δ D D' l h) n δ D D' l h⟩
 | .ins ..,hn,δ,D,D',l,h=>Et hC rfl hn l h
 | .set ..,hn,δ,D,D',l,h=>Et hC rfl hn l h
 | .own ..,hn,δ,D,D',l,h=>Et hC rfl hn l h
 | .unp ..,hn,δ,D,D',l,h=>Et hC rfl hn l h
 | .par ..,hn,δ,D,D',l,h=>Et hC rfl hn l h
 | .frz ..,hn,δ,D,D',l,h=>Et hC rfl hn l h
 | .app ..,hn,δ,D,D',l,h=>Et hC rfl hn l h
 | .ext ..,hn,δ,D,D',l,h=>Et hC rfl hn l h
 | .pop ..,hn,δ,D,D',l,h=>Et hC rfl hn l h
 | .sto ..,hn,δ,D,D',l,h=>Et hC rfl hn l h
 | .exp ..,hn,δ,D,D',l,h=>Et hC rfl hn l h
 | .dead,hn,δ,D,D',l,h=>Et hC rfl hn l h
 | .pass,hn,δ,D,D',l,h=>Et hC rfl hn l h
 | .ret _,hn,δ,D,D',l,h=>by simp[Q4]at hn
 | .retN,hn,δ,D,D',l,h=>by simp[Q4]at hn
theorem rets_any(hC:∀f ds,Bj (C f ds)):∀(ss:List S),noRets ss=true→∀(δ:Env) (D D':Post),LeN D D'→execs C G ss δ D→execs C G ss δ D'
 | [],_,δ,D,D',l,h=>by rw[execs]at *;exact l.nx _ h
 | s::r,hn,δ,D,D',l,h=>by
  rw[noRets,Yzh]at hn;rw[execs]at *;refine Alv hC s hn.1 _ _ _ ?_ h;exact⟨λδ z=>rets_any hC r hn.2 δ D D' l z,l.bk,l.ct,l.ex⟩
end
theorem X5:∀(a b:List S) (δ:Env) (D:Post),execs C G (a++b) δ D=execs C G a δ { D with nx:=λδ'=>execs C G b δ' D }
 | [],b,δ,D=>by rw[execs];rfl
 | s::a,b,δ,D=>by
  rw[Bh,execs,execs];have e:(λδ'=>execs C G (a++b) δ' D)=λδ'=>execs C G a δ' { D with nx:=λδ'=>execs C G b δ' D }:=funext λδ'=>X5 a b δ' D
  rw[e]
end
theorem W0{M:Model}{env:PySem.Env}{Γ:PySem.Ctx}{E:Value→Pos→Shared→Prop}{Q:Flow→Pos→Shared→Prop}{R:Pos→Shared→Prop}{b:List Stmt}(hb:∀p s,R p s→Sem.wp M Γ (PySem.execs b env) Q E p s):∀(a:List Stmt) (p:Pos) (s:Shared),Sem.wp M Γ (PySem.execs a env) (λf p' s'=>(f = .next→R p' s')∧(f ≠ .next→Q f p' s')) E p s→Sem.wp M Γ (PySem.execs (a++b) env) Q E p s
 | [],p,s,h=>hb p s (h.1 rfl)
 | st::a,p,s,h=>by
  rw[execs_cons,Sem.wp_bind']at h;rw[Bh,execs_cons,Sem.wp_bind'];refine Sem.wp_mono M Γ _ (λf p' s' h'=>?_) (λ_ _ _ h'=>h') _ _ h
  cases f with
  | next=>exact W0 hb a p' s' h'
  | _=>exact h'.2 (λe=>nomatch e)
theorem Yj{M:Model}{A:Around}{env:PySem.Env}{E:Value→Shared→Prop}{Q:Flow→Shared→Prop}{a b:List Stmt}{s:Shared}(h:wpAny M A (PySem.execs a env) (λf s'=>match f with | .next=>wpAny M A (PySem.execs b env) Q E s'|f=>Q f s') E s):wpAny M A (PySem.execs (a++b) env) Q E s:=λΓ p hΓ=>
 W0 (R:=λ_ s'=>wpAny M A (PySem.execs b env) Q E s') (λp s z=>z Γ p hΓ) a p s (Sem.wp_mono M Γ _ (λf p' s' h'=>by
  cases f with
  | next=>exact⟨λ_=>h',λe=>absurd rfl e⟩
  | _=>exact⟨λe=>(nomatch e),λ_=>h'⟩) (λ_ _ _ h'=>h') _ _ (h Γ p hΓ))
theorem Arb{P:Program}{w:World}{K:PySem.W.Frag}{mg:Str→Option Value}{base:Heap}{x qual:Str}{params:Arguments}{body pb:List Stmt}{scope:Scope}{dvs:List V}{kws:List (Str×V)}{f:Addr}{fd:FuncData}{N ps:List Str}{k n j:Nat}{y:Str}{yp rp:Pos}{W:List Dat→(Dat→Prop)→Prop}
  (F:FunD K x qual params body scope dvs kws f fd) (S:FnScope N ps scope) (hbd:body=pb++[.Return (some (.Name y yp)) rp]) (hy:Qv ⟨N,scope,λ_=>true⟩ j y=true)
  (hbody:∀(cdv:Value) (A:Around) (outer:List PySem.Env) (s:Shared) (H:Hp),fd.code=cdv→RoomG k (A.deeper (envOfC qual scope s.heap.objs.size f cdv)) →
   ∃Fb,QS (cxOf CX0 P w K mg base N qual scope f cdv A outer s H λ_ _ _=>False) pb n Fb∧∀ds Φ,W ds Φ→Fb (Bp N.length ds) { nx:=λδ=>∃d,δ[j]? = some (.own d)∧(∀c l,d ≠ .obj c l)∧Φ d,rt:=λ_ _=>False }) :
  FnR P w K mg base (k+1) f fd ps n W:=by
 subst hbd;refine⟨λA outer s H args us vs ds m Φ hr t0 e0 hb r hl hrep pl hW=>Jf F S hr e0 hb r hl λcdv s1 hcv hr1 tk I=>?_⟩;obtain⟨Fb,hQ,hFb⟩:=hbody cdv A outer s H hcv hr1;refine Yj (thn (hQ _ PassesOwn.never [] s1 (L2.start N vs) H H _ m _ (Ax t0 tk) I (Ly hrep (fits S hl)) (Ext.refl H) pl (hFb ds Φ hW)) λfl s2 hs=>?_);obtain⟨t2,hs⟩:=hs
 cases fl with
 | brk=>obtain⟨_,_,_,_,_,_,z⟩:=hs;exact z.elim
 | cont=>obtain⟨_,_,_,_,_,_,z⟩:=hs;exact z.elim
 | ret u=>obtain⟨_,_,_,_,_,_,_,_,_,_,z⟩:=hs;exact z.elim
 | next=>
  obtain⟨σ',H',δ',J,es,st,d,hδ,no,hq⟩:=hs;obtain⟨a,ha,ow⟩:=(es.rep.2 j _ hδ).ownAt;obtain⟨e1,e2,e3,e4⟩:=Kc (X:=cxOf CX0 P w K mg base N qual scope f cdv A outer s H λ_ _ _=>False) hy;refine wpAny_execs_cons (wpAny_Return_some (Je e1 e2 e3 e4 J ha ?_));exact⟨_,rfl,t2,.ref a,H',J.os,J.bare,J.base,J.hok,rfl,d,⟨st.ext,st.pot⟩,.inl ⟨a,rfl,es.fresh j _ a hδ ha,ow.plain no⟩,hq⟩
end SF
namespace SF
open PySem PySem.Spec PyProof.Rows L2
variable[TN]
def Jh:Nat:=2 ^ 400
def Ma(N ps:List Str)(sc:Scope):Bool:=
 sc.kind == .function && !sc.isCoroutine && !sc.isGenerator && decide N.Nodup && decide (N.take ps.length=ps) && (ps.all λx=>sc.names.lookup x == some .local || sc.names.lookup x == some .cell) && sc.names.all λy=>!(y.2 == .free)
theorem Fj{N ps:List Str}{sc:Scope}(h:Ma N ps sc=true):FnScope N ps sc:=by
 unfold Ma at h;simp only[Yzh,beq_iff_eq,Bf,decide_eq_true_eq,Ai,Es,beq_eq_false_iff_ne,ne_eq]at h;obtain⟨⟨⟨⟨⟨⟨h1,h2⟩,h3⟩,h4⟩,h5⟩,h6⟩,h7⟩:=h;exact⟨h1,h2,h3,h4,h5,h6,h7⟩
def DI.ok(tb:Tb)(i:DI):Bool:=Ma i.N i.ps i.scope && chkSs tb i.d.body ⟨i.N,i.scope,λ_=>true⟩ i.body && i.d.np == i.ps.length && i.d.nn == i.N.length && Jz (wSs i.d.body) Jh
def DI.okO(tb:Tb)(o:Option Nat)(i:DI):Bool:=match o with
 | none=>i.ok tb
 | some p=>Ma i.N i.ps i.scope && Aor tb i.d.body ⟨i.N,i.scope,λ_=>true⟩ i.body && i.d.np == i.ps.length && i.d.nn == i.N.length && Jz (wSs i.d.body) Jh && decide (p < 16)
def DI.okX(tb:Tb)(i:DI):Bool:=Ma i.N i.ps i.scope && Aoq tb i.d.body ⟨i.N,i.scope,λ_=>true⟩ i.body && i.d.np == i.ps.length && i.d.nn == i.N.length && Jz (wSs i.d.body) Jh
def DI.okR(tb:Tb)(i:DI):Bool:=Ma i.N i.ps i.scope && (i.d.nn == i.N.length && (match i.d.body.reverse,i.body.reverse with
 | .ret (.var j) :: .frz j'::pre,.Return (some (.Name x _)) _::pb=>j == j' && (Qv ⟨i.N,i.scope,λ_=>true⟩ j x && (noRets pre.reverse && (chkSs tb pre.reverse ⟨i.N,i.scope,λ_=>true⟩ pb.reverse && Jz (wSs pre.reverse) Jh)))
 | _,_=>false))
def Tb.withLam(tb:Tb)(b:Bool):Tb:={ tb with lam:=b }
def DI.okI(tb:Tb)(fs:List Str)(i:DI):Bool:=match i.d.body with
 | [.dead,.ret (.tup l)]=>Ma i.N i.ps i.scope && (Wv (tb.withLam false) ⟨i.N,i.scope,λ_=>true⟩ (i.N.getD 0 "") l fs i.body && (Qv ⟨i.N,i.scope,λ_=>true⟩ 0 (i.N.getD 0 "") && (Jz 1 i.ps.length && (i.d.nn == i.N.length && (Jz fs.length 1000 && Jz (wL l) Jh)))))
 | _=>false
structure DK where
 own:Option Nat:=none
 xm:Bool:=false
 lam:Bool:=false
def DI.okK(tb:Tb)(q:DK)(i:DI):Bool:=if q.xm=true then q.own.isNone && i.okX (tb.withLam q.lam)else i.okO (tb.withLam q.lam) q.own
section
variable{P:Program}{w:World}{K:PySem.W.Frag}{mg:Str→Option Value}{base:Heap}{tb:Tb}{T:List FDef}{G:Nat→Option Dat}{prim:Nat→Option (List Dat→(Dat→Prop)→Prop)}
theorem FnG.mono{k k':Nat}{f:Addr}{fd:FuncData}{ps:List Str}{n n':Nat}{W:List Dat→(Dat→Prop)→Prop}(F:FnG P w K mg base k f fd ps n W)(hk:k≤k')(hn:n≤n'):FnG P w K mg base k' f fd ps n' W:=
 ⟨λA outer s H args us vs ds m Φ hr t e0 hb r hl hrep pl hW=>codeAny_mono (F.run A outer s H args us vs ds m Φ (hr.mono hk) t e0 hb r hl hrep (pl.mono (by omega)) hW) λr s' ⟨u,e,t',v,H',h1,h2,h3,h4,h5,d,st,h6,h7⟩=>⟨u,e,t',v,H',h1,h2,h3,h4,h5,d,st.mono hn,h6,h7⟩⟩
def An8(mg:Str→Option Value)(base:Heap)(qual:Str)(scope:Scope)(a:Addr)(fd:FuncData):Prop:=∃c Pt,fd.code = .ref c∧LamX.TabB base mg c Pt∧(Pt,(envOfC qual scope 0 a .none).qual ++ "<lambda>")∈TN.tabs∧∀p∈TN.tabs,p.1=Pt→p.2=(envOfC qual scope 0 a .none).qual ++ "<lambda>"
structure Told(P:Program)(w:World)(K:PySem.W.Frag)(mg:Str→Option Value)(base:Heap)(tb:Tb)(T:List FDef)(prim:Nat→Option (List Dat→(Dat→Prop)→Prop))(f:Nat)(x:Str):Prop where
 ex : ∃(a:Addr) (fd:FuncData) (ps:List Str),Kg K mg tb f x a∧PySem.W.keepIn K (.ref a)=true∧(∀ss,tb.shp[f]? = some ss→∀q∈ss,Gf ⟨K,P,w⟩ fd ps q.1 q.2.1 q.2.2) ∧
  ((∃p,prim f=some p∧(∀q,(f,q)∉tb.own)∧f∉tb.xm∧f∉tb.tol∧FnG P w K mg base 1 a fd ps 1 p) ∨
   (prim f=none∧∃(i:DI) (params:Arguments) (qual:Str) (dvs:List V) (kws:List (Str×V)),FunD K i.name qual params i.body i.scope dvs kws a fd∧ps=i.ps∧T[f]? = some i.d∧∃q:DK,(∀p,(f,p)∈tb.own→q.own=some p∧q.xm=false)∧(f∈tb.xm→q.xm=true) ∧
    (f∈tb.tol→q.xm=true∧i.ps.length=1∧∀(s:Shared) (u:Value),K.In s.heap→BindsTo s fd ⟨[u],[]⟩ (i.ps.zip [u]))∧(q.lam=true→An8 mg base qual i.scope a fd)∧i.okK tb q=true∧(f∈tb.rs→i.okR (tb.withLam q.lam)=true)) ∨
   (prim f=none∧(∀q,(f,q)∉tb.own)∧f∉tb.xm∧f∉tb.tol∧∃d l,T[f]? = some d∧d.body=S.dead::l))
theorem Ai6(k:Nat):1≤Jh ^ k:=Nat.one_le_pow _ _ (by unfold Jh;exact Nat.pow_pos (by decide))
theorem Aj6(fnv:∀(f:Nat) (d:Dat),G (1000000+f)=some d→∃x a fd',tb.fns[f]? = some x∧tb.isM f=false∧mg x=some (.ref a)∧d = .obj a []∧prim f=none∧T[f]? = some fd'∧∃ss,tb.shp[f]? = some ss∧(fd'.np,[],Hj fd'.np)∈ss)(k:Nat) :
  ∀(f:Nat) (d:Dat),G (1000000+f)=some d→∃x a n,tb.fns[f]? = some x∧tb.isM f=false∧mg x=some (.ref a)∧d = .obj a []∧(∀ds Q,Bg T G prim k f ds Q→ds.length=n)∧∃ss,tb.shp[f]? = some ss∧(n,[],Hj n)∈ss:=λf d h=>by
 obtain⟨x,a,fd,h1,hM,h2,h3,h4,h5,h6⟩:=fnv f d h;refine⟨x,a,fd.np,h1,hM,h2,h3,λds Q q=>?_,h6⟩
 cases k with
 | zero=>rw[Bg]at q;exact q.elim
 | succ k=>
  rw[Bg,h4,h5]at q;exact q.1
structure FarAt(T:List FDef)(prim:Nat→Option (List Dat→(Dat→Prop)→Prop)):Prop where
 pr:∀f,1000000≤f→prim f=none
 tl:∀f:Nat,1000000≤f→T[f]? = none
theorem Akl{f p:Nat}{d:FDef}{k:Nat}{ds:List Dat}{Q:Dat→Prop}(hp:p < 16)(hf:f < 60000)(far:FarAt T prim)(h3:T[f]? = some d)(h:Bg T G prim (k+1) (4000000+16*f+p) ds Q) :
  ds.length=d.np∧∃l,ds[p]? = some (.lst l)∧execs (Bg T G prim k) G d.body ((Bp d.nn ds).set p (.own (.lst l))) { nx:=λ_=>False,rt:=λδ r=>∃y,δ[p]? = some (.own (.lst y))∧Q (.tup [r,.lst y]) }:=by
 have e1:(4000000+16*f+p - 4000000) / 16=f:=by omega
 have e2:(4000000+16*f+p - 4000000) % 16=p:=by omega
 rw[Bg,far.pr _ (by omega),far.tl _ (by omega)]at h;dsimp only at h;rw[if_pos (by omega),e1,e2,h3]at h;exact h.2
theorem Aki{f:Nat}{d:FDef}{k:Nat}{ds:List Dat}{Q:Dat→Prop}(far:FarAt T prim)(h3:T[f]? = some d)(h:Bg T G prim (k+1) (6000000+f) ds Q) :
  ds.length=d.np∧execs (Bg T G prim k) G d.body (Bp d.nn ds) { nx:=λ_=>Q (.tup [.non]),rt:=λ_ r=>Q (.tup [r]),ex:=λ_=>Q }:=by
 rw[Bg,far.pr _ (by omega),far.tl _ (by omega)]at h;dsimp only at h;have hf:f < 1000000:=by
  rcases Nat.lt_or_ge f 1000000 with z|z
  ·exact z
  ·rw[far.tl f z]at h3;cases h3
 rw[if_neg (by omega),if_neg (by omega),if_neg (by omega),if_neg (by omega),Bm,h3]at h;exact h
theorem Akk{f:Nat}{d:FDef}{k:Nat}{ds:List Dat}{Q:Dat→Prop}(far:FarAt T prim)(h3:T[f]? = some d)(h:Bg T G prim (k+1) (12000000+f) ds Q) :
  ds.length=d.np∧execs (Bg T G prim k) G d.body (Bp d.nn ds) { nx:=λ_=>Q .non,rt:=λ_=>Q }:=by
 rw[Bg,far.pr _ (by omega),far.tl _ (by omega)]at h;dsimp only at h;rw[if_neg (by omega),if_neg (by omega),if_pos (by omega),if_pos (by omega),Bm,h3]at h;exact h
theorem Abq{f:Nat}{d:FDef}{k:Nat}{ds:List Dat}{Q:Dat→Prop}(far:FarAt T prim)(h3:T[f]? = some d)(h:Bg T G prim (k+1) (8000000+f) ds Q) :
  ds.length+1=d.np∧∀a:Nat,execs (Bg T G prim k) G (d.body.drop 1) (Bp d.nn (.obj a []::ds)) { nx:=λ_=>False,rt:=λ_=>Q }:=by
 have hf:¬ 1000000≤f:=λz=>by rw[far.tl f z]at h3;cases h3
 rw[Bg,far.pr _ (by omega),far.tl _ (by omega)]at h;dsimp only at h;rw[if_neg (by omega),if_neg (by omega),if_neg (by omega),if_pos (by omega),Bm,h3]at h;exact h
theorem Akj{g f:Nat}{d:FDef}{k:Nat}{ds:List Dat}{Q:Dat→Prop}(far:FarAt T prim)(hf:f < 4096)(hg:g < 200)(h3:T[g]? = some d)(h:Bg T G prim (k+1) (5000000+4096*g+f) ds Q) :
  d.np=1∧∀a:Nat,execs (λf' ds' Q'=>(f'=7000000∧ds'=[.obj a []]∧Bg T G prim k (6000000+f) ds Q')∨(f'≠7000000∧Bg T G prim k f' ds' Q')) G d.body (Bp d.nn [.obj a []]) { nx:=λ_=>Q .non,rt:=λ_=>Q }:=by
 have e1:(5000000+4096*g+f - 5000000) / 4096=g:=by omega
 have e2:(5000000+4096*g+f - 5000000) % 4096=f:=by omega
 rw[Bg,far.pr _ (by omega),far.tl _ (by omega)]at h;dsimp only at h;rw[if_neg (by omega),if_pos (by omega),e1,e2,h3]at h;exact h
theorem Agx{k:Nat}{ds:List Dat}{Q:Dat→Prop}(far:FarAt T prim)(h:Bg T G prim k 7000000 ds Q):False:=by
 cases k with
 | zero=>rw[Bg]at h;exact h
 | succ k=>
  rw[Bg,far.pr _ (by omega),far.tl _ (by omega)]at h;dsimp only at h;rw[if_neg (by omega),if_neg (by omega),if_neg (by omega),if_neg (by omega),far.tl _ (by omega)]at h;exact h
section
variable{k n:Nat}{f:Addr}{fd:FuncData}{ps:List Str}{W W':List Dat→(Dat→Prop)→Prop}
theorem FnG.imp(F:FnG P w K mg base k f fd ps n W)(h:∀ds Φ,W' ds Φ→W ds Φ):FnG P w K mg base k f fd ps n W':=
 ⟨λA outer s H args us vs ds m Φ hr t e0 hb r hl hrep pl hW=>F.run A outer s H args us vs ds m Φ hr t e0 hb r hl hrep pl (h _ _ hW)⟩
theorem FnX.imp(F:FnX P w K G mg base k f fd ps n W)(h:∀ds Φ,W' ds Φ→W ds Φ):FnX P w K G mg base k f fd ps n W':=
 ⟨λA outer s H args us vs ds m Φ hr t e0 hb r hl hrep pl hW=>F.run A outer s H args us vs ds m Φ hr t e0 hb r hl hrep pl (h _ _ hW)⟩
theorem FnO.imp{p:Nat}(F:FnO P w K mg base k f fd ps n p W)(h:∀ds Φ,W' ds Φ→W ds Φ):FnO P w K mg base k f fd ps n p W':=
 ⟨λA outer s H args us vs ds m Φ a xs l hr t e0 hb r hl hrep g1 g2 g3 g4 pl hW=>F.run A outer s H args us vs ds m Φ a xs l hr t e0 hb r hl hrep g1 g2 g3 g4 pl (h _ _ hW)⟩
theorem FnT.imp{ft:Nat}(F:FnT P w K mg base tb G ft k f fd ps n W)(h:∀ds Φ,W' ds Φ→W ds Φ):FnT P w K mg base tb G ft k f fd ps n W':=
 ⟨λA outer s H args lam m Φ ds hr t e0 hb hps pl lo hW=>F.run A outer s H args lam m Φ ds hr t e0 hb hps pl lo (h _ _ hW)⟩
end
structure AllOk(P:Program)(w:World)(K:PySem.W.Frag)(mg:Str→Option Value)(base:Heap)(tb:Tb)(G:Nat→Option Dat)(C:Nat→List Dat→(Dat→Prop)→Prop)(cc k:Nat):Prop where
 fns:∀(f:Nat) (x:Str),tb.fns[f]? = some x→∃a fd ps,Kg K mg tb f x a∧PySem.W.keepIn K (.ref a)=true∧FnG P w K mg base k a fd ps cc (C f)∧∀ss,tb.shp[f]? = some ss→∀q∈ss,Gf ⟨K,P,w⟩ fd ps q.1 q.2.1 q.2.2
 owns:∀(f p:Nat) (x:Str),(f,p)∈tb.own→tb.fns[f]? = some x→∃a fd ps,Kg K mg tb f x a∧PySem.W.keepIn K (.ref a)=true∧FnO P w K mg base k a fd ps cc p (C (4000000+16*f+p))∧∀ss,tb.shp[f]? = some ss→∀q∈ss,Gf ⟨K,P,w⟩ fd ps q.1 q.2.1 q.2.2
 xfn:∀(f:Nat) (x:Str),f∈tb.xm→tb.fns[f]? = some x→∃a fd ps,Kg K mg tb f x a∧PySem.W.keepIn K (.ref a)=true∧FnX P w K G mg base k a fd ps cc (C (6000000+f))∧∀ss,tb.shp[f]? = some ss→∀q∈ss,Gf ⟨K,P,w⟩ fd ps q.1 q.2.1 q.2.2
 low:∀(f:Nat) (x:Str),tb.fns[f]? = some x→∃a fd ps,Kg K mg tb f x a∧PySem.W.keepIn K (.ref a)=true∧(∀ds Q,C (10000000+f) ds Q→∃(j:Nat) (W:List Dat→(Dat→Prop)→Prop),k=j+1∧FnG P w K mg base j a fd ps cc W∧W ds Q)∧∀ss,tb.shp[f]? = some ss→∀q∈ss,Gf ⟨K,P,w⟩ fd ps q.1 q.2.1 q.2.2
 tol:∀(g f:Nat) (x:Str),g∈tb.tol→f∈tb.xm→f < 4096→tb.fns[g]? = some x→∃a fd ps,Kg K mg tb g x a∧PySem.W.keepIn K (.ref a)=true∧ps.length=1∧(∀(s:Shared) (u:Value),K.In s.heap→BindsTo s fd ⟨[u],[]⟩ (ps.zip [u]))∧FnT P w K mg base tb G f k a fd ps cc (C (5000000+4096*g+f))
 ini:∀(c f:Nat) (q:Str×List Str) (p:Nat) (ns:List Dat),(c,f)∈tb.inis→tb.cls[c]? = some q→G (500000+c)=some (.obj p ns)→∃fi fd ps np,Mk K p fi∧np+1=ps.length∧Gf ⟨K,P,w⟩ fd ps (np+1) [] (Hj (np+1))∧∀ds Q,C (8000000+f) ds Q→ds.length=np∧∃(j:Nat) (W:List Dat→(Dat→Prop)→Prop),k=j+1∧FnI P w K mg base j p q.2 fi fd ps cc W∧W ds Q
 rfn:∀(f:Nat) (x:Str),f∈tb.rs→tb.fns[f]? = some x→∃a fd ps,Kg K mg tb f x a∧PySem.W.keepIn K (.ref a)=true∧FnR P w K mg base k a fd ps cc (C (12000000+f))∧∀ss,tb.shp[f]? = some ss→∀q∈ss,Gf ⟨K,P,w⟩ fd ps q.1 q.2.1 q.2.2
structure Known(P:Program)(w:World)(K:PySem.W.Frag)(mg:Str→Option Value)(base:Heap)(tb:Tb)(T:List FDef)(G:Nat→Option Dat)(prim:Nat→Option (List Dat→(Dat→Prop)→Prop)):Prop where
 mono:∀f p,prim f=some p→∀ds,Bj (p ds)
 told:∀(f:Nat) (x:Str),tb.fns[f]? = some x→Told P w K mg base tb T prim f x
 fre:∀x∈tb.fre,mg x=none
 glo:∀(i:Nat) (x:Str) (d:Dat),tb.gl[i]? = some x→G i=some d→∃u v,mg x=some u∧L2.RelV v u∧∀H,Rep ⟨K,P,w⟩ H v d
 sys:Kw K
 fnv:∀(f:Nat) (d:Dat),G (1000000+f)=some d→∃x a fd',tb.fns[f]? = some x∧tb.isM f=false∧mg x=some (.ref a)∧d = .obj a []∧prim f=none∧T[f]? = some fd'∧∃ss,tb.shp[f]? = some ss∧(fd'.np,[],Hj fd'.np)∈ss
 mfn:∀(f c:Nat) (m:Str),(f,c,m)∈tb.ms→∃x,tb.fns[f]? = some x
 cls:Ar0 P w K mg base tb G
 xcl:ClsX P w K mg base tb G
 far:FarAt T prim
 few:tb.fns.length≤150
 xin:∀f∈tb.xm,∃x,tb.fns[f]? = some x
 o16:∀f p,(f,p)∈tb.own→p < 16
 rsn:∀f∈tb.rs,prim f=none∧∀d,T[f]? = some d→∀l,d.body≠S.dead::l
 ini:∀(c f:Nat) (q:Str×List Str) (p:Nat) (ns:List Dat),(c,f)∈tb.inis→tb.cls[c]? = some q→G (500000+c)=some (.obj p ns)→∃(fi:Addr) (fd:FuncData) (np:Nat) (i:DI) (params:Arguments) (qual:Str) (dvs:List V) (kws:List (Str×V)),Mk K p fi∧FunD K i.name qual params i.body i.scope dvs kws fi fd∧np+1=i.ps.length∧i.d.np=np+1∧Gf ⟨K,P,w⟩ fd i.ps (np+1) [] (Hj (np+1))∧T[f]? = some i.d∧i.okI tb q.2=true
theorem Q9{C:Nat→List Dat→(Dat→Prop)→Prop}{cc k:Nat}(h:Known P w K mg base tb T G prim)(a:AllOk P w K mg base tb G C cc k)(hv:∀(f:Nat) (d:Dat),G (1000000+f)=some d→∃x a n,tb.fns[f]? = some x∧tb.isM f=false∧mg x=some (.ref a)∧d = .obj a []∧(∀ds Q,C f ds Q→ds.length=n)∧∃ss,tb.shp[f]? = some ss∧(n,[],Hj n)∈ss)
  {CXx:CXT} {N ps:List Str} {qual:Str} {scope:Scope} {fa:Addr} {cdv:Value} {fd:FuncData} {A:Around} {outer:List PySem.Env} {s:Shared} {H:Hp} {E:XK} {lm:Bool} (S:FnScope N ps scope) (hcv:fd.code=cdv) (hlm:lm=true→An8 mg base qual scope fa fd) (hr:RoomG k (A.deeper (envOfC qual scope s.heap.objs.size fa cdv))) :
  Gd (tb.withLam lm) C G cc k (cxOf CXx P w K mg base N qual scope fa cdv A outer s H E):=by
 refine⟨rfl,S.nd,hr,S.kind,h.fre,h.glo,a.fns,h.sys,hv,h.mfn,h.cls,a.owns,⟨h.xcl.at_,h.xcl.of,h.xcl.sub,h.xcl.ve⟩,a.xfn,λe=>?_,a.low,λg f x h1 h2 h3 h4=>?_,a.ini,a.rfn⟩
 ·obtain⟨c,Pt,e1,e2,e3,e4⟩:=hlm e
  exact⟨c,Pt,by rw[← e1,hcv]<;>rfl,e2,e3,e4⟩
 ·obtain⟨a',fd',ps',h5,h6,h7,h8,F⟩:=a.tol g f x h1 h2 h3 h4
  exact⟨a',fd',ps',h5,h6,h7,h8,⟨F.run⟩⟩
theorem An1(h:Known P w K mg base tb T G prim):∀k:Nat,AllOk P w K mg base tb G (Bg T G prim k) (Jh ^ k) k:=by
 intro k
 induction k with
 | zero=>
  refine⟨λf x hx=>?_,λf p x ho hx=>?_,λf x hf hx=>?_,λf x hx=>by
   obtain⟨a,fd,ps,h1,h2,h3,_⟩:=(h.told f x hx).ex;exact⟨a,fd,ps,h1,h2,λds Q hq=>by rw[Bg]at hq;exact hq.elim,h3⟩,λg f x hg hf hl hx=>?_,λc f q p ns hi hq hG=>by
   obtain⟨fi,fd,np,i,_,_,_,_,M,_,hnp,_,hb,_⟩:=h.ini c f q p ns hi hq hG;exact⟨fi,fd,i.ps,np,M,hnp,hb,λds Q hq=>by rw[Bg]at hq;exact hq.elim⟩,λf x hf hx=>by
   obtain⟨a,fd,ps,h1,h2,h3,_⟩:=(h.told f x hx).ex;exact⟨a,fd,ps,h1,h2,⟨λA outer s H args us vs ds m Φ hr t e0 hb r hl hrep pl hW=>by rw[Bg]at hW;exact hW.elim⟩,h3⟩⟩
  ·obtain⟨a,fd,ps,h1,h2,h3,_⟩:=(h.told f x hx).ex
   exact⟨a,fd,ps,h1,h2,⟨λA outer s H args us vs ds m Φ hr t e0 hb r hl hrep pl hW=>by rw[Bg]at hW;exact hW.elim⟩,h3⟩
  ·obtain⟨a,fd,ps,h1,h2,h3,_⟩:=(h.told f x hx).ex
   exact⟨a,fd,ps,h1,h2,⟨λA outer s H args us vs ds m Φ a xs l hr t e0 hb r hl hrep g1 g2 g3 g4 pl hW=>by rw[Bg]at hW;exact hW.elim⟩,h3⟩
  ·obtain⟨a,fd,ps,h1,h2,h3,_⟩:=(h.told f x hx).ex
   exact⟨a,fd,ps,h1,h2,⟨λA outer s H args us vs ds m Φ hr t e0 hb r hl hrep pl hW=>by rw[Bg]at hW;exact hW.elim⟩,h3⟩
  ·obtain⟨a,fd,ps,h1,h2,h3,h4⟩:=(h.told g x hx).ex
   rcases h4 with⟨_,_,_,_,no,_⟩|⟨_,i,_,_,_,_,F,rfl,hT,q,_,_,ht,_,_⟩|⟨_,_,_,no,_⟩
   ·exact absurd hg no
   ·exact⟨a,fd,_,h1,h2,(ht hg).2.1,(ht hg).2.2,⟨λA outer s H args lam m Φ ds hr t e0 hb hps pl lo hW=>by rw[Bg]at hW;exact hW.elim⟩⟩
   ·exact absurd hg no
 | succ k ih=>
  have hC:∀f ds,Bj (Bg T G prim k f ds):=λf ds=>Dj h.mono k f ds
  have hv:=Aj6 h.fnv k;have noask:∀{CXx:CXT} {N:List Str} {qual:Str} {scope:Scope} {fa:Addr} {cdv:Value} {A:Around} {outer:List PySem.Env} {s:Shared} {H:Hp} {E:XK},AskX (cxOf CXx P w K mg base N qual scope fa cdv A outer s H E) G (Bg T G prim k) (Jh ^ k):=
   λ_ _ _ _ _ _ _ _ _ _ _ _ _ hc=>(Agx h.far hc).elim
  have look:∀{f:Nat} {x:Str},tb.fns[f]? = some x→f < 150:=λ{f x} hx=>Ax (Ag.mp hx).1 h.few
  refine⟨λf x hx=>?_,λf p x ho hx=>?_,λf x hf hx=>?_,λf x hx=>by
   obtain⟨a,fd,ps,h1,h2,F,h3⟩:=ih.fns f x hx;refine⟨a,fd,ps,h1,h2,λds Q hq=>⟨k,Bg T G prim k f,rfl,F.mono (Aa k) (Fe (by decide) (Mv k)),?_⟩,h3⟩;rw[Bg,h.far.pr _ (by omega),h.far.tl _ (by omega)]at hq;dsimp only at hq;rw[if_neg (by omega),if_neg (by omega),if_pos (by omega),if_neg (by have:=look hx;omega),Bm]at hq;exact hq,λg f x hg hf hl hx=>?_,λc f q p ns hi hq hG=>by
   obtain⟨fi,fd,np,i,params,qual,dvs,kws,M,F,hnp,hdn,hb,hT,ok⟩:=h.ini c f q p ns hi hq hG;have cl:=(h.cls.1 c p ns q hq hG).2.2.1;unfold DI.okI at ok
   split at ok
   ·rename_i l hbd
    simp only[Yzh,beq_iff_eq]at ok;obtain⟨o1,o2,o3,o4,o5,o6,o7⟩:=ok;have S:=Fj o1;have hw:wL l≤Jh:=Bc o7;refine⟨fi,fd,i.ps,np,M,hnp,hb,λds Q hc=>⟨by have:=(Abq h.far hT hc).1;omega,k,Bg T G prim (k+1) (8000000+f),rfl,Ard (cc:=Jh ^ k) hC F S cl (Bc o6) o2 o3 (by rw[Ft];exact Cd _ hw) (λcdv A outer s H hcv hr=>Q9 (lm:=false) h ih hv S hcv (λe=>nomatch e) hr) λds Q a hc=>?_,hc⟩⟩;have z:=(Abq h.far hT hc).2 a;rw[hbd]at z;have z:execs (Bg T G prim k) G [SF.S.ret (.tup l)] _ _:=z;rw[execs,exec,ev,o5]at z;exact z
   ·(cases ok),λf x hf hx=>by
   obtain⟨a,fd,ps,h1,h2,h3,h4⟩:=(h.told f x hx).ex;refine⟨a,fd,ps,h1,h2,?_,h3⟩;obtain⟨n1,n2⟩:=h.rsn f hf
   rcases h4 with⟨p,hpr,_⟩|⟨hpr,i,params,qual,dvs,kws,F,rfl,hT,q,_,_,_,hlm,_,ok⟩|⟨hpr,_,_,_,d,l,hT,hbd⟩
   ·rw[n1]at hpr;cases hpr
   ·have ok:=ok hf
    unfold DI.okR at ok;simp only[Yzh,beq_iff_eq]at ok;obtain⟨o1,o4,ok⟩:=ok;have S:=Fj o1
    split at ok
    ·rename_i j j' pre y yp rp pb e1 e2
     simp only[Yzh,beq_iff_eq]at ok;obtain⟨rfl,o2,o3,o5,o6⟩:=ok;have b1:i.d.body=pre.reverse++[.frz j,.ret (.var j)]:=by
      have:=congrArg List.reverse e1;rw[List.reverse_reverse]at this;rw[this];simp
     have b2:i.body=pb.reverse++[.Return (some (.Name y yp)) rp]:=by
      have:=congrArg List.reverse e2;rw[List.reverse_reverse]at this;rw[this];simp
     have hw:wSs pre.reverse≤Jh:=Bc o6;refine Arb F S b2 o2 λcdv A outer s H hcv hr=>⟨execs (Bg T G prim k) G pre.reverse,?_,λds Φ hW=>?_⟩
     ·exact(ss_all hC (Q9 h ih hv S hcv hlm hr) pre.reverse pb.reverse o5).cg (by rw[Ft];exact Cd _ hw) λδ D q=>q
     ·have z:=(Akk h.far hT hW).2
      rw[b1,X5,o4]at z;refine rets_any hC _ o3 _ _ _ ?_ z;refine⟨λδ z=>?_,λ_ z=>z,λ_ z=>z,λ_ _ z=>z⟩;dsimp only at z ⊢;rw[execs,exec]at z;unfold Dy at z
      split at z
      ·rename_i d hd
       dsimp only at z;rw[execs,exec,ev]at z;unfold Du at z;have hδ:=Ja hd;rw[List.getElem?_set_self (Ag.mp hδ).1]at z;exact⟨d,hδ,Y5 hd,z⟩
      ·exact z.elim
    ·cases ok
   ·exact absurd hbd (n2 _ hT l)⟩
  ·obtain⟨a,fd,ps,h1,h2,h3,h4⟩:=(h.told f x hx).ex
   refine⟨a,fd,ps,h1,h2,?_,h3⟩
   rcases h4 with⟨p,hpr,_,_,_,F⟩|⟨hpr,i,params,qual,dvs,kws,F,rfl,hT,q,_,_,_,hlm,ok,_⟩|⟨hpr,_,_,_,d,l,hT,hbd⟩
   ·refine⟨λA outer s H args us vs ds m Φ hr t e0 hb r hl hrep pl hW=>?_⟩
    rw[Bg,hpr]at hW;exact(F.mono (show 1≤k+1 by omega) (Ai6 (k+1))).run A outer s H args us vs ds m Φ hr t e0 hb r hl hrep pl hW
   ·unfold DI.okK at ok
    split at ok
    ·rw[Yzh]at ok
     have ok:=ok.2;unfold DI.okX at ok;simp only[Yzh,beq_iff_eq]at ok;obtain⟨⟨⟨⟨o1,o2⟩,o3⟩,o4⟩,o5⟩:=ok;have S:=Fj o1;have hw:wSs i.d.body≤Jh:=Bc o5;refine Ani (G:=G) F S λcdv A outer s H hcv hr=>⟨execs (Bg T G prim k) G i.d.body,?_,λds Φ hW=>?_⟩
     ·exact(Ab6 hC i.d.body _ (Q9 h ih hv S hcv hlm hr) noask ⟨rfl,rfl,rfl⟩ i.body o2).cg (by rw[Ft];exact Cd _ hw) λδ D q=>q
     ·rw[Bg,hpr,hT]at hW
      rw[← o4];exact hW.2
    ·cases hq:q.own with
     | none=>
      rw[hq]at ok;have ok:i.ok (tb.withLam q.lam)=true:=ok;unfold DI.ok at ok;simp only[Yzh,beq_iff_eq]at ok;obtain⟨⟨⟨⟨o1,o2⟩,o3⟩,o4⟩,o5⟩:=ok;have S:=Fj o1;have hw:wSs i.d.body≤Jh:=Bc o5;refine Arf F S λcdv A outer s H hcv hr=>⟨execs (Bg T G prim k) G i.d.body,?_,λds Φ hW=>?_⟩
      ·exact(ss_all hC (Q9 h ih hv S hcv hlm hr) i.d.body i.body o2).cg (by rw[Ft];exact Cd _ hw) λδ D q=>q
      ·rw[Bg,hpr,hT]at hW
       rw[← o4];exact hW.2
     | some p=>
      rw[hq]at ok;unfold DI.okO at ok;simp only[Yzh,beq_iff_eq]at ok;obtain⟨⟨⟨⟨⟨o1,o2⟩,o3⟩,o4⟩,o5⟩,_⟩:=ok;have S:=Fj o1;have hw:wSs i.d.body≤Jh:=Bc o5;refine Anj (p:=p) F S λcdv A outer s H hcv hr=>⟨execs (Bg T G prim k) G i.d.body,?_,λds Φ hW=>?_⟩
      ·exact(Ahq hC (Q9 h ih hv S hcv hlm hr) i.d.body i.body o2).cg (by rw[Ft];exact Cd _ hw) λδ D q=>q
      ·rw[Bg,hpr,hT]at hW
       rw[← o4];exact hW.2
   ·refine⟨λA outer s H args us vs ds m Φ hr t e0 hb r hl hrep pl hW=>?_⟩
    rw[Bg,hpr,hT]at hW;obtain⟨_,hW⟩:=hW;rw[hbd,execs,exec]at hW;exact hW.elim
  ·obtain⟨a,fd,ps,h1,h2,h3,h4⟩:=(h.told f x hx).ex
   refine⟨a,fd,ps,h1,h2,?_,h3⟩
   rcases h4 with⟨_,_,no,_⟩|⟨hpr,i,params,qual,dvs,kws,F,rfl,hT,q,ho',_,_,hlm,ok,_⟩|⟨_,no,_⟩
   rotate_right
   ·exact absurd ho (no p)
   ·exact absurd ho (no p)
   ·obtain⟨eo,ex⟩:=ho' p ho
    unfold DI.okK at ok;rw[ex,if_neg Bv,eo]at ok;unfold DI.okO at ok;simp only[Yzh,beq_iff_eq,decide_eq_true_eq]at ok;obtain⟨⟨⟨⟨⟨o1,o2⟩,o3⟩,o4⟩,o5⟩,o6⟩:=ok;have S:=Fj o1;have hw:wSs i.d.body≤Jh:=Bc o5;refine Arc F S λcdv A outer s H hcv hr=>⟨execs (Bg T G prim k) G i.d.body,?_,λds l Φ hd hW=>?_⟩
    ·exact(Ahq hC (Q9 h ih hv S hcv hlm hr) i.d.body i.body o2).cg (by rw[Ft];exact Cd _ hw) λδ D q=>q
    ·obtain⟨_,l',hl',hex⟩:=Akl o6 (by have:=look hx;omega) h.far hT hW
     rw[hd]at hl'
     cases hl'
     rw[← o4];exact hex
  ·obtain⟨a,fd,ps,h1,h2,h3,h4⟩:=(h.told f x hx).ex
   refine⟨a,fd,ps,h1,h2,?_,h3⟩
   rcases h4 with⟨_,_,_,no,_⟩|⟨hpr,i,params,qual,dvs,kws,F,rfl,hT,q,_,hx',_,hlm,ok,_⟩|⟨_,_,no,_⟩
   rotate_right
   ·exact absurd hf no
   ·exact absurd hf no
   ·unfold DI.okK at ok
    rw[if_pos (hx' hf),Yzh]at ok;have ok:=ok.2;unfold DI.okX at ok;simp only[Yzh,beq_iff_eq]at ok;obtain⟨⟨⟨⟨o1,o2⟩,o3⟩,o4⟩,o5⟩:=ok;have S:=Fj o1;have hw:wSs i.d.body≤Jh:=Bc o5;refine Aq9 F S λcdv A outer s H E hcv hr=>⟨execs (Bg T G prim k) G i.d.body,?_,λds Φ hW=>?_⟩
    ·exact(Ab6 hC i.d.body _ (Q9 h ih hv S hcv hlm hr) noask ⟨rfl,rfl,rfl⟩ i.body o2).cg (by rw[Ft];exact Cd _ hw) λδ D q=>q
    ·rw[← o4]
     exact(Aki h.far hT hW).2
  ·obtain⟨a,fd,ps,h1,h2,h3,h4⟩:=(h.told g x hx).ex
   rcases h4 with⟨_,_,_,_,no,_⟩|⟨hpr,i,params,qual,dvs,kws,F,rfl,hT,q,_,_,ht,hlm,ok,_⟩|⟨_,_,_,no,_⟩
   rotate_right
   ·exact absurd hg no
   ·exact absurd hg no
   obtain⟨hq,hp1,hbd⟩:=ht hg;refine⟨a,fd,_,h1,h2,hp1,hbd,?_⟩;unfold DI.okK at ok;rw[if_pos hq,Yzh]at ok;have ok:=ok.2;unfold DI.okX at ok;simp only[Yzh,beq_iff_eq]at ok;obtain⟨⟨⟨⟨o1,o2⟩,o3⟩,o4⟩,o5⟩:=ok;have S:=Fj o1;have hw:wSs i.d.body≤Jh:=Bc o5
   cases hfx:tb.fns[f]? with
   | none=>
    obtain⟨xf,e⟩:=h.xin f hf;rw[hfx]at e
    cases e
   | some xf=>
    obtain⟨af,fdf,psf,g1,g2,FX,g4⟩:=ih.xfn f xf hf hfx;refine Ara F S hfx g1 g2 FX g4 λcdv A outer s H lam ds hcv hr mk lo deep=>?_
    have sub:∀(f':Nat) (ds':List Dat) (Q':Dat→Prop),f'≠7000000→((f'=7000000∧ds'=[.obj lam []]∧Bg T G prim k (6000000+f) ds Q')∨(f'≠7000000∧Bg T G prim k f' ds' Q'))→Bg T G prim k f' ds' Q':=λf' ds' Q' n hh=>by
     rcases hh with⟨e,_⟩|⟨_,z⟩
     ·exact absurd e n
     ·exact z
    have ih':AllOk P w K mg base tb G (λf' ds' Q'=>(f'=7000000∧ds'=[.obj lam []]∧Bg T G prim k (6000000+f) ds Q')∨(f'≠7000000∧Bg T G prim k f' ds' Q')) (Jh ^ k) k:=by
     refine⟨λf1 x1 hx1=>?_,λf1 p1 x1 ho1 hx1=>?_,λf1 x1 hf1 hx1=>?_,λf1 x1 hx1=>?_,λg1 f1 x1 hg1 hf1 hl1 hx1=>?_,λc1 f1 q1 p1 ns1 hi1 hq1 hG1=>?_,λf1 x1 hf1 hx1=>?_⟩
     ·obtain⟨a',fd',ps',e1,e2,e3,e4⟩:=ih.fns f1 x1 hx1
      exact⟨a',fd',ps',e1,e2,e3.imp λ_ _=>sub _ _ _ (by have:=look hx1;omega),e4⟩
     ·obtain⟨a',fd',ps',e1,e2,e3,e4⟩:=ih.owns f1 p1 x1 ho1 hx1
      have hp:=h.o16 f1 p1 ho1;exact⟨a',fd',ps',e1,e2,e3.imp λ_ _=>sub _ _ _ (by have:=look hx1;omega),e4⟩
     ·obtain⟨a',fd',ps',e1,e2,e3,e4⟩:=ih.xfn f1 x1 hf1 hx1
      exact⟨a',fd',ps',e1,e2,e3.imp λ_ _=>sub _ _ _ (by have:=look hx1;omega),e4⟩
     ·obtain⟨a',fd',ps',e1,e2,e3,e4⟩:=ih.low f1 x1 hx1
      exact⟨a',fd',ps',e1,e2,λds1 Q1 z=>e3 ds1 Q1 (sub _ _ _ (by omega) z),e4⟩
     ·obtain⟨a',fd',ps',e1,e2,e3,e4,e5⟩:=ih.tol g1 f1 x1 hg1 hf1 hl1 hx1
      exact⟨a',fd',ps',e1,e2,e3,e4,e5.imp λ_ _=>sub _ _ _ (by have:=look hx1;omega)⟩
     ·obtain⟨fi,fd',ps',np,e1,e2,e3,e4⟩:=ih.ini c1 f1 q1 p1 ns1 hi1 hq1 hG1
      exact⟨fi,fd',ps',np,e1,e2,e3,λds1 Q1 z=>e4 ds1 Q1 (sub _ _ _ (by omega) z)⟩
     ·obtain⟨a',fd',ps',e1,e2,e3,e4⟩:=ih.rfn f1 x1 hf1 hx1
      exact⟨a',fd',ps',e1,e2,e3.imp λ_ _=>sub _ _ _ (by have:=look hx1;omega),e4⟩
    have hC':∀f' ds',Bj ((λf' ds' Q'=>(f'=7000000∧ds'=[.obj lam []]∧Bg T G prim k (6000000+f) ds Q')∨(f'≠7000000∧Bg T G prim k f' ds' Q'):Nat→List Dat→(Dat→Prop)→Prop) f' ds'):=λf' ds' Q1 Q2 hq hh=>by
     rcases hh with⟨e1,e2,e3⟩|⟨e1,e2⟩
     ·exact .inl ⟨e1,e2,hC _ _ _ _ hq e3⟩
     ·exact .inr ⟨e1,hC _ _ _ _ hq e2⟩
    refine⟨execs (λf' ds' Q'=>(f'=7000000∧ds'=[.obj lam []]∧Bg T G prim k (6000000+f) ds Q')∨(f'≠7000000∧Bg T G prim k f' ds' Q')) G i.d.body,?_,λΦ hW=>?_⟩
    ·refine(Ab6 hC' i.d.body _ (Q9 h ih' (λf1 d1 hd1=>?_) S hcv hlm hr) (mk _ (λd Φ hc=>?_) lo deep) ⟨rfl,rfl,rfl⟩ i.body o2).cg (by rw[Ft];exact Cd _ hw) λδ D q=>q
     ·obtain⟨x1,a1,n1,e1,e2,e3,e4,e5,e6⟩:=hv f1 d1 hd1
      exact⟨x1,a1,n1,e1,e2,e3,e4,λds' Q' hh=>e5 ds' Q' (sub _ _ _ (by have:=look e1;omega) hh),e6⟩
     ·rcases hc with⟨_,e,z⟩|⟨z,_⟩
      ·injection e with e
       exact⟨e,z⟩
      ·exact absurd rfl z
    ·obtain⟨_,hW⟩:=Akj h.far hl (by have:=look hx;omega) hT hW
     rw[← o4];exact hW lam
end
end SF
namespace SF
open PySem PySem.Spec PySem.W PySem.Calls PyProof.Rows L2
structure FnG0[TN](P:Program)(w:World)(K:PySem.W.Frag)(mg:Str→Option Value)(base:Heap)(k:Nat)(f:Addr)(fd:FuncData)(ps:List Str)(n:Nat)(W:List Dat→(Dat→Prop)→Prop):Prop where
 run:∀(A:Around) (outer:List PySem.Env) (s:Shared) (H:Hp) (args:Args) (us:List Value) (vs:List V) (ds:List Dat) (m:Nat) (Φ:Dat→Prop),RoomG k A→Env0 P w K mg base A outer s H→BindsTo s fd args (ps.zip us)→L2.Vals vs us→vs.length=ps.length→Reps ⟨K,P,w⟩ H vs ds→PotLe (n+m) H→W ds Φ →
  codeAny (model P w) A (.call (.ref f) args) (λr s'=>∃u,r = .ok (.ret u)∧CE outer P w H s (λv H'=>∃d,Step n H H'∧Rep ⟨K,P,w⟩ H' v d∧Φ d) u s') s
def Adb(K:PySem.W.Frag)(ts:List Addr)(a:Addr)(o:Obj)(xs:List V):Hp:=λb=>if b=a∧(K.lookup a).isNone=true then some (.frz o (.lst xs))else if b∈ts then some (.tbl #[])else none
theorem Xw{K:PySem.W.Frag}{ts:List Addr}{a b:Addr}{o:Obj}{xs:List V}{u:HO}(h:Adb K ts a o xs b=some u):(b=a∧K.lookup a=none∧u = .frz o (.lst xs))∨(b∈ts∧u = .tbl #[]):=by
 unfold Adb at h
 split at h
 ·rename_i c
  exact .inl ⟨c.1,La.mp c.2,(Aj.inj h).symm⟩
 ·split at h
  ·rename_i c
   exact .inr ⟨c,(Aj.inj h).symm⟩
  ·cases h
theorem Vx{K:PySem.W.Frag}{ts:List Addr}{h:Heap}{a b:Addr}{o ob:Obj}{xs:List V}(e:h.get? b=some ob)(n:b=a→K.lookup a=none→False)(nt:b∉ts):(hidT h (Adb K ts a o xs)).get? b=some ob:=by
 refine hidT_get e ?_
 cases q:Adb K ts a o xs b with
 | none=>rfl
 | some u=>
  rcases Xw q with z|z
  ·exact(n z.1 z.2.1).elim
  ·exact absurd z.1 nt
theorem Am7[TN]{P:Program}{w:World}{K:PySem.W.Frag}{mg mb:Str→Option Value}{k n:Nat}{fa a:Addr}{fd:FuncData}{x:Str}{W:List Dat→(Dat→Prop)→Prop}{s₁:Shared}{vs:List Value}{ns:List Int}{cs:List (Addr×Addr)}
  (hk:K.In s₁.heap) (hm:s₁.heap.Ns mainGlobals mg∧(s₁.heap.Ns builtinsNs mb∧∀x:Str,x ≠ "__name__" → mb x=bootBuiltins x)∧s₁.heap.NoLimit) (hg:s₁.gens = #[])
  (hcs:∀p∈cs,CodeHd s₁.heap p.1 p.2∧s₁.heap.get? p.2=some (tabObj #[])∧K.lookup p.2=none) (htn:∀p∈TN.tabs,p.1∈cs.map (·.2))
  (hbm:∃(bm:Addr) (ob:Obj),mg "__builtins__" = some (.ref bm)∧bm≠builtinsNs∧s₁.heap.get? bm=some ob∧ob.cls = .type "module" ∧ ob.dict=some builtinsNs∧ob.data = .plain)
  (ha:s₁.heap.get? a=some { cls:=.type "list", data:=.seq vs.toArray }) (hi:IntsAre vs ns) (hl:ns.length≤1000) (hr:RoomG k callerA) (hn:n≤Z3)
  (F:∀base:Heap,K.In base→base.Ns mainGlobals mg→(∀p∈cs,LamX.TabB base mg p.1 p.2)→FnG0 P w K mg base k fa fd [x] n W) (hbind:∀(s:Shared) (u:Value),BindsTo s fd ⟨[u],[]⟩ [(x,u)])
  (hW:W [.scr ns] λd=>d = .bl true) :
  codeAny (model P w) callerA (.call (.ref fa) ⟨[.ref a],[]⟩) (λr s'=>r = .ok (.ret (.bool true))∧OldK s₁.heap s'.heap∧s'.os=s₁.os∧AllBare s'.gens) s₁:=by
 obtain⟨hns,⟨hb,hbb⟩,hlim⟩:=hm;have big:ns.length≤sizeLine:=Bo hl (by decide);have rv:L2.Vals (ns.map V.int) vs:=vals_ints hi;have empty:∀b∈cs.map (·.2),s₁.heap.get? b=some (tabObj #[])∧K.lookup b=none:=by
  intro b hb';obtain⟨p,hp,rfl⟩:=Ac.mp hb';exact(hcs p hp).2
 have apart:∀{b:Addr} {ob:Obj},s₁.heap.get? b=some ob→ob.data ≠ .fields #[]→b∉cs.map (·.2):=by
  intro b ob e n z;rw[(empty b z).1]at e
  cases e
  exact n rfl
 have aT:a∉cs.map (·.2):=apart ha (λz=>nomatch z);generalize hH:Adb K (cs.map (·.2)) a { cls:=.type "list", data:=.seq vs.toArray } (ns.map V.int)=H;have look:∀b u,H b=some u→(b=a∧K.lookup a=none∧u = .frz { cls:=.type "list", data:=.seq vs.toArray } (.lst (ns.map V.int)))∨(b∈cs.map (·.2)∧u = .tbl #[]):=by
  subst hH;exact λb u=>Xw
 have atT:∀b∈cs.map (·.2),H b=some (.tbl #[]):=by
  intro b hb';subst hH;unfold Adb;have nb:¬ (b=a∧(K.lookup a).isNone=true):=λz=>aT (z.1 ▸ hb')
  rw[if_neg nb,if_pos hb']
 have seen:∀{b:Addr} {ob:Obj},s₁.heap.get? b=some ob→(∀l n,ob.data ≠ .seq l n)→ob.data ≠ .fields #[]→(hidT s₁.heap H).get? b=some ob:=by
  intro b ob e n1 n2;subst hH;refine Vx e ?_ (apart e n2);rintro rfl _;rw[ha]at e
  cases e
  exact n1 _ _ rfl
 have space:∀{b:Addr} {m:Str→Option Value},s₁.heap.Ns b m→(hidT s₁.heap H).Ns b m:=by
  rintro b m ⟨ob,es,ep,e,d,r⟩;exact⟨ob,es,ep,seen e (λl n z=>by rw[d]at z;cases z) (λz=>by rw[d]at z;cases z),d,r⟩
 have kin:K.In (hidT s₁.heap H):=by
  intro b ob e;subst hH;refine Vx (hk b ob e) ?_ λz=>?_
  ·rintro rfl z
   rw[z]at e
   cases e
  ·rw[(empty b z).2]at e
   cases e
 have tabs:∀p∈cs,LamX.TabB (hidT s₁.heap H) mg p.1 p.2:=by
  intro p hp;obtain⟨⟨o,us,file,tf,flags,tg,inF,text,tt,e1,r1,r2,r3,rest⟩,hP,_⟩:=hcs p hp;refine⟨⟨o,us,file,tf,flags,tg,inF,text,tt,seen e1 (λl n z=>by rw[r2]at z;cases z) (λz=>?_),r1,r2,r3,rest⟩,?_,?_⟩
  ·rw[r2]at z
   cases z
   simp at r3
  ·obtain⟨bm,ob,b1,b2,b3,b4,b5,b6⟩:=hbm
   refine⟨bm,ob,b1,b2,?_,?_,seen b3 (λl n z=>by rw[b6]at z;cases z) (λz=>by rw[b6]at z;cases z),b4,b5,b6⟩
   ·rintro rfl
    obtain⟨o2,es,ep,e,hd,_⟩:=hns;rw[b3]at e
    cases e
    rw[b6]at hd
    cases hd
   ·rintro rfl
    rw[b3]at hP
    cases hP
    cases b6
  ·intro z
   obtain⟨o2,es,ep,e,hd,_⟩:=hns;rw[z,hP]at e
   cases e
   cases hd
 have e0:Env0 P w K mg (hidT s₁.heap H) callerA [] s₁ H:=by
  refine{ frames:=rfl,mod:=⟨kin,space hns,⟨mb,space hb,hbb⟩,hlim.imp λ_ z=>⟨space z.1,z.2⟩⟩,bs:=λb o e=>of_hidT e,bsz:=Ky (hidT_size _ _),funs:=trivial,frf:=?_,hok:=?_,bare:=.of_eq hg }
  ·intro b z
   cases z
  ·intro b u z
   rcases look b u z with⟨rfl,_,rfl⟩|⟨z1,rfl⟩
   ·exact⟨ha,by rw[Yzi];exact big,vs,_,rv,ha⟩
   ·exact(empty b z1).1
 have script:ScrL ⟨K,P,w⟩ H a (ns.map V.int):=by
  cases q:K.lookup a with
  | none=>
   left
   refine⟨{ cls:=.type "list", data:=.seq vs.toArray },?_⟩;subst hH;unfold Adb;rw[q];simp
  | some o=>
   have e:=hk a o q;rw[ha]at e
   cases e
   exact .inr ⟨_,vs.toArray,_,q,rfl,rfl,rfl,by rw[Ao,hi.length];exact big,by simpa using rv⟩
 refine codeAny_mono ((F _ e0.mod.kin e0.mod.glob tabs).run callerA [] s₁ H ⟨[.ref a],[]⟩ [.ref a] [.ref a] [.scr ns] 0 (λd=>d = .bl true) hr e0 (hbind s₁ (.ref a)) (.cons rfl .nil) rfl ?_ ⟨hn,?_,?_⟩ hW) ?_
 ·rw[Reps,Reps,Rep]
  exact⟨⟨a,rfl,script,hl⟩,trivial⟩
 ·intro b z e
  rcases look b _ e with⟨_,_,z⟩|⟨_,z⟩<;>cases z
 ·intro p hp
  exact⟨#[],atT _ (htn p hp),True.intro,λpos cv hc=>by simp[codeAmong]at hc⟩
 rintro r s' ⟨u,rfl,v,H',os,bare,un,hok',rv',d,_,rd,rfl⟩;rw[Rep]at rd;subst rd
 cases rv'
 have stay:∀b ob,b∉cs.map (·.2)→s₁.heap.get? b=some ob→s'.heap.get? b=some ob:=by
  intro b ob nb e
  cases q:H b with
  | none=>exact un.keep b ob e q (by intro z;cases z) (by intro z;cases z)
  | some y=>
   rcases look b y q with⟨rfl,_,rfl⟩|⟨z,_⟩
   ·rw[ha]at e
    cases e
    exact(hok' b _ (un.frzs b _ _ q)).1
   ·exact absurd z nb
 have grow:∀b∈cs.map (·.2),∃more:Array Value,s'.heap.get? b=some (tabObj more):=by
  intro b hb';obtain⟨more,z⟩:=un.tbls b #[] (atT b hb');exact⟨_,hok' b _ z⟩
 refine⟨rfl,⟨λb ob e=>?_,λb ob e=>?_⟩,os,bare⟩
 ·by_cases hb':b∈cs.map (·.2)
  ·obtain⟨more,z⟩:=grow b hb'
   obtain⟨p,hp,rfl⟩:=Ac.mp hb';have hP:=(hcs p hp).2.1;rw[hP]at e
   cases e
   exact .inr (.inl ⟨((hcs p hp).1.tab hP).isCodeTable,rfl,#[],more,rfl,by rw[Array.empty_append];exact z⟩)
  ·exact .inl (stay b ob hb' e)
 ·by_cases hb':b∈cs.map (·.2)
  ·obtain⟨more,z⟩:=grow b hb'
   exact⟨_,z⟩
  ·exact⟨ob,stay b ob hb' e⟩
theorem Aot{l:PySem.W.OpenLaw}{n k c:Nat}{q:Program}{loose:List Str}{XP:(Str→Option Value)→Heap→Prop}{YP:World→Heap→Prop}{d:DefRec}{x:Str}
  (hn:l.most=some n) (hn2:n≤1000) (hdf:d.params.defaults=[]) (hr:RoomG k callerA) (hc:c≤Z3)
  (F:∀(w:World) (mg:Str→Option Value) (fa:Addr) (h:Heap),YP w h→h.Ns mainGlobals mg→mg d.name=some (.ref fa)→(∀(K:PySem.W.Frag) (x:Str) (c P:Addr),K.In h→((recsOf q).any λe=>e.name == x)=true→tabIn K x=some (c,P)→CodeHd h c P∧h.get? P=some (tabObj #[])) →
   ∃(tn:TN) (K:PySem.W.Frag) (fd:FuncData) (W:List Dat→(Dat→Prop)→Prop) (cs:List (Addr×Addr)),K.In h∧(∀p∈cs,CodeHd h p.1 p.2∧h.get? p.2=some (tabObj #[])∧K.lookup p.2=none)∧(∀p∈tn.tabs,p.1∈cs.map (·.2))∧(∀(s:Shared) (u:Value),BindsTo s fd ⟨[u],[]⟩ [(x,u)])∧(∀ns:List Int,ns.length≤n→W [.scr ns] λd=>d = .bl true) ∧
    ∀base:Heap,K.In base→base.Ns mainGlobals mg→(∀p∈cs,LamX.TabB base mg p.1 p.2)→@FnG0 tn l.prog w K mg base k fa fd [x] c W) :
  WalkO q loose XP YP l.row.toRowW d [] (λf vs=>PySem.call f vs):=by
 refine Att.attach_call hn hdf ?_;intro w s₀ s₁ mg mb fa o pm cd doc a vs ns G Y _ _ _ hmg hobj hints hlen hg;obtain⟨tn,K,fd,W,cs,kin,hcs,htn,hb,hW,hF⟩:=F w mg fa _ Y G.T.g hmg λK x c P kin hrec ht=>by
  cases e:(recsOf q).find? (λe=>e.name == x)with
  | none=>
   obtain⟨d0,hm,hn0⟩:=Ei.mp hrec;exact absurd hn0 (Tr.mp e d0 hm)
  | some d0=>exact tab_of G.T kin e ht
 exact Am7 kin ⟨G.T.g,⟨G.T.b,G.T.builtins⟩,G.T.nolimit⟩ hg hcs htn G.T.bmain hobj hints (Bo hlen hn2) hr hc hF hb (hW ns hlen)
end SF
namespace SF
open PySem PySem.Spec PyProof.Rows L2
variable[TN]
def QE0(X:Cx)(ex:Expr)(n:Nat)(R:Km)(f:Env→(Dat→Prop)→Prop):Prop:=
 ∀(E:Value→Shared→Prop) (pins:List (Addr×Obj)) (s:Shared) (σ:L2.St) (H:Hp) (δ:Env) (m:Nat) (Φ:Dat→Prop),L2.Inv X pins σ H s→EnvRep X.kw σ H δ→PotLe (n+m) H→f δ Φ →
  wpAny (model X.prog X.w) X.A (eval ex X.env) (PX X pins σ n H R Φ) E s
def QA0(X:Cx)(es:List Expr)(n:Nat)(RL:Hp→List V→List Dat→Prop)(f:Env→(List Dat→Prop)→Prop):Prop:=
 ∀(pos:Pos) (E:Value→Shared→Prop) (pins:List (Addr×Obj)) (s:Shared) (σ:L2.St) (H:Hp) (δ:Env) (m:Nat) (Φ:List Dat→Prop),L2.Inv X pins σ H s→EnvRep X.kw σ H δ→PotLe (n+m) H→f δ Φ →
  wpAny (model X.prog X.w) X.A (spliced (backTo pos (starEach es X.env))) (PXs X pins σ n H RL Φ) E s
def QI0(X:Cx)(tg ex:Expr)(n:Nat)(b z:Bool)(f:Env→(Dat→Prop)→Prop):Prop:=
 ∀(E:Value→Shared→Prop) (pins:List (Addr×Obj)) (s:Shared) (σ:L2.St) (H:Hp) (δ:Env) (m:Nat) (Φ:Dat→Prop),L2.Inv X pins σ H s→EnvRep X.kw σ H δ→PotLe (n+m) H→f δ (λd=>(∃l,Di d=some l)∧Φ d) →
  wpAny (model X.prog X.w) X.A (eval ex X.env) (λv s1=>wpAny (model X.prog X.w) X.A (pyIter v) (PXI X pins σ tg n b z H Φ) E s1) E s
section
variable{X:Cx}{e:Expr}{es:List Expr}{n n':Nat}{fa:Env→(Dat→Prop)→Prop}{fs:Env→(List Dat→Prop)→Prop}{RL:Hp→List V→List Dat→Prop}{pos p:Pos}
theorem Ai4{i:Int}{j:Nat}:QE0 X (.Constant (.int i) j pos) 0 (RV X.kw) (λ_ Q=>Q (.int i)):=λE pins s σ H δ m Φ I er pl hf=>
 wpAny_Constant_int ⟨by show 0 < s.toks+1;omega,.int i,H,.int i,I.tok _,⟨_,rfl⟩,Step.refl H,De i,hf⟩
theorem Ai1{R:Km}(hc:∀H H' H'' v d vs ds,Ext H' H''→R H H' v d→RL H'' vs ds→RL H'' (v::vs) (d::ds))(ha:QE0 X e n R fa)(hr:QA X es n' RL fs)(hs:starEach (e::es) X.env=(false,eval e X.env)::starEach es X.env) :
  QA0 X (e::es) (n+n') RL (λδ Q=>fa δ λd=>fs δ λds=>Q (d::ds)):=λpos E pins s σ H δ m Φ I er pl hf=>by
 rw[hs];show wpAny _ _ (spliced ((false,eval e X.env)::backTo pos (starEach es X.env))) _ _ s
 refine Calls.spliced_cons (thn (ha E pins s σ H δ (n'+m) _ I er (pl.mono (by omega)) hf) λu s1 ⟨t1,x,H1,d,I1,r1,st1,b1,q1⟩=>?_);exact thn (hr pos E pins s1 σ H1 δ m _ t1 I1 (er.ext st1.ext) (st1.pot _ (pl.mono (by omega))) q1) λus s2 ⟨t2,vs,H2,ds,I2,r2,st2,b2,q2⟩=>⟨t2,x::vs,H2,d::ds,I2,.cons r1 r2,st1.trans st2,hc _ _ _ _ _ _ _ st2.ext b1 b2,q2⟩
theorem Ai0{i:Nat}{x:Str}(hN:X.N[i]? = some x)(hv:Vis X.env.scope x)(hd:(x == ("__debug__" : Str))=false)(hcd:(x == ("__classdict__" : Str))=false)(hr:QA0 X es n' (RLv X.kw) fs):QA0 X (.Name x p::es) n' (RLv X.kw) (λδ Q=>Du δ i λd=>fs δ λds=>Q (d::ds)):=λpos E pins s σ H δ m Φ I er pl hf=>by
 have hf:Du δ i _:=hf;unfold Du at hf
 split at hf
 ·rename_i d hi
  obtain⟨v,hσ,rv⟩:=(er.2 i _ hi).valAt;show wpAny _ _ (spliced ((false,eval (.Name x p) X.env)::backTo pos (starEach es X.env))) _ _ s
  refine Calls.spliced_cons (raw_name hN hv I hσ (λu r=>?_) hd hcd);exact thn (hr pos E pins s σ H δ m _ I er pl hf) λus s2 ⟨t2,vs,H2,ds,I2,r2,st2,b2,q2⟩=>⟨t2,v::vs,H2,d::ds,I2,.cons r r2,st2,Akg H H H2 v d vs ds st2.ext rv b2,q2⟩
 ·exact hf.elim
theorem Ams{u:Value}{r:List V→Hp→VK→Prop}{W:List Dat→(Dat→Prop)→Prop}{R:Km}{x:Str}(hc:∀E,CallR (X.wish E) u r)(hT:(∃id,u = .builtin id)∨∃T,u = .type T)(hg:Gl X x)(hm:X.mg x=none)(hv:bootBuiltins x=some u)
  (hr:∀(pins:List (Addr×Obj)) (σ:L2.St) (E':Value→Shared→Prop) (H H1:Hp) (vs:List V) (ds:List Dat) (Φ:Dat→Prop),Step n H H1→RL H1 vs ds→W ds Φ→∃Q:VK,r vs H1 Q∧∀w s',0 < s'.toks→EP (X.wish E') pins σ Q w s'→PX X pins σ n H R Φ w s')
  (ha:QA0 X (e::es) n RL fs) (hn:x ≠ "__name__") (hdb:(x == ("__debug__" : Str))=false)
  (he:starEach (e::es) X.env=(false,eval e X.env)::starEach es X.env) (hpl:(backTo pos (starEach es X.env)).any (·.1)=false):QE0 X (.Call (.Name x p) (e::es) [] pos) n R (λδ Q=>fs δ λds=>W ds Q):=λE pins s σ H δ m Φ I er pl hf=>by
 refine wpAny_Call_Name_kw (ld_blt I hg hm hv ?_ hn hdb);have fin:wpAny (model X.prog X.w) X.A (spliced (backTo pos (starEach (e::es) X.env))) (λvs s₁=>wpAny (model X.prog X.w) X.A (call u vs) (PX X pins σ n H R Φ) E s₁) E s:=
  thn (ha pos E pins s σ H δ m _ I er pl hf) λus s1 ⟨t1,vs,H1,ds,I1,r1,st1,b1,q1⟩=>by
   obtain⟨Q,hq,hk⟩:=hr pins σ E H H1 vs ds Φ st1 b1 q1;exact Cr t1 (hc E pins s1 σ H1 vs us Q (I1.wish E) r1 hq) λw s' t h=>hk w s' t h
 rcases hT with⟨id,rfl⟩|⟨T,rfl⟩
 ·exact PyProof.Rows.callWith_builtin1 fin he hpl
 ·exact PyProof.Rows.callWith_type1 fin he hpl
theorem Aoh(hS:Kw X.kw)(hu:X.A.units+300 < cLine)(hgu:X.A.guards=some [])(hc:X.calm=true)(b:B1)(u:Value){x:Str}(hb:b1V b=some u)(hx:x=b1N b)(hg:Gl X x)(hm:X.mg x=none)(hv:bootBuiltins x=some u)
  (ha:QA0 X (e::es) n (RLb X.kw) fs) (he:starEach (e::es) X.env=(false,eval e X.env)::starEach es X.env) (hpl:(backTo pos (starEach es X.env)).any (·.1)=false):QE0 X (.Call (.Name x p) (e::es) [] pos) n (ROw X.kw) (λδ Q=>fs δ λds=>biW b ds Q):=by
 refine Ams (r:=rB1 X.kw b) (λE=>Abt hS hu hgu hc b u hb E) ?_ hg hm hv (λpins σ E' H H1 vs ds Φ st rl q=>⟨_,⟨ds,rl,Wc b ds _ _ (λd h=>Vg h) q⟩,λw s' t h=>X8 t st (Aa _) h⟩) ha ?_ ?_ he hpl
 ·cases b<;>simp only[b1V,Aj.injEq,reduceCtorEq]at hb<;>subst hb<;>first|exact .inl ⟨_,rfl⟩|exact .inr ⟨_,rfl⟩
 ·subst hx;cases b<;>decide
 ·subst hx;cases b<;>decide
theorem Af6{a tg:Expr}{bb:Bool}(hg:Gl X "range")(hm:X.mg "range" = none)(ha:QE0 X a n (RV X.kw) fa)(hs:starEach [a] X.env=[(false,eval a X.env)]):QI0 X tg (.Call (.Name "range" p) [a] [] pos) n bb false (λδ Q=>fa δ λx=>Gz x Q):=λE pins s σ H δ m Φ I er pl hf=>by
 have hA:QA0 X [a] n (RL1 X.kw) (λδ Q=>fa δ λd=>Q [d]):=λpos E pins s σ H δ m Φ I er pl hf=>by
  rw[hs];show wpAny _ _ (spliced ((false,eval a X.env)::[])) _ _ s
  exact Calls.spliced_cons (thn (ha E pins s σ H δ m _ I er pl hf) λu s1 ⟨t1,x,H1,dx,I1,r1,st1,b1,q1⟩=>Calls.spliced_nil ⟨t1,[x],H1,[dx],I1,.cons r1 .nil,st1,⟨x,dx,rfl,rfl,b1⟩,q1⟩)
 refine Call_ (ld_blt I hg hm boot_range (PyProof.Rows.callWith_type1 (thn (hA pos E pins s σ H δ m (λds=>Asg ds λd=>(∃l,Di d=some l)∧Φ d) I er pl hf) λus s1 ⟨t1,vs,H1,ds,I1,r1,st1,b1,q1⟩=>?_) hs rfl));obtain⟨v,d,rfl,rfl,h⟩:=b1
 replace q1:Gz d (λd=>(∃l,Di d=some l)∧Φ d):=q1
 unfold Gz at q1
 split at q1
 ·rename_i k
  rw[Rep]at h;subst h;obtain⟨⟨h1,h2⟩,_,q⟩:=q1
  cases r1 with
  | cons r rr=>
   cases rr
   obtain⟨t,rfl⟩:=r;unfold big at h2;refine Cr t1 (call_range_1 (range_it I1 (R:=λJ H'=>H'=H1∧Wlk X.kw bb false H1 ((Dz k.toNat).map λi:Nat=>.int i) J) (by omega) (by omega) (by omega) (by omega) ⟨rfl,?_⟩)) λw s2 t2 h2'=>Cr t2 h2' λw s3 t3 h3=>Mf t3 st1 ?_ rfl q h3
   ·have w:=Ady (bb:=bb) (K:=X.kw) (H:=H1) (lo:=0) (k:=k.toNat)
    have ee:(λi:Nat=>Dat.int (0+i))=λi:Nat=>Dat.int i:=by funext i;rw[Int.zero_add]
    rw[ee]at w;rw[Int.sub_zero];exact w
   ·rw[Yzi,Fg];unfold sizeLine;omega
 ·exact q1.elim
end
def Q10(X:Cx)(st:Stmt)(n:Nat)(F:Env→Post→Prop):Prop:=
 ∀(E:Value→Shared→Prop),PassesOwn (model X.prog X.w) X.A X.env E→∀(pins:List (Addr×Obj)) (s:Shared) (σ:L2.St) (H0 H:Hp) (δ:Env) (m:Nat) (D:Post),L2.Inv X pins σ H s→EnvS X.kw σ H0 H δ→Ext H0 H→PotLe (n+m) H→F δ D →
  wpAny (model X.prog X.w) X.A (PySem.exec st X.env) (SO X pins n H0 H D) E s
section
variable{X:Cx}{st:Stmt}{body:List Stmt}{n n' n'':Nat}{e iter tg c:Expr}{pos:Pos}{fe fi:Env→(Dat→Prop)→Prop}{gc:Env→(Bool→Prop)→Prop}{F:Env→Post→Prop}{p:P}{z:Bool}
theorem Amp(hc:X.calm=true)(hi:QI0 X tg iter n false z fi)(hz:z=true→isT p=true)(hg:K8 X tg p)(hb:QS X body n' F)(hs:∀x,foldedSetIterable iter X.env x=pure x)(mfi:∀ δ,Bj (fi δ)) :
  Q10 X (.For tg iter body [] pos) (n+sizeLine*n') (λδ D=>fi δ λx=>∃ds,Di x=some ds∧G5 p F ds δ D):=λE hp pins s σ H0 H δ m D I es ex pl hf=>by
 refine wpAny_For (thn (hi E pins s σ H δ (sizeLine*n'+m) (λx=>∃ds,Di x=some ds∧G5 p F ds δ D) I es.rep (pl.mono (by omega)) (mfi δ _ _ (λx ⟨ds,q1,q2⟩=>⟨⟨ds,q1⟩,ds,q1,q2⟩) hf)) λxv s1 hx=>thn hx λitv s2 h2=>?_) hs;obtain⟨t2,it,fp,tn,J,H2,dx,ds,e,I2,T,st2,f2,stp,wk,hlen,hds,ds',hds',q⟩:=h2;rw[hds]at hds'
 cases hds'
 subst e;have sp0:=StepS.of ex stp;have stat:∀{H':Hp},(∀b∈fp,H' b=none)→∀b∈fp,FpOk X pins H' b:=λhn b hb=>⟨hn b hb,(f2 b hb).2⟩
 have plB:PotLe (sizeLine*n') H2:=stp.pot _ (pl.mono (by omega));refine codeAny_forLoop_any (λk s'=>∃i σ' H' δ',0 < s'.toks∧L2.Inv X pins σ' H' s'∧tn i s'.heap∧(∀b∈fp,H' b=none)∧k=ds.length - i∧i≤ds.length∧EnvS X.kw σ' H0 H' δ'∧StepS (i*n') H0 H2 H'∧G5 p F (ds.drop i) δ' D) ?_ ds.length
  ⟨0,σ,H2,δ,t2,I2,st2,λb hb=>(f2 b hb).1,rfl,Am _,es.ext stp.ext,by rw[Dc];exact StepS.refl sp0.ext,q⟩
 rintro k s3 ⟨i,σ3,H3,δ3,t3,I3,st3,fr3,rfl,hik,es3,sp3,q3⟩;have ex3:EXr false H2 H3:=sp3.exs;by_cases hlt:i < ds.length
 ·have hx:ds[i]? = some ds[i]:=Ab hlt
  have e0:ds.drop i=ds[i]::ds.drop (i+1):=Ds hlt;rw[e0,G5]at q3;refine wpAny_passesOwn hp (thn (tkF (X:=X) t3 (T.item X rfl rfl rfl hc i pins s3 σ3 H3 E I3 (stat fr3) st3 (wk.go H3 i ex3 hlt))) λr s4 ⟨t4,u,hr,h4⟩=>?_);subst hr;refine wpAny_passesOwn hp (thn (tkF (X:=X) t4 h4) λ_ s5 ⟨t5,x,H5,I5,r5,y5,st5,fr5⟩=>?_);obtain⟨sp5,yr⟩:=wk.yld H3 i x H5 _ ex3 hx y5;have I5':=I5.pinned (stat fr5) (T.obj _ _ st5);refine wpAny_passesOwn hp (thn (Nr hz hg t5 I5' (es3.rep.ext sp5.ext) r5 yr q3) λ_ s6 ⟨t6,σ6,δ6,I6,er6,q6,k6⟩=>?_);have hle:(i+1)*n'≤sizeLine*n':=Ba _ (by omega);rw[Ay]at hle;have sp5':=StepS.of sp3.ext sp5;have sp53:=sp3.trans sp5';refine wpAny_passesOwn hp (thn (hb E hp _ s6 σ6 H0 H5 δ6 0 _ t6 I6 ((es3.ext sp5.ext).kp er6 k6) sp5'.ext (sp53.pot _ (plB.mono (by omega))) q6) λf s7 q7=>?_);obtain⟨t7,q7⟩:=q7;have again:∀{σ7:L2.St} {H7:Hp} {δ7:Env},L2.Inv X (pins++pinsAt fp s5.heap) σ7 H7 s7→EnvS X.kw σ7 H0 H7 δ7→StepS n' H0 H5 H7→G5 p F (ds.drop (i+1)) δ7 D →
    ∃m,m < ds.length - i∧∃i σ' H' δ',0 < s7.toks∧L2.Inv X pins σ' H' s7∧tn i s7.heap∧(∀b∈fp,H' b=none)∧m=ds.length - i∧i≤ds.length∧EnvS X.kw σ' H0 H' δ'∧StepS (i*n') H0 H2 H'∧G5 p F (ds.drop i) δ' D:=λ{σ7 H7 δ7} I7 es7 sp7 q7=>by
   refine⟨ds.length - (i+1),by omega,i+1,σ7,H7,δ7,t7,I7.unpinned,T.keep _ _ _ st5 λb hb o e=>(I7.pin (b,o) (Cu _ (Cu _ (mem_pinsAt hb e)))).1,λb hb=>?_,rfl,hlt,es7,(sp53.trans sp7).mono (by rw[Ay];omega),q7⟩;obtain⟨o,e,d⟩:=T.obj _ _ st5 b hb;exact(I7.pin (b,o) (Cu _ (Cu _ (mem_pinsAt hb e)))).2.1
  have outp:∀{H7:Hp},StepS n' H0 H5 H7→StepS (n+sizeLine*n') H0 H H7:=λ{H7} sp7=>((sp0.trans sp53).trans sp7).mono (by omega)
  cases f with
  | next=>obtain⟨σ7,H7,δ7,I7,es7,sp7,n7⟩:=q7;exact again I7 es7 sp7 n7
  | cont=>obtain⟨σ7,H7,δ7,I7,es7,sp7,n7⟩:=q7;exact again I7 es7 sp7 n7
  | brk=>obtain⟨σ7,H7,δ7,I7,es7,sp7,n7⟩:=q7;exact⟨t7,σ7,H7,δ7,I7.unpinned,es7,outp sp7,n7⟩
  | ret v=>obtain⟨x7,σ7,H7,d7,δ7,I7,r7,b7,es7,sp7,q7⟩:=q7;exact⟨t7,x7,σ7,H7,d7,δ7,I7.unpinned,r7,b7,es7,outp sp7,q7⟩
 ·have ei:i=ds.length:=by omega
  subst ei;rw[Gn,G5]at q3;refine wpAny_passesOwn hp (thn (tkF (X:=X) t3 (T.done X rfl rfl rfl hc ds.length pins s3 σ3 H3 E I3 (stat fr3) st3 (wk.stop H3 ex3))) λr s4 ⟨t4,hr,I4⟩=>?_);subst hr;have hmul:ds.length*n'≤sizeLine*n':=Ba _ hlen;exact wpAny_execs_nil ⟨t4,σ3,H3,δ3,I4,es3,(sp0.trans sp3).mono (by omega),q3⟩
end
section
variable{X:Cx}
theorem Am5{pins:List (Addr×Obj)}{s:Shared}{σ:L2.St}{H:Hp}{δ:Env}{m:Nat}{Φ:List Dat→Prop}{elt tg iter:Expr}{ifs:List Expr}{scope:Scope}{own:List (Str×Nat)}{pos pos':Pos}{p:P}{z:Bool}{n n1 n2:Nat}
  {fi fe:Env→(Dat→Prop)→Prop} {ft:Env→(Bool→Prop)→Prop} {use:Option (Value→Sem Unit)} {Qf:Value→Shared→Prop} {E:Value→Shared→Prop}
  (hc:X.calm=true) (hN:X.N.Nodup) (I:L2.Inv X pins σ H s) (er:EnvRep X.kw σ H δ) (pl:PotLe (n+sizeLine*(n1+n2)+m) H) (hi:QI0 X tg iter n true z fi) (ok:BlkOk X.N X.env.scope scope own) (hz:z=true→isT p=true) (hv:∀i∈Dm p,i∈own.map (·.2))
  (hg:∀(s:Shared) (H:Hp) (C:Addr) (cl:List (Str×Addr)) (fp:List Addr),K8 (X.blk s H scope (compEnvC scope cl C X.env) fp) tg p) (ht:∀(s:Shared) (H:Hp) (C:Addr) (cl:List (Str×Addr)) (fp:List Addr),QTs (X.blk s H scope (compEnvC scope cl C X.env) fp) ifs n1 ft)
  (he:∀(s:Shared) (H:Hp) (C:Addr) (cl:List (Str×Addr)) (fp:List Addr),QE (X.blk s H scope (compEnvC scope cl C X.env) fp) elt n2 (RV X.kw) fe) (hs:∀x,foldedSetIterable iter X.env x=pure x)
  (h:fi δ λx=>∃ds,Di x=some ds∧Ff (Eo p (Bb δ (own.map (·.2))) ft fe) ds Φ) (mfi:∀ δ,Bj (fi δ))
  (hRR:∀D C s' m' H' ys,0 < s'.toks→L2.Inv X pins σ H' s'→Step (n+sizeLine*(n1+n2)) H H'→H D=none→Own X.kw H' D (.lst ys)→Φ ys→s'.heap.Ns C m'→FpOk X pins H' C→compPost (model X.prog X.w) X.A E use Qf (.ref D) C (.ok .next) s') :
  wpAny (model X.prog X.w) X.A (comprehension (.ListComp elt [⟨tg,iter,ifs,0⟩] scope pos) scope X.env pos' (newList []) false (eval iter X.env) use) Qf E s:=
 Aek hc hN I er pl ok hz hv hg ht he hs (hi E pins s σ H δ (sizeLine*(n1+n2)+m) _ I er (pl.mono (by omega)) (mfi δ _ _ (λ_ ⟨ds,q1,q2⟩=>⟨⟨ds,q1⟩,ds,q1,q2⟩) h)) hRR
theorem Amr{elt tg iter:Expr}{ifs:List Expr}{scope:Scope}{own:List (Str×Nat)}{pos:Pos}{p:P}{z:Bool}{n n1 n2:Nat}{fi fe:Env→(Dat→Prop)→Prop}{ft:Env→(Bool→Prop)→Prop}
  (hc:X.calm=true) (hN:X.N.Nodup) (hi:QI0 X tg iter n true z fi) (ok:BlkOk X.N X.env.scope scope own) (hz:z=true→isT p=true) (hv:∀i∈Dm p,i∈own.map (·.2))
  (hg:∀(s:Shared) (H:Hp) (C:Addr) (cl:List (Str×Addr)) (fp:List Addr),K8 (X.blk s H scope (compEnvC scope cl C X.env) fp) tg p) (ht:∀(s:Shared) (H:Hp) (C:Addr) (cl:List (Str×Addr)) (fp:List Addr),QTs (X.blk s H scope (compEnvC scope cl C X.env) fp) ifs n1 ft)
  (he:∀(s:Shared) (H:Hp) (C:Addr) (cl:List (Str×Addr)) (fp:List Addr),QE (X.blk s H scope (compEnvC scope cl C X.env) fp) elt n2 (RV X.kw) fe) (hs:∀x,foldedSetIterable iter X.env x=pure x) (mfi:∀ δ,Bj (fi δ)) :
  QE0 X (.ListComp elt [⟨tg,iter,ifs,0⟩] scope pos) (n+sizeLine*(n1+n2)) (ROw X.kw) (λδ Q=>fi δ λx=>∃ds,Di x=some ds∧Ff (Eo p (Bb δ (own.map (·.2))) ft fe) ds λys=>Q (.lst ys)):=λE pins s σ H δ m Φ I er pl hf=>by
 rw[eval_ListComp];refine Am5 hc hN I er pl hi ok hz hv hg ht he hs hf mfi λD C s' m' H' ys t' I' st hD ow q hn f=>⟨m',hn,λh'' sb=>?_⟩
 obtain⟨f0,f1,f2,f3,f4,f5⟩:=f;exact⟨t',.ref D,H',.lst ys,I'.turned (t':=s'.toks) (λb o hb e=>(sb.2 b hb).trans e) f0 f1 f3 f4 f5,rfl,st,.inl ⟨D,rfl,hD,ow⟩,q⟩
end
def QS0(X:Cx)(sts:List Stmt)(n:Nat)(F:Env→Post→Prop):Prop:=
 ∀(E:Value→Shared→Prop),PassesOwn (model X.prog X.w) X.A X.env E→∀(pins:List (Addr×Obj)) (s:Shared) (σ:L2.St) (H0 H:Hp) (δ:Env) (m:Nat) (D:Post),L2.Inv X pins σ H s→EnvS X.kw σ H0 H δ→Ext H0 H→PotLe (n+m) H→F δ D →
  wpAny (model X.prog X.w) X.A (PySem.execs sts X.env) (SO X pins n H0 H D) E s
section
variable{X:Cx}{st:Stmt}{sts:List Stmt}{n n' n'':Nat}{e:Expr}{pos:Pos}{fe fi:Env→(Dat→Prop)→Prop}{i:Nat}{x:Str}{px:Pos}
theorem QE0.frz{f:Env→(Dat→Prop)→Prop}(h:QE0 X e n (ROw X.kw) f):QE0 X e n (RV X.kw) f:=λE pins s σ H δ m Φ I er pl hf=>
 thn (h E pins s σ H δ m Φ I er pl hf) λu s' q=>q.frz
theorem Ad9{R:Km}{RL:Hp→List V→List Dat→Prop}(hc:∀H H' v d,R H H' v d→RL H' [v] [d])(ha:QE0 X e n R fe)(hs:starEach [e] X.env=[(false,eval e X.env)]):QA0 X [e] n RL (λδ Q=>fe δ λd=>Q [d]):=λpos E pins s σ H δ m Φ I er pl hf=>by
 rw[hs];show wpAny _ _ (spliced ((false,eval e X.env)::[])) _ _ s
 exact Calls.spliced_cons (thn (ha E pins s σ H δ m _ I er pl hf) λu s1 ⟨t1,x,H1,dx,I1,r1,st1,b1,q1⟩=>Calls.spliced_nil ⟨t1,[x],H1,[dx],I1,.cons r1 .nil,st1,hc _ _ _ _ b1,q1⟩)
theorem Amo(he:QE0 X e n (RV X.kw) fe):Q10 X (.Return (some e) pos) n (λδ D=>fe δ (D.rt δ)):=λE hE pins s σ H0 H δ m D I es ex pl hf=>
 wpAny_Return_some (thn (he E pins s σ H δ m _ I es.rep pl hf) λv s1 ⟨t1,x,H1,d,I1,r1,st1,b1,q1⟩=>⟨t1,x,σ,H1,d,δ,I1,r1,b1,es.ext st1.ext,.of ex st1,q1⟩)
theorem Amn(hN:X.N.Nodup)(hi:X.N[i]? = some x)(hx:Loc X.env.scope x)(hfn:X.fn x=true∨X.env.scope.names.lookup x=some .local)(he:QE0 X e n (RV X.kw) fe)(hs:swapsWith e (some (.Name x px)) pos.line X.env=pure false) :
  Q10 X (.Assign [.Name x px] e pos) n (λδ D=>fe δ λd=>D.nx (δ.set i (.val d))):=λE hE pins s σ H0 H δ m D I es ex pl hf=>by
 refine wpAny_Assign_Name (thn (he E pins s σ H δ m _ I es.rep pl hf) λv s1 ⟨t1,y,H1,d,I1,r1,st1,b1,q1⟩=>?_) hs;refine Cr (X:=X) t1 (store_ok (Q:=λ_ s2=>L2.Inv X pins (σ.set i (some y)) H1 s2) I1 hN hi hx r1 (λs2 I2=>I2) hfn) λ_ s2 t2 I2=>?_
 have b1:Rep X.kw H1 y d:=b1;exact⟨t2,_,H1,_,I2,(es.ext st1.ext).kp ((es.rep.ext st1.ext).set i (s:=.val d) b1) (Kp.set σ δ i (some y) d),.of ex st1,q1⟩
theorem Aio{F1 F2:Env→Post→Prop}(h1:Q10 X st n F1)(h2:QS X sts n' F2):QS0 X (st::sts) (n+n') (λδ D=>F1 δ { D with nx:=λδ'=>F2 δ' D }):=λE hE pins s σ H0 H δ m D I es ex pl hf=>by
 refine wpAny_execs_cons (thn (h1 E hE pins s σ H0 H δ (n'+m) _ I es ex (pl.mono (by omega)) hf) λf s1 q=>?_);obtain⟨t1,q⟩:=q
 cases f with
 | next=>
  obtain⟨σ1,H1,δ1,I1,es1,st1,q1⟩:=q;exact thn (h2 E hE pins s1 σ1 H0 H1 δ1 m D t1 I1 es1 st1.ext (st1.pot _ (pl.mono (by omega))) q1) λf s2 q2=>q2.le st1 (Aa _)
 | cont=>obtain⟨σ',H',δ',h1,h2,h3,h4⟩:=q;exact⟨t1,σ',H',δ',h1,h2,h3.mono (by omega),h4⟩
 | brk=>obtain⟨σ',H',δ',h1,h2,h3,h4⟩:=q;exact⟨t1,σ',H',δ',h1,h2,h3.mono (by omega),h4⟩
 | ret u=>obtain⟨v,σ',H',d,δ',h1,h2,h3,h6,h4,h5⟩:=q;exact⟨t1,v,σ',H',d,δ',h1,h2,h3,h6,h4.mono (by omega),h5⟩
end
section
variable{X:Cx}{k:Nat}{f:Addr}{fd:FuncData}{ps ks:List Str}{n n' n'':Nat}{W:List Dat→(Dat→Prop)→Prop}{x:Str}{p pos:Pos}{e:Expr}{es:List Expr}{kws:List Keyword}{fs fk:Env→(List Dat→Prop)→Prop}{sh:List Src}
theorem Amq(F:FnG X.prog X.w X.K X.mg X.base k f fd ps n W)(hr:RoomG k X.A)(hg:Gl X x)(hm:X.mg x=some (.ref f))(hk:PySem.W.keepIn X.kw (.ref f)=true)(hb:Gf X.kw fd ps (e::es).length [] sh)(hdb:(x == ("__debug__" : Str))=false)
  (ha:QA0 X (e::es) n' (RLv X.kw) fs) (hle:∀ δ Φ,fs δ Φ→fs δ λds=>ds.length=(e::es).length∧Φ ds) (he:starEach (e::es) X.env=(false,eval e X.env)::starEach es X.env) (hpl:(backTo pos (starEach es X.env)).any (·.1)=false) :
  QE0 X (.Call (.Name x p) (e::es) [] pos) (n'+n) (RV X.kw) (λδ Q=>fs δ λds=>W (Dt sh ds []) Q):=λE pins s σ H δ m Φ I er pl hf=>by
 refine wpAny_Call_Name_kw (ld_glob I hg hm ?_ hdb);refine PySem.W.callWith_K (h₀:=X.base) I.ok.mod.kin hk (thn (ha pos E pins s σ H δ (n+m) _ I er (pl.mono (by omega)) (hle δ _ hf)) λus s1 ⟨t1,vs,H1,ds,I1,r1,st1,b1,hl,q1⟩=>⟨I1.kIn,?_⟩) he hpl;have hul:us.length=(e::es).length:=by rw[← r1.length,b1.length,hl]
 exact Xe (us:=us) (ws:=[]) (zs:=[]) (es:=[]) (ks:=[]) (m:=m) F hr (by rw[hul];exact hb) rfl t1 I1 r1 .nil b1 (Aa2 H1) st1 (st1.pot _ (pl.mono (by omega))) q1
end
theorem Ank{P:Program}{w:World}{K:PySem.W.Frag}{mg:Str→Option Value}{base:Heap}{x qual:Str}{params:Arguments}{body:List Stmt}{scope:Scope}{dvs:List V}{kws:List (Str×V)}{f:Addr}{fd:FuncData}{N ps:List Str}{k n:Nat}{W:List Dat→(Dat→Prop)→Prop}
  (F:FunD K x qual params body scope dvs kws f fd) (S:FnScope N ps scope)
  (hbody:∀(cdv:Value) (A:Around) (outer:List PySem.Env) (s:Shared) (H:Hp),fd.code=cdv→RoomG k (A.deeper (envOfC qual scope s.heap.objs.size f cdv)) →
   ∃Fb,QS0 (cxOf CX0 P w K mg base N qual scope f cdv A outer s H λ_ _ _=>False) body n Fb∧∀ds Φ,W ds Φ→Fb (Bp N.length ds) { nx:=λ_=>Φ .non,rt:=λ_=>Φ }) :
  FnG0 P w K mg base (k+1) f fd ps n W:=by
 refine⟨λA outer s H args us vs ds m Φ hr e0 hb r hl hrep pl hW=>Jf F S hr e0 hb r hl λcdv s1 hcv hr1 _ I=>?_⟩;obtain⟨Fb,hQ,hFb⟩:=hbody cdv A outer s H hcv hr1;refine wpAny_mono (hQ _ PassesOwn.never [] s1 (L2.start N vs) H H _ m _ I (Ly hrep (fits S hl)) (Ext.refl H) pl (hFb ds Φ hW)) (λfl s' hs=>?_) λ_ _ z=>z
 exact⟨_,rfl,(Om hs).2⟩
end SF
namespace SF
open PySem PySem.Spec PyProof.Rows L2
variable[TN]
section
variable{X:Cx}
theorem QE0.cg{ex:Expr}{n n':Nat}{R:Km}{f g:Env→(Dat→Prop)→Prop}(h:QE0 X ex n R f)(hn:n≤n')(e:∀ δ Q,g δ Q→f δ Q):QE0 X ex n' R g:=λE pins s σ H δ m Φ I er pl hf=>
 thn (h E pins s σ H δ m Φ I er (pl.mono (by omega)) (e _ _ hf)) λu s' q=>q.step (Step.refl H) (by omega) λ_ _ _ z=>z
theorem QI0.cg{tg ex:Expr}{n n':Nat}{b z:Bool}{f g:Env→(Dat→Prop)→Prop}(h:QI0 X tg ex n b z f)(hn:n≤n')(e:∀ δ Q,g δ Q→f δ Q):QI0 X tg ex n' b z g:=λE pins s σ H δ m Φ I er pl hf=>
 thn (h E pins s σ H δ m Φ I er (pl.mono (by omega)) (e _ _ hf)) λv s1 q=>thn q λw s2 ⟨t,it,fp,tn,J,H',d,ds,h1,h2,h3,h4,h5,h6,h7⟩=>⟨t,it,fp,tn,J,H',d,ds,h1,h2,h3,h4,h5,h6.mono hn,h7⟩
theorem Q10.cg{st:Stmt}{n n':Nat}{F F':Env→Post→Prop}(h:Q10 X st n F)(hn:n≤n')(e:∀ δ D,F' δ D→F δ D):Q10 X st n' F':=λE hE pins s σ H0 H δ m D I es ex pl hf=>
 thn (h E hE pins s σ H0 H δ m D I es ex (pl.mono (by omega)) (e _ _ hf)) λf s1 q=>q.le (StepS.refl ex) (by omega)
end
section
variable{tb:Tb}{C:Nat→List Dat→(Dat→Prop)→Prop}{G:Nat→Option Dat}{cc k:Nat}
theorem Apf{i:Int}{m:E}(hC:∀f ds,Bj (C f ds)){X:Cx}{ex:Expr}(g:Gd tb C G cc k X)(h:chkE tb (.bi .max [.int i,m]) none (ctx X) ex=true):QE0 X ex (cc*wE (.bi .max [.int i,m])) (RV X.kw) (ev C G (.bi .max [.int i,m]) .v):=by
 rw[chkE.eq_def]at h;dsimp only at h
 split at h
 ·rename_i x p e es pos
  simp only[Yzh]at h;obtain⟨⟨h1,_⟩,h3⟩:=h;obtain⟨e1,hg,hm⟩:=Hn g h1;have hst:=Iu h3 X.env;have hpl:=Gy h3 pos X.env;simp only[chkL,Yzh]at h3;obtain⟨ha,hb⟩:=h3;have hI:QE0 X e 0 (RB X.kw) (λ_ Q=>Q (.int i)):=by
   rw[chkE.eq_def]at ha;dsimp only at ha
   split at ha
   ·have e:=eq_of_beq ha
    subst e;exact λE pins s σ H δ m Φ I er pl hf=>thn (Ai4 E pins s σ H δ m Φ I er pl hf) λu s' ⟨h0,v,H',d,h1,h2,h3,h4,h5⟩=>⟨h0,v,H',d,h1,h2,h3,.inl h4,h5⟩
   ·cases ha
  have hR:=Aiz (l:=[m]) (λe he=>sndAll hC [m] e he) X es g (by simp only[chkL];exact hb);exact((Aoh g.sys g.rm.hu g.rm.gu g.calm .max _ rfl e1 hg hm (by rw[e1];exact Zr rfl) (Ai1 Aop hI hR hst) hst hpl).frz).cg (by simp only[wE,wL,Fq,Nat.add_zero];exact Aa _) λδ Q q=>by simp only[ev,evs]at q ⊢;exact q
 ·cases h
theorem Aak{i:Int}{m:E}(hC:∀f ds,Bj (C f ds)){X:Cx}{tg ex:Expr}(bb:Bool)(g:Gd tb C G cc k X)(h:chkE tb (.range (.bi .max [.int i,m])) (some tg) (ctx X) ex=true):QI0 X tg ex (cc*wE (.range (.bi .max [.int i,m]))) bb false (ev C G (.range (.bi .max [.int i,m])) .i):=by
 rw[chkE.eq_def]at h;dsimp only at h
 split at h
 ·simp only[Yzh]at h
  obtain⟨h1,h2⟩:=h;obtain⟨e1,hg,hm⟩:=Hn g h1;subst e1;exact(Af6 hg hm (Apf hC g h2) (Dq h2 [] X.env)).cg (by rw[wE.eq_def (.range _)];exact Aa _) λδ Q q=>by rw[ev]at q;exact q
 ·cases h
theorem Apg{i:Int}{m:E}{p:P}{b:List S}(hC:∀f ds,Bj (C f ds)){X:Cx}{st:Stmt}(g:Gd tb C G cc k X)(h:chkS tb (.for p (.range (.bi .max [.int i,m])) b) (ctx X) st=true):Q10 X st (cc*wS (.for p (.range (.bi .max [.int i,m])) b)) (exec C G (.for p (.range (.bi .max [.int i,m])) b)):=by
 rw[chkS.eq_def]at h;dsimp only at h
 split at h
 ·rename_i tg iter body pos
  simp only[Yzh]at h;obtain⟨⟨⟨⟨h1,h2⟩,h3⟩,h4⟩,h5⟩:=h;exact(Amp g.calm (Aak hC false g h4) (λz=>nomatch z) (Ow g h3) (ss_all hC g b _ h5) (Lq h1 X.env) λδ=>Ah hC _ .i δ).cg (by rw[wS,← Ast];exact Aa _) λδ D q=>by rw[exec]at q;exact q
 ·cases h
theorem Apd{i f j:Nat}{z:Int}{sh:List Src}(hC:∀f ds,Bj (C f ds)){X:Cx}{st:Stmt}(g:Gd tb C G cc k X)(h:chkS tb (.set i (.call f [.var j,.int z] [] sh)) (ctx X) st=true):Q10 X st (cc*wS (.set i (.call f [.var j,.int z] [] sh))) (exec C G (.set i (.call f [.var j,.int z] [] sh))):=by
 rw[chkS.eq_def]at h;dsimp only at h
 split at h
 ·rename_i x px v pos
  simp only[Yzh]at h;obtain⟨⟨h1,h2⟩,h3⟩:=h;obtain⟨e1,e2,e3⟩:=Vd h1;rw[chkE.eq_def]at h3;dsimp only at h3
  split at h3
  ·rename_i y py es kws cpos
   simp only[Yzh,beq_iff_eq]at h3;obtain⟨⟨⟨⟨⟨c1,c2⟩,c3⟩,c4⟩,c5⟩,c6⟩:=h3;obtain⟨a,fd,ps,hm,hkeep,F,hbs⟩:=g.fns f y c1;have hm:=hm.1 (by simpa using c2.2);have c2:=c2.1;have ek:kws=[]:=by cases kws with|nil=>rfl|cons _ _=>simp[chkK]at c5
   subst ek;have ee:∃u w,es=[u,w]∧chkE tb (.var j) none (ctx X) u=true∧chkE tb (.int z) none (ctx X) w=true:=by
    match es,c4 with
    | [u,w],c4=>simp only[chkL,Yzh]at c4;exact⟨u,w,rfl,c4.1,c4.2.1⟩
    | [],c4=>simp[chkL]at c4
    | [_],c4=>simp[chkL]at c4
    | _::_::_::_,c4=>simp[chkL]at c4
   obtain⟨u,w,rfl,cu,cw⟩:=ee
   split at c6
   ·rename_i ss hss
    simp only[Ei,Yzh,beq_iff_eq]at c6;obtain⟨q,hq,⟨q1,q2⟩,q3⟩:=c6;have hb:=hbs ss hss q hq;rw[q1,q3]at hb;have eq2:q.2.1=[]:=by cases zz:q.2.1 with|nil=>rfl|cons _ _=>rw[zz]at q2;simp[kwN]at q2
    rw[eq2]at hb;have hst:=Dq cu [w] X.env;have hst2:=Dq cw [] X.env;have hpl:(backTo cpos (starEach [w] X.env)).any (·.1)=false:=by rw[hst2];rfl
    have hA:QA0 X [u,w] 0 (RLv X.kw) (evs C G [.var j,.int z] .v):=by
     cases u with
     | Name xx pp=>
      rw[chkE.eq_def]at cu;dsimp only at cu;obtain⟨n1,n2,n3,n4⟩:=Kc cu;rw[chkE.eq_def]at cw;dsimp only at cw
      split at cw
      ·have e:=eq_of_beq cw
       subst e;have hw:=Ad9 (RL:=RLv X.kw) (λH H' v d h=>by show Reps _ _ _ _;rw[Reps,Reps];exact⟨h,trivial⟩) (Ai4 (X:=X)) hst2;exact λpos E pins s σ H δ m Φ I er pl hf=>Ai0 n1 n2 n3 n4 hw pos E pins s σ H δ m Φ I er pl (by simp only[evs,ev]at hf;exact hf)
      ·cases cw
     | _=>rw[chkE.eq_def]at cu;simp at cu
    have hd:=Amq (p:=py) F g.rm (Aet c2) hm hkeep hb (Hl c3).1 hA (λδ Φ zz=>by have:=Mj (C:=C) (G:=G) [.var j,.int z] .v δ Φ hC zz;exact this) hst hpl;exact(Amn (px:=px) (pos:=pos) g.nd e1 e2 e3 hd rfl).cg (by simp only[wS,wE,wL,Fq,Nat.mul_one];exact Aa _) λδ D zz=>by
     rw[exec,ev]at zz;exact evs_mono hC _ .v δ _ _ (λds y=>by rw[evs]at y;exact y) zz
   ·cases c6
  ·cases h3
 ·cases h
theorem Ape{i:Int}{m t e:E}{own:List Nat}{p:P}(hC:∀f ds,Bj (C f ds)){X:Cx}{st:Stmt}(g:Gd tb C G cc k X)(h:chkS tb (.ret (.bi .all [.comp own p (.range (.bi .max [.int i,m])) t e])) (ctx X) st=true) :
  Q10 X st (cc*wS (.ret (.bi .all [.comp own p (.range (.bi .max [.int i,m])) t e]))) (exec C G (.ret (.bi .all [.comp own p (.range (.bi .max [.int i,m])) t e]))):=by
 rw[chkS.eq_def]at h;dsimp only at h
 split at h
 ·rename_i v pos
  rw[chkE.eq_def]at h;dsimp only at h
  split at h
  ·rename_i x pp ex es cpos
   simp only[Yzh]at h;obtain⟨⟨h1,_⟩,h3⟩:=h;obtain⟨e1,hg,hm⟩:=Hn g h1;have hst:=Iu h3 X.env;have hpl:=Gy h3 cpos X.env;have hes:es=[]:=by cases es with|nil=>rfl|cons _ _=>simp[chkL]at h3
   subst hes;simp only[chkL,Yzh]at h3;have hcx:∃elt gs scope vp,ex = .ListComp elt gs scope vp:=by
    have h4:=h3.1;rw[chkE.eq_def]at h4;dsimp only at h4
    split at h4
    ·exact⟨_,_,_,_,rfl⟩
    ·cases h4
   obtain⟨elt,gs,scope,vp,rfl⟩:=hcx;obtain⟨own',p',it',t',e',tg,iter,ifs,ee,rfl,hh⟩:∃own p' it t e' tg iter ifs,_:=(Rb h3.1).resolve_right (λ⟨_,_,_,_,_,_,_,_,_,_,_,_,_,_,ee,_⟩=>nomatch ee)
   cases ee
   obtain⟨q1,_,q3,_,q5,q6,q7,q8⟩:=Iv hh hC (Cg hC _) (Cg hC t) (Cg hC e) g;have hi:chkE tb (.range (.bi .max [.int i,m])) (some tg) (ctx X) iter=true:=by
    simp only[Yzh]at hh;exact hh.1.1.1.1.1.2
   have hcomp:=Amr (pos:=vp) (z:=false) g.calm g.nd (Aak hC true g hi) q3 (λz=>nomatch z) q5 q6 q7 q8 q1 λδ=>Ah hC _ .i δ
   have hA:=Ad9 (RL:=RLb X.kw) (λH H' v d hr=>⟨.inl hr,trivial⟩) hcomp.frz hst;refine(Amo ((Aoh g.sys g.rm.hu g.rm.gu g.calm .all _ rfl e1 hg hm (by rw[e1];exact Zr rfl) hA hst hpl).frz)).cg (by rw[wS];simp only[wE,wL,Nat.add_zero];rw[← Agf];exact Aa _) λδ D q=>?_
   rw[exec]at q;rw[O5];simp only[ev,evs]at q ⊢;exact q
  ·cases h
 ·cases h
end
end SF
namespace SF
open PySem PySem.Spec PyProof.Rows L2
variable[TN]
def Sh:List S→Bool
 | .ret (.bi .all [.comp _ _ (.range (.bi .max [.int _,_])) _ _])::_=>true
 | .for _ (.range (.bi .max [.int _,_])) _::_=>true
 | .set _ (.call _ [.var _,.int _] [] _)::_=>true
 | _=>false
section
variable{tb:Tb}{C:Nat→List Dat→(Dat→Prop)→Prop}{G:Nat→Option Dat}{cc k:Nat}
theorem Ah0(hC:∀f ds,Bj (C f ds)){X:Cx}(g:Gd tb C G cc k X){l:List S}{sts:List Stmt}(hf:Sh l=true)(h:chkSs tb l (ctx X) sts=true):QS0 X sts (cc*wSs l) (execs C G l):=by
 cases l with
 | nil=>simp[Sh]at hf
 | cons s r=>
  have nf:∀i,s ≠ .frz i:=λi e=>by subst e;simp[Sh]at hf
  have h':∃st sts',sts=st::sts'∧chkS tb s (ctx X) st=true∧chkSs tb r (ctx X) sts'=true:=by
   rw[chkSs.eq_def]at h
   cases sts with
   | nil=>cases s<;>first|(simp at h;done)|exact absurd rfl (nf _)
   | cons st sts'=>cases s<;>first|(exact absurd rfl (nf _))|(simp only[Yzh]at h;exact⟨_,_,rfl,h.1,h.2⟩)
  obtain⟨st,sts',rfl,h1,h2⟩:=h';have q:Q10 X st (cc*wS s) (exec C G s):=by
   unfold Sh at hf
   split at hf
   ·rename_i heq;cases heq;exact Ape hC g h1
   ·rename_i heq;cases heq;exact Apg hC g h1
   ·rename_i heq;cases heq;exact Apd hC g h1
   ·cases hf
  have c:=Aio q (ss_all hC g r sts' h2);intro E hE pins s' σ H0 H δ m D I es ex pl hfx;have hw:cc*wSs (s::r)=cc*wS s+cc*wSs r:=by rw[wSs,Ak]
  rw[hw]at pl ⊢;exact c E hE pins s' σ H0 H δ m D I es ex pl (by rw[execs]at hfx;exact hfx)
end
section
variable{P:Program}{w:World}{K:PySem.W.Frag}{mg:Str→Option Value}{base:Heap}{tb:Tb}{T:List FDef}{G:Nat→Option Dat}{prim:Nat→Option (List Dat→(Dat→Prop)→Prop)}
theorem Aq4(h:Known P w K mg base tb T G prim){a:Addr}{fd:FuncData}{i:DI}{params:Arguments}{qual:Str}{dvs:List V}{kws:List (Str×V)}{lm:Bool}(F:FunD K i.name qual params i.body i.scope dvs kws a fd)(ok:i.ok (tb.withLam lm)=true)(hlm:lm=true→An8 mg base qual i.scope a fd)(hf:Sh i.d.body=true)(k:Nat) :
  FnG0 P w K mg base (k+1) a fd i.ps (Jh ^ (k+1)) (λds Q=>execs (Bg T G prim k) G i.d.body (Bp i.d.nn ds) { nx:=λ_=>Q .non,rt:=λ_=>Q }):=by
 unfold DI.ok at ok;simp only[Yzh,beq_iff_eq]at ok;obtain⟨⟨⟨⟨o1,o2⟩,o3⟩,o4⟩,o5⟩:=ok;have S:=Fj o1;have hw:wSs i.d.body≤Jh:=Bc o5;have hC:∀f ds,Bj (Bg T G prim k f ds):=λf ds=>Dj h.mono k f ds
 refine Ank F S λcdv A outer s H hcv hr=>⟨execs (Bg T G prim k) G i.d.body,?_,λds Φ hW=>by rw[← o4];exact hW⟩
 have q:=Ah0 hC (Q9 (CXx:=CX0) (E:=λ_ _ _=>False) (outer:=outer) (H:=H) h (An1 h k) (Aj6 h.fnv k) S hcv hlm hr) hf o2;intro E hE pins s' σ H0 H' δ m D I es ex pl hfx;refine thn (q E hE pins s' σ H0 H' δ m D I es ex (pl.mono (by have:=Cd (Jh ^ k) hw;rw[Ft];omega)) hfx) λf s1 z=>z.le (StepS.refl ex) (by have:=Cd (Jh ^ k) hw;rw[Ft];omega)
end
end SF
namespace SF
open PySem PySem.Spec PyProof.Rows L2
variable[TN]
theorem Aeu{P:Program}{w:World}{K:PySem.W.Frag}{mg:Str→Option Value}{base:Heap}{x qual:Str}{params:Arguments}{body:List Stmt}{scope:Scope}{dvs:List V}{kws:List (Str×V)}{f:Addr}{fd:FuncData}{N ps:List Str}{k n:Nat}{W:List Dat→(Dat→Prop)→Prop}
  (F:FunD K x qual params body scope dvs kws f fd) (S:FnScope N ps scope)
  (hbody:∀(cdv:Value) (A:Around) (outer:List PySem.Env) (s:Shared) (H:Hp) (s1:Shared) (vs:List V) (ds:List Dat) (m:Nat) (Φ:Dat→Prop),RoomG k (A.deeper (envOfC qual scope s.heap.objs.size f cdv))→0 < s1.toks →
   L2.Inv (cxOf CX0 P w K mg base N qual scope f cdv A outer s H λ_ _ _=>False) [] (L2.start N vs) H s1→vs.length=ps.length→vs.length≤N.length→Reps ⟨K,P,w⟩ H vs ds→PotLe (n+m) H→W ds Φ →
   wpAny (model P w) (cxOf CX0 P w K mg base N qual scope f cdv A outer s H λ_ _ _=>False).A (PySem.execs body (cxOf CX0 P w K mg base N qual scope f cdv A outer s H λ_ _ _=>False).env)
    (λfl s'=>0 < s'.toks∧∃u,fl = .ret u∧∃v σ' H' d,L2.Inv (cxOf CX0 P w K mg base N qual scope f cdv A outer s H λ_ _ _=>False) [] σ' H' s'∧L2.RelV v u∧Rep ⟨K,P,w⟩ H' v d∧Step n H H'∧Φ d) (λ_ _=>False) s1) :
  FnG P w K mg base (k+1) f fd ps n W:=by
 refine⟨λA outer s H args us vs ds m Φ hr t0 e0 hb r hl hrep pl hW=>Jf F S hr e0 hb r hl λcdv s1 _ hr1 tk I=>?_⟩;refine wpAny_mono (hbody cdv A outer s H s1 vs ds m Φ hr1 (Ax t0 tk) I hl (fits S hl) hrep pl hW) ?_ λ_ _ z=>z
 rintro fl s' ⟨t',u,rfl,v,σ',H',d,J,rv,rd,st,q⟩;exact⟨u,rfl,t',v,H',J.os,J.bare,J.base,J.hok,rv,d,st,rd,q⟩
theorem Ab1{X:Cx}{pins:List (Addr×Obj)}{σ:L2.St}{H:Hp}{s:Shared}{a:Addr}{o0 o1:HO}(I:Inv X pins σ H s)(h:H a=some o0)(nt:∀xs,o0 ≠ .tup xs)(nf:∀o u,o0 ≠ .frz o u)(nb:∀ps,o0 ≠ .tbl ps)(no:∀x,o0 ≠ .own x)
  (ok:ObjOk X.prog X.w (L2.upd H a o1) s.heap a o1):Inv X pins σ (L2.upd H a o1) s:=by
 have ne:∀{b:Addr} {u:HO},H b=some u→(o0≠u)→b≠a:=λ{b u} q n z=>by subst z;rw[h]at q;exact n (Aj.inj q)
 have un:Un X.fs [] H (L2.upd H a o1) s.heap s.heap:=by
  refine⟨λb o q _ _ _=>q,λb o q _ _ _=>⟨o.slots,q⟩,λb o q nn _=>?_,λb o q _=>⟨o,q⟩,λb ys q=>?_,λb o u q=>?_,λb ps q=>⟨#[],?_⟩⟩
  ·rw[upd_ne (λz=>by subst z;rw[h]at nn;cases nn)];exact nn
  ·rw[upd_ne (ne q (nt _))];exact q
  ·rw[upd_ne (ne q (nf _ _))];exact q
  ·rw[upd_ne (ne q (nb _)),q];simp
 refine I.un (h':=s.heap) (t':=s.toks) un λb u q=>?_
 by_cases hb:b=a
 ·subst hb
  rw[upd_same]at q;cases q;exact ok
 ·rw[upd_ne hb]at q
  exact(I.hok b u q).stay (λc v _ w=>w) (λc w=>by rw[upd_ne (ne w (no _))];exact w) λc ys w=>by rw[upd_ne (ne w (nt _))];exact w
theorem Akq{X:Cx}{pins:List (Addr×Obj)}{σ:L2.St}{H:Hp}{s:Shared}{a:Addr}{z:Nat}(I:Inv X pins σ H s)(h:H a=some (Gm a z)) :
  ∃x y c:Int,(0≤x∧x < 10 ^ 301∧0≤y∧y < 2305843009213693951∧0≤c∧c≤(z:Int))∧Inv X pins σ (L2.upd H a (.lst [.int x,.int y,.int c])) s:=by
 obtain⟨⟨x,y,c,t1,t2,t3,n,e,hb⟩,_,_⟩:=I.hok a _ h;refine⟨x,y,c,hb,Ab1 I h (λ_ q=>nomatch q) (λ_ _ q=>nomatch q) (λ_ q=>nomatch q) (λ_ q=>nomatch q) ⟨show 3≤sizeLine by decide,[.int x t1,.int y t2,.int c t3],n,.cons ⟨_,rfl⟩ (.cons ⟨_,rfl⟩ (.cons ⟨_,rfl⟩ .nil)),e⟩⟩
theorem Amv{P:Program}{w:World}{H:Hp}{h:Heap}{a:Addr}{x y c:Int}{z:Nat}(hok:ObjOk P w H h a (.lst [.int x,.int y,.int c]))(hb:0≤x∧x < 10 ^ 301∧0≤y∧y < 2305843009213693951∧0≤c∧c≤(z:Int))(H':Hp):ObjOk P w H' h a (Gm a z):=by
 obtain⟨_,its,n,r,e⟩:=hok
 cases r with
 | cons r1 r=>cases r with
  | cons r2 r=>cases r with
   | cons r3 r=>
    cases r
    obtain⟨t1,rfl⟩:=r1;obtain⟨t2,rfl⟩:=r2;obtain⟨t3,rfl⟩:=r3;exact⟨⟨x,y,c,t1,t2,t3,n,e,hb⟩,⟨_,e⟩,λh1 h2 ⟨x,y,c,t1,t2,t3,n,e,hb⟩ k=>⟨x,y,c,t1,t2,t3,n,k _ e,hb⟩⟩
theorem Afc{X:Cx}{pins:List (Addr×Obj)}{σ:L2.St}{H:Hp}{s:Shared}{a:Addr}{x y c:Int}{z:Nat}(I:Inv X pins σ H s)(h:H a=some (.lst [.int x,.int y,.int c]))(hb:0≤x∧x < 10 ^ 301∧0≤y∧y < 2305843009213693951∧0≤c∧c≤(z:Int)) :
  Inv X pins σ (L2.upd H a (Gm a z)) s:=
 Ab1 I h (λ_ q=>nomatch q) (λ_ _ q=>nomatch q) (λ_ q=>nomatch q) (λ_ q=>nomatch q) (Amv (I.hok a _ h) hb _)
theorem Aea{a:Addr}{z z':Nat}(h:Gm a z=Gm a z'):z≤z':=by
 unfold Gm at h;have e:=HO.ext.inj h;have key:∃hp:Heap,hp.get? a=some { cls:=.type "list", data:=.seq #[.int 0 0,.int 0 0,.int z 0] 0 }:=by
  refine⟨{ objs:=(Bw (a+1) ({ cls:=.type "list", data:=.seq #[.int 0 0,.int 0 0,.int z 0] 0 }:Obj)).toArray },?_⟩;unfold Heap.get?;simp
 obtain⟨hp,e1⟩:=key;have q:=congrFun e hp;have q2:∃(x y c:Int) (t1 t2 t3:Tok) (n:Nat),hp.get? a=some { cls:=.type "list", data:=.seq #[.int x t1,.int y t2,.int c t3] n }∧0≤x∧x < 10 ^ 301∧0≤y∧y < 2305843009213693951∧0≤c∧c≤(z':Int):=by
  rw[← q];exact⟨0,0,z,0,0,0,0,e1,by decide,by decide,by decide,by decide,by omega,by omega⟩
 obtain⟨x,y,c,t1,t2,t3,n,e2,_,_,_,_,_,h6⟩:=q2;rw[e1]at e2;simp at e2
 omega
end SF
namespace SF
open PySem PySem.Spec PyProof.Rows L2
variable[TN]
def SOF(X:Cx)(pins:List (Addr×Obj))(a:Addr)(n:Nat)(H0 H:Hp)(D:Post)(fl:Flow)(s':Shared):Prop:=
 0 < s'.toks∧match fl with
 | .next=>∃ σ' H' δ',σ'[0]? = some (some (.ref a))∧L2.Inv X pins σ' H' s'∧EnvS X.kw σ' H0 H' δ'∧StepS n H0 H H'∧D.nx δ'
 | .ret u=>∃v σ' H' d δ',σ'[0]? = some (some (.ref a))∧L2.Inv X pins σ' H' s'∧L2.RelV v u∧Rep X.kw H' v d∧EnvS X.kw σ' H0 H' δ'∧StepS n H0 H H'∧D.rt δ' d
 | _=>False
def Q1F(X:Cx)(st:Stmt)(n:Nat)(F:Env→Post→Prop):Prop:=
 ∀(E:Value→Shared→Prop),PassesOwn (model X.prog X.w) X.A X.env E→∀(pins:List (Addr×Obj)) (s:Shared) (σ:L2.St) (H0 H:Hp) (δ:Env) (m:Nat) (D:Post) (a:Addr),0 < s.toks→L2.Inv X pins σ H s→EnvS X.kw σ H0 H δ→Ext H0 H→PotLe (n+m) H→σ[0]? = some (some (.ref a))→F δ D →
  wpAny (model X.prog X.w) X.A (PySem.exec st X.env) (SOF X pins a n H0 H D) E s
def QSF(X:Cx)(sts:List Stmt)(n:Nat)(F:Env→Post→Prop):Prop:=
 ∀(E:Value→Shared→Prop),PassesOwn (model X.prog X.w) X.A X.env E→∀(pins:List (Addr×Obj)) (s:Shared) (σ:L2.St) (H0 H:Hp) (δ:Env) (m:Nat) (D:Post) (a:Addr),0 < s.toks→L2.Inv X pins σ H s→EnvS X.kw σ H0 H δ→Ext H0 H→PotLe (n+m) H→σ[0]? = some (some (.ref a))→F δ D →
  wpAny (model X.prog X.w) X.A (PySem.execs sts X.env) (SOF X pins a n H0 H D) E s
section
variable{X:Cx}{st:Stmt}{sts:List Stmt}{n n' n'':Nat}{e:Expr}{pos:Pos}{fe:Env→(Dat→Prop)→Prop}{gc:Env→(Bool→Prop)→Prop}
theorem SOF.le{pins:List (Addr×Obj)}{a:Addr}{H0 H H1:Hp}{D:Post}{fl:Flow}{s':Shared}{k:Nat}(b:StepS n' H0 H H1)(hk:n'+n≤k)(h:SOF X pins a n H0 H1 D fl s'):SOF X pins a k H0 H D fl s':=by
 obtain⟨t,h⟩:=h;refine⟨t,?_⟩
 cases fl with
 | next=>obtain⟨σ',H',δ',h0,h1,h2,h3,h4⟩:=h;exact⟨σ',H',δ',h0,h1,h2,(b.trans h3).mono hk,h4⟩
 | ret u=>obtain⟨v,σ',H',d,δ',h0,h1,h2,h3,h6,h4,h5⟩:=h;exact⟨v,σ',H',d,δ',h0,h1,h2,h3,h6,(b.trans h4).mono hk,h5⟩
 | brk=>exact h.elim
 | cont=>exact h.elim
theorem QSF.cg{F F':Env→Post→Prop}(h:QSF X sts n F)(hn:n≤n')(e:∀ δ D,F' δ D→F δ D):QSF X sts n' F':=λE hE pins s σ H0 H δ m D a t I es ex pl h0 hf=>
 thn (h E hE pins s σ H0 H δ m D a t I es ex (pl.mono (by omega)) h0 (e _ _ hf)) λf s1 q=>q.le (StepS.refl ex) (by omega)
theorem Q1F.cg{F F':Env→Post→Prop}(h:Q1F X st n F)(hn:n≤n')(e:∀ δ D,F' δ D→F δ D):Q1F X st n' F':=λE hE pins s σ H0 H δ m D a t I es ex pl h0 hf=>
 thn (h E hE pins s σ H0 H δ m D a t I es ex (pl.mono (by omega)) h0 (e _ _ hf)) λf s1 q=>q.le (StepS.refl ex) (by omega)
theorem qsf_nil:QSF X [] 0 (λδ D=>D.nx δ):=λE hE pins s σ H0 H δ m D a t I es ex pl h0 hf=>wpAny_execs_nil ⟨t,σ,H,δ,h0,I,es,StepS.refl ex,hf⟩
theorem Ain{F1 F2:Env→Post→Prop}(h1:Q1F X st n F1)(h2:QSF X sts n' F2):QSF X (st::sts) (n+n') (λδ D=>F1 δ { D with nx:=λδ'=>F2 δ' D }):=λE hE pins s σ H0 H δ m D a t I es ex pl h0 hf=>by
 refine wpAny_execs_cons (thn (h1 E hE pins s σ H0 H δ (n'+m) _ a t I es ex (pl.mono (by omega)) h0 hf) λf s1 q=>?_);obtain⟨t1,q⟩:=q
 cases f with
 | next=>
  obtain⟨σ1,H1,δ1,e1,I1,es1,st1,q1⟩:=q;exact thn (h2 E hE pins s1 σ1 H0 H1 δ1 m D a t1 I1 es1 st1.ext (st1.pot _ (pl.mono (by omega))) e1 q1) λf s2 q2=>q2.le st1 (Aa _)
 | ret u=>obtain⟨v,σ',H',d,δ',h0,h1,h2,h3,h6,h4,h5⟩:=q;exact⟨t1,v,σ',H',d,δ',h0,h1,h2,h3,h6,h4.mono (by omega),h5⟩
 | brk=>exact q.elim
 | cont=>exact q.elim
theorem Amj(he:QE X e n (RV X.kw) fe):Q1F X (.Return (some e) pos) n (λδ D=>fe δ (D.rt δ)):=λE hE pins s σ H0 H δ m D a t I es ex pl h0 hf=>
 wpAny_Return_some (thn (he E pins s σ H δ m _ t I es.rep pl hf) λv s1 ⟨t1,x,H1,d,I1,r1,st1,b1,q1⟩=>⟨t1,x,σ,H1,d,δ,h0,I1,r1,b1,es.ext st1.ext,.of ex st1,q1⟩)
theorem Amk{x y:List Stmt}{Fa Fb:Env→Post→Prop}(hc:QT X e n gc)(ha:QSF X x n' Fa)(hb:QSF X y n'' Fb):Q1F X (.If e x y pos) (n+(n'+n'')) (λδ D=>gc δ λk=>if k=true then Fa δ D else Fb δ D):=λE hE pins s σ H0 H δ m D a t I es ex pl h0 hf=>by
 refine wpAny_If (thn (hc E pins s σ H δ (n'+n''+m) _ t I es.rep (pl.mono (by omega)) hf) λk s1 ⟨t1,H1,I1,st1,q1⟩=>?_);have ss:=StepS.of ex st1
 cases k with
 | true=>
  rw[if_pos rfl]at q1;exact thn (ha E hE pins s1 σ H0 H1 δ m D a t1 I1 (es.ext st1.ext) ss.ext (st1.pot _ (pl.mono (by omega))) h0 q1) λf s2 q2=>q2.le ss (by omega)
 | false=>
  rw[if_neg Bv]at q1;exact thn (hb E hE pins s1 σ H0 H1 δ m D a t1 I1 (es.ext st1.ext) ss.ext (st1.pot _ (pl.mono (by omega))) h0 q1) λf s2 q2=>q2.le ss (by omega)
variable{i:Nat}{x:Str}{px:Pos}
theorem Ami(hN:X.N.Nodup)(hi:X.N[i+1]? = some x)(hx:Loc X.env.scope x)(hfn:X.fn x=true∨X.env.scope.names.lookup x=some .local)(he:QE X e n (RV X.kw) fe)(hs:swapsWith e (some (.Name x px)) pos.line X.env=pure false) :
  Q1F X (.Assign [.Name x px] e pos) n (λδ D=>fe δ λd=>D.nx (δ.set (i+1) (.val d))):=λE hE pins s σ H0 H δ m D a t I es ex pl h0 hf=>by
 refine wpAny_Assign_Name (thn (he E pins s σ H δ m _ t I es.rep pl hf) λv s1 ⟨t1,y,H1,d,I1,r1,st1,b1,q1⟩=>?_) hs;refine Cr (X:=X) t1 (store_ok (Q:=λ_ s2=>L2.Inv X pins (σ.set (i+1) (some y)) H1 s2) I1 hN hi hx r1 (λs2 I2=>I2) hfn) λ_ s2 t2 I2=>?_
 have b1:Rep X.kw H1 y d:=b1;exact⟨t2,_,H1,_,by rw[Qq (by omega)];exact h0,I2,(es.ext st1.ext).kp ((es.rep.ext st1.ext).set (i+1) (s:=.val d) b1) (Kp.set σ δ (i+1) (some y) d),.of ex st1,q1⟩
variable{ix:Expr}{fx:Env→(Dat→Prop)→Prop}{spos:Pos}
theorem Amh(hN:X.N[i]? = some x)(hv:Vis X.env.scope x)(hd:(x == ("__debug__" : Str))=false)(hcd:(x == ("__classdict__" : Str))=false)(he:QE X e n (RV X.kw) fe)(hx:QE X ix n' (RV X.kw) fx)(hsw:swapsWithSole [.Subscript (.Name x px) ix spos] e pos.line X.env=pure false)(hw:swappedStores [.Subscript (.Name x px) ix spos] e X.env=pure none)
  (h1:(assignEach [.Subscript (.Name x px) ix spos] X.env).map (·.2)=[assign (.Subscript (.Name x px) ix spos) X.env])
  (ha:∀v,assign (.Subscript (.Name x px) ix spos) X.env v=(do
   let ov ← holding [v] (eval (.Name x px) X.env)
   let iv ← holding [v,ov] (eval ix X.env)
   standAt spos
   holding [v,ov,iv] (setItem ov iv v)
   release [v,ov,iv] [])) :
  Q1F X (.Assign [.Subscript (.Name x px) ix spos] e pos) (n+n') (λδ D=>fe δ λd=>Dy δ i λx=>∃l,x = .lst l∧fx δ λk=>∃j r,k = .int j∧Xd l j d=some r∧D.nx (δ.set i (.own (.lst r)))):=λE hp pins s σ H0 H δ m D a0 t I es ex pl hz0 hf=>by
 refine wpAny_Assign_stores (thn (he E pins s σ H δ (n'+m) _ t I es.rep (pl.mono (by omega)) hf) λv s1 ⟨t1,y,H1,d,I1,r1,st1,b1,q1⟩=>?_) hsw hw;rw[h1];show wpAny _ _ (assign (.Subscript (.Name x px) ix spos) X.env v) _ _ _
 have q1:Dy δ i _:=q1;unfold Dy at q1
 split at q1
 ·rename_i dd hi
  have hi:=Ja hi;obtain⟨l,rfl,q1⟩:=q1;have es1:=es.ext st1.ext;obtain⟨a,xs,hσ,hxs,hz,hr,h0⟩:=es1.ownAt hi;rw[ha];refine wpAny_bind (wpAny_holding (Je hN hv hd hcd I1 hσ ?_));refine wpAny_bind (wpAny_holding (thn (hx E pins s1 σ H1 δ m _ t1 I1 es1.rep (st1.pot _ (pl.mono (by omega))) q1) λiv s2 ⟨t2,y2,H2,d2,I2,r2,st2,b2,j,r,e2,hset,q2⟩=>?_));subst e2;have b2:Rep X.kw H2 y2 (.int j):=b2;rw[Rep]at b2;subst b2;obtain⟨k,hk,rfl⟩:=Aaj hset;have hxs2:H2 a=some (.lst xs):=st2.ext.keep hxs λ_ q=>nomatch q
  have hr2:=Reps.ext st2.ext _ _ hr;have b1':Rep X.kw H2 y d:=Rep.ext st2.ext _ _ b1;have ss:=(StepS.of ex st1).trans (StepS.of (ex.trans st1.ext) st2);refine wpAny_bind (wpAny_standAt (wpAny_bind (wpAny_holding (Cr (X:=X) t2 (set_list (X:=X.wish E) pins s2 σ H2 (.ref a) (.int j) y (.ref a) iv v (λH'=>H'=upd H2 a (.lst (xs.set k y))) (I2.wish E) rfl r2 r1 ⟨a,xs,j,k,rfl,rfl,hxs2,by rw[hr2.length];exact hk,rfl⟩) λ_ s3 t3 ⟨H3,I3,e3⟩=>?_))));subst e3;exact wpAny_release ⟨t3,σ,_,_,hz0,I3.unwish,(es1.ext st2.ext).wr hi hσ hxs2 (by rw[Ec];exact hz) (hr2.set b1' k),(ss.trans (StepS.wr (o:=.lst _) ss.ext hxs2 h0 λ_ q=>nomatch q)).mono (by omega),q2⟩
 ·exact q1.elim
end
mutual
def okF:S→Bool
 | .set (_+1) e=>(match e with | .comp ..=>false | .comp2 ..=>false|_=>true)
 | .sto _ _ _=>true
 | .ite _ a b=>okFs a && okFs b
 | .ret _=>true
 | _=>false
def okFs:List S→Bool
 | []=>true
 | s::r=>okF s && okFs r
end
section
variable{tb:Tb}{C:Nat→List Dat→(Dat→Prop)→Prop}{G:Nat→Option Dat}{cc k:Nat}
theorem Ao6{i:Nat}{e:E}(hC:∀f ds,Bj (C f ds)){X:Cx}{st:Stmt}(g:Gd tb C G cc k X)(ho:okF (.set (i+1) e)=true)(h:chkS tb (.set (i+1) e) (ctx X) st=true):Q1F X st (cc*wS (.set (i+1) e)) (exec C G (.set (i+1) e)):=by
 rw[chkS.eq_def]at h;dsimp only at h
 split at h
 ·rename_i x px v pos
  simp only[Yzh]at h;obtain⟨⟨h1,h2⟩,h3⟩:=h;obtain⟨e1,e2,e3⟩:=Vd h1;have hl:P0 v=true:=by
   cases v with
   | ListComp elt gs scope vp=>
    rcases Rb h3 with⟨own,p,it,t,e',tg,iter,ifs,rfl,rfl,hh⟩|⟨own,p,it,t,p1,it1,t1,e',tg,iter,ifs,tg1,iter1,ifs1,rfl,rfl,hh⟩
    ·simp[okF]at ho
    ·simp[okF]at ho
   | _=>rfl
  exact(Ami g.nd e1 e2 e3 ((Cg hC e).v X v g h3) ((Ad2 h2).elim (λh2=>Qw v h2 hl _ _ _) λh2=>Ad0 g h2 px _)).cg (by rw[wS];exact Aa _) λδ D q=>by rw[exec]at q;exact q
 ·cases h
theorem Ao7{e:E}(hC:∀f ds,Bj (C f ds)){X:Cx}{st:Stmt}(g:Gd tb C G cc k X)(h:chkS tb (.ret e) (ctx X) st=true):Q1F X st (cc*wS (.ret e)) (exec C G (.ret e)):=by
 rw[chkS.eq_def]at h;dsimp only at h
 split at h
 ·exact(Amj ((Cg hC e).v X _ g h)).cg (by rw[wS];exact Aa _) λδ D q=>by rw[exec]at q;exact q
 ·cases h
theorem Ao5{i:Nat}{ix e:E}(hC:∀f ds,Bj (C f ds)){X:Cx}{st:Stmt}(g:Gd tb C G cc k X)(h:chkS tb (.sto i ix e) (ctx X) st=true):Q1F X st (cc*wS (.sto i ix e)) (exec C G (.sto i ix e)):=by
 rw[chkS.eq_def]at h;dsimp only at h
 split at h
 ·rename_i x px kx sp v pos
  simp only[Yzh]at h;obtain⟨⟨⟨⟨h1,h2⟩,h3⟩,h4⟩,h5⟩:=h;obtain⟨e1,e2,e3,e4⟩:=Kc h1;have ha:∀v,assign (.Subscript (.Name x px) kx sp) X.env v=(do
   let ov ← holding [v] (eval (.Name x px) X.env)
   let iv ← holding [v,ov] (eval kx X.env)
   standAt sp
   holding [v,ov,iv] (setItem ov iv v)
   release [v,ov,iv] []):=λv=>by
   cases kx<;>first|rfl|(rw[Sy]at h4;cases h4)
  exact(Amh e1 e2 e3 e4 ((Cg hC e).v X _ g h5) ((Cg hC ix).v X _ g h4) (Yp _ v h2 h3 _ _) rfl rfl ha).cg (by rw[wS,Ak];exact Aa _) λδ D q=>by rw[exec]at q;exact q
 ·cases h
mutual
theorem Ao8(hC:∀f ds,Bj (C f ds)){X:Cx}(g:Gd tb C G cc k X):∀(s:S) (st:Stmt),okF s=true→chkS tb s (ctx X) st=true→Q1F X st (cc*wS s) (exec C G s)
 | .set (i+1) e,st,ho,h=>Ao6 hC g ho h
 | .sto i ix e,st,_,h=>Ao5 hC g h
 | .ret e,st,_,h=>Ao7 hC g h
 | .ite c a b,st,ho,h=>by
  rw[okF,Yzh]at ho;rw[chkS.eq_def]at h;dsimp only at h
  split at h
  ·simp only[Yzh]at h
   obtain⟨⟨h1,h2⟩,h3⟩:=h;exact(Amk ((Cg hC c).t X _ g h1) (ssf_all hC g a _ ho.1 h2) (ssf_all hC g b _ ho.2 h3)).cg (by rw[wS,Ak,Ak];exact Aa _) λδ D q=>by
    rw[exec]at q;exact Ah hC c .v δ _ _ (λx=>Cj x _ _ λkk hk=>by
     split at hk
     ·rename_i e;rw[if_pos e];exact hk
     ·rename_i e;rw[if_neg e];exact hk) q
  ·cases h
 | .set 0 e,st,ho,h=>by simp[okF]at ho
 | .own i e,st,ho,h=>by simp[okF]at ho
 | .unp p e,st,ho,h=>by simp[okF]at ho
 | .par os is l,st,ho,h=>by simp[okF]at ho
 | .frz i,st,ho,h=>by simp[okF]at ho
 | .app i e,st,ho,h=>by simp[okF]at ho
 | .ext i e,st,ho,h=>by simp[okF]at ho
 | .ins i ix e,st,ho,h=>by simp[okF]at ho
 | .pop i e,st,ho,h=>by simp[okF]at ho
 | .exp e,st,ho,h=>by simp[okF]at ho
 | .retN,st,ho,h=>by simp[okF]at ho
 | .pass,st,ho,h=>by simp[okF]at ho
 | .for p it b,st,ho,h=>by simp[okF]at ho
 | .whl c b,st,ho,h=>by simp[okF]at ho
theorem ssf_all(hC:∀f ds,Bj (C f ds)){X:Cx}(g:Gd tb C G cc k X):∀(l:List S) (sts:List Stmt),okFs l=true→chkSs tb l (ctx X) sts=true→QSF X sts (cc*wSs l) (execs C G l)
 | [],sts,_,h=>by
  cases sts with
  | nil=>exact qsf_nil.cg (Am _) λδ D q=>by rw[execs]at q;exact q
  | cons _ _=>simp[chkSs]at h
 | s::r,sts,ho,h=>by
  rw[okFs,Yzh]at ho;have hf:¬ ∃i,s = .frz i:=by
   rintro⟨i,rfl⟩;simp[okF]at ho
  have h':∃st sts',sts=st::sts'∧chkS tb s (ctx X) st=true∧chkSs tb r (ctx X) sts'=true:=by
   rw[chkSs.eq_def]at h
   cases sts with
   | nil=>cases s<;>first|(simp at h;done)|exact absurd ⟨_,rfl⟩ hf
   | cons st sts'=>cases s<;>first|(exact absurd ⟨_,rfl⟩ hf)|(simp only[Yzh]at h;exact⟨_,_,rfl,h.1,h.2⟩)
  obtain⟨st,sts',rfl,h1,h2⟩:=h';exact(Ain (Ao8 hC g s st ho.1 h1) (ssf_all hC g r sts' ho.2 h2)).cg (by rw[wSs,Ak];exact Aa _) λδ D q=>by rw[execs]at q;exact q
end
end
end SF
namespace SF
open PySem PySem.Spec PyProof.Rows L2
def W4:List S:=[
 .ite (.cmp .gt (.idx (.obs 0) (.int 0)) (.int 0)) [.set 2 (.op2 .mod (.idx (.obs 0) (.int 0)) (.var 1)),.sto 0 (.int 0) (.op2 .fdiv (.idx (.obs 0) (.int 0)) (.var 1)),.ret (.var 2)] [],
 .sto 0 (.int 2) (.op2 .add (.idx (.obs 0) (.int 2)) (.int 1)),
 .set 3 (.idx (.lst [.int 2147483629,.int 2147483587,.int 2147483579,.int 2147483563,.int 2147483549,.int 2147483543,.int 2147483497]) (.op2 .mod (.idx (.obs 0) (.int 2)) (.int 7))),
 .set 4 (.op2 .mod (.op2 .pow (.op2 .add (.op2 .add (.idx (.obs 0) (.int 1)) (.op2 .mul (.op2 .mul (.int 65537) (.idx (.obs 0) (.int 2))) (.idx (.obs 0) (.int 2)))) (.int 19)) (.int 3)) (.var 3)),
 .set 4 (.op2 .mod (.op2 .mul (.var 4) (.op2 .add (.op2 .mod (.var 4) (.int 10007)) (.op2 .mul (.int 97) (.idx (.obs 0) (.int 2))))) (.int 2305843009213693907)),
 .ret (.op2 .mod (.op2 .fdiv (.var 4) (.int 97)) (.var 1))]
def Asq:List S:=[
 .set 2 (.ite (.cmp .lt (.var 1) (.bi .len [.var 0])) (.idx (.var 0) (.var 1)) (.op2 .add (.op2 .mul (.int 11) (.var 1)) (.int 4))),
 .set 3 (.op2 .mul (.op2 .mod (.bi .abs [.var 2]) (.op2 .pow (.op2 .pow (.int 10) (.int 60)) (.int 5))) (.bi .int [.cmp .ge (.bi .abs [.var 2]) (.op2 .pow (.int 10) (.int 18))])),
 .ret (.lst [.var 3,.op2 .mod (.op2 .mul (.op2 .add (.op2 .add (.op2 .mod (.var 2) (.int 2305843009213693951)) (.op2 .mul (.op2 .mul (.int 7919) (.var 1)) (.var 1))) (.int 53)) (.int 48271)) (.int 2305843009213693921),.int 0])]
def An7(x y c:Int)(z:Nat):Prop:=0≤x∧x < 10 ^ 301∧0≤y∧y < 2305843009213693951∧0≤c∧c≤(z:Int)
theorem Ace(ds:List Dat):Bj (Nu ds):=by
 intro P Q h hp;unfold Nu at *
 split at hp
 ·exact⟨hp.1,λr a b=>h _ (hp.2 r a b)⟩
 ·exact hp.elim
theorem Af8(ds:List Dat):Bj (Aas ds):=by
 intro P Q h hp;unfold Aas at *
 split at hp
 ·exact⟨hp.1,h _ hp.2⟩
 ·exact hp.elim
section
variable{C:Nat→List Dat→(Dat→Prop)→Prop}{G:Nat→Option Dat}
theorem Ai5{i:Int}(h0:0≤i)(h7:i < 7):∃p:Int,atD [.int 2147483629,.int 2147483587,.int 2147483579,.int 2147483563,.int 2147483549,.int 2147483543,.int 2147483497] i=some (.int p)∧0 < p∧p < 2 ^ 31:=by
 have:i=0∨i=1∨i=2∨i=3∨i=4∨i=5∨i=6:=by omega
 rcases this with rfl|rfl|rfl|rfl|rfl|rfl|rfl<;>exact⟨_,rfl,by decide,by decide⟩
theorem Asx{c:Int}{z:Nat}(h0:0≤c)(h1:c≤(z:Int))(hz:z < Z3):c.natAbs+1≤2 ^ 30000:=by
 have:z < 2 ^ 30000:=hz;omega
theorem Acd{x y c b:Int}{z:Nat}(pb:An7 x y c z)(hb:0 < b∧b.natAbs < 2 ^ 8000)(hz:z < Z3)(Φ:Dat→Prop)(hΦ:∀r:Int,0≤r→r < b→Φ (.int r)) :
  execs C G W4 [.own (.lst [.int x,.int y,.int c]),.val (.int b),.no,.no,.no] { nx:=λ_=>False,rt:=λδ' d=>(∃x' y' c',δ'[0]? = some (.own (.lst [.int x',.int y',.int c']))∧An7 x' y' c' (z+1))∧∃r:Int,d = .int r∧Φ d }:=by
 obtain⟨hx0,hx1,hy0,hy1,hc0,hc1⟩:=pb;have hcz:=Asx hc0 hc1 hz;unfold W4;rw[execs,exec];simp only[ev,Dy,Yza,Jx,atD,Ij,M9];refine⟨_,rfl,⟨rfl,rfl,trivial,trivial⟩,?_⟩;simp only[Bs];by_cases hx:0 < x
 ·have e1:ltD (.int 0) (.int x)=true:=by simp[ltD,hx]
  rw[e1,if_pos rfl];simp only[execs,exec,ev,Dy,Du,Yza,Jx,atD,Jm,List.set,Yzb];refine⟨_,rfl,hb.1,_,rfl,hb,_,rfl,_,_,rfl,rfl,⟨_,_,_,rfl,?_⟩,_,rfl,?_⟩
  ·have q1:0≤x / b:=Int.ediv_nonneg hx0 (by omega)
   have q2:x / b≤x:=Int.ediv_le_self b hx0;exact⟨q1,by omega,hy0,hy1,hc0,by omega⟩
  ·exact hΦ _ (Ew _ (by omega)) (Ey _ hb.1)
 ·have e1:ltD (.int 0) (.int x)=false:=by simp[ltD,hx]
  rw[e1,if_neg Bv];obtain⟨p,hp1,hp2,hp3⟩:=Ai5 (i:=(c+1) % 7) (Ew _ (by decide)) (Ey _ (by decide));have hc1':(c+1).natAbs≤2 ^ 30000:=by omega
  have hm1:(65537*(c+1)).natAbs < 2 ^ 30017:=by
   rw[Zz];have:2 ^ 30017=131072*2 ^ 30000:=by rw[show 131072=2 ^ 17 from rfl,← Nat.pow_add]
   rw[this];have:=Cd 65537 hc1';have h2:0 < 2 ^ 30000:=Nat.pow_pos (by decide);show 65537*_ < _
   omega
  have hm2:(65537*(c+1)*(c+1)).natAbs < 2 ^ 60017:=by
   rw[Zz];have:2 ^ 60017=2 ^ 30017*2 ^ 30000:=by rw[← Nat.pow_add]
   rw[this];exact Ax (Nat.mul_lt_mul_of_pos_right hm1 (by omega)) (Cd _ hc1')
  have hm3:(y+65537*(c+1)*(c+1)+19).natAbs < 2 ^ 100000:=by
   have:2 ^ 60018=2*2 ^ 60017:=by rw[Ft,Jc]
   have h2:(2:Nat) ^ 64≤2 ^ 60017:=Fe (by decide) (by decide);have h3:(2:Nat) ^ 60018≤2 ^ 100000:=Fe (by decide) (by decide);have h4:(2:Nat) ^ 64=18446744073709551616:=by decide
   omega
  have hA:(c+1).natAbs < 2 ^ 100000:=Ui hc1' (Nat.pow_lt_pow_right (by decide) (by decide));have hB:(65537*(c+1)).natAbs < 2 ^ 100000:=Ax hm1 (Fe (by decide) (by decide));have a2:∀u v w:Dat,atD [u,v,w] 2=some w:=λ_ _ _=>rfl
  have a1:∀u v w:Dat,atD [u,v,w] 1=some v:=λ_ _ _=>rfl
  have s2:∀u v w t:Dat,Xd [u,v,w] 2 t=some [u,v,t]:=λ_ _ _ _=>rfl
  have hw0:0≤(y+65537*(c+1)*(c+1)+19) ^ (3:Int).toNat % p:=Ew _ (by omega);have hw1:(y+65537*(c+1)*(c+1)+19) ^ (3:Int).toNat % p < p:=Ey _ hp2;rw[execs];dsimp only;rw[execs,exec];simp only[ev,Dy,Yza,Jx,Jm];refine⟨_,a2 _ _ _,_,rfl,_,_,rfl,s2 _ _ _ _,?_⟩;rw[Yze,execs,exec];simp only[ev,evs,Dy,Yza,Jx,Jm];refine⟨_,a2 _ _ _,by decide,_,hp1,?_⟩;rw[Yzf,Yzf,Yzf,Yze,execs,exec];simp only[ev,Dy,Du,Yza,Yzb,Jx,Jm];refine⟨_,a1 _ _ _,_,a2 _ _ _,.inl (.inl (by decide)),_,a2 _ _ _,.inr ⟨hB,hA⟩,⟨by decide,by decide,hm3⟩,hp2,?_⟩;generalize (y+65537*(c+1)*(c+1)+19) ^ (3:Int).toNat % p=w at hw0 hw1;rw[Yzf,Yzf,Yzf,Yzf,Yze,execs,exec];simp only[ev,Dy,Du,Yza,Yzb,Jx,Jm];refine⟨by decide,_,a2 _ _ _,.inl (.inl (by decide)),.inl (.inl ?_),by decide,?_⟩
  ·have h2:(2:Nat) ^ 64=18446744073709551616:=by decide
   have h3:(2:Int) ^ 31=2147483648:=by decide
   omega
  rw[Yzf,Yzf,Yzf,Yzf,Yze,execs,exec];simp only[ev,Du,Yza,Yzb,Jm];refine⟨⟨by decide,by decide⟩,hb.1,⟨_,_,_,rfl,?_⟩,_,rfl,?_⟩
  ·exact⟨hx0,hx1,hy0,hy1,by omega,by omega⟩
  ·exact hΦ _ (Ew _ (by omega)) (Ey _ hb.1)
end
end SF
namespace SF
open PySem PySem.Spec PyProof.Rows L2
variable[TN]
def Aj2(H:Hp)(a:Addr):Hp:=λb=>if b=a then none else H b
theorem O7{c:Nat}:gX (λ_=>none) c=none:=by unfold gX;split<;>rfl
def tb0(fre:List Str):Tb:=⟨[],[],fre,[],[],[],[],[],[],[],[],false,[],[]⟩
section
variable{P:Program}{w:World}{K:PySem.W.Frag}{mg:Str→Option Value}{base:Heap}
theorem Aou{K:KW}{H:Hp}{vs:List V}{d e:Dat}(h:Reps K H vs [d,e]):∃v u,vs=[v,u]∧Rep K H v d∧Rep K H u e:=by
 match vs,h with
 | [v,u],h=>rw[Reps,Reps]at h;exact⟨v,u,rfl,h.1,h.2.1⟩
 | [],h=>simp[Reps]at h
 | [_],h=>simp[Reps]at h
 | _::_::_::_,h=>simp[Reps]at h
theorem Ahv{K:KW}{H1 H0:Hp}{a:Addr}{x y c b:Int}{N:List Str}(hN:N.length=5)(h:H1 a=some (.lst [.int x,.int y,.int c]))(h0:H0 a=none) :
  EnvS K (L2.start N [.ref a,.int b]) H0 H1 [.own (.lst [.int x,.int y,.int c]),.val (.int b),.no,.no,.no]:=by
 have hs:L2.start N [.ref a,.int b]=[some (.ref a),some (.int b),none,none,none]:=by
  unfold L2.start;rw[hN];rfl
 rw[hs];refine⟨⟨rfl,λi s q=>?_⟩,λi j d d' hij hi hj=>?_,λi d b' hi hb=>?_⟩
 ·match i,q with
  | 0,q=>
   cases q
   refine⟨a,rfl,_,h,show 3≤sizeLine by decide,?_⟩;rw[Reps,Reps,Reps,Reps,Rep,Rep,Rep];exact⟨rfl,rfl,rfl,trivial⟩
  | 1,q=>cases q;show Rep _ _ _ _;rw[Rep]
  | 2,q=>cases q;trivial
  | 3,q=>cases q;trivial
  | 4,q=>cases q;trivial
  | n+5,q=>cases q
 ·match i,hi,j,hj with
  | 0,_,0,_=>exact absurd rfl hij
  | 0,_,1,hj=>cases hj
  | 0,_,2,hj=>cases hj
  | 0,_,3,hj=>cases hj
  | 0,_,4,hj=>cases hj
  | 0,_,n+5,hj=>cases hj
  | 1,hi,_,_=>cases hi
  | 2,hi,_,_=>cases hi
  | 3,hi,_,_=>cases hi
  | 4,hi,_,_=>cases hi
  | n+5,hi,_,_=>cases hi
 ·match i,hi with
  | 0,_=>cases hb;exact h0
  | 1,hi=>cases hi
  | 2,hi=>cases hi
  | 3,hi=>cases hi
  | 4,hi=>cases hi
  | n+5,hi=>cases hi
theorem Ahu(sys:Kw K){a:Addr}{fd:FuncData}{i:DI}{params:Arguments}{qual:Str}{dvs:List V}{kws:List (Str×V)}(F:FunD K i.name qual params i.body i.scope dvs kws a fd)(ok:i.ok (tb0 [])=true)(hN:i.N.length=5)(hd:i.d.body=W4) :
  FnG P w K mg base 1 a fd i.ps 1 Nu:=by
 unfold DI.ok at ok;simp only[Yzh,beq_iff_eq]at ok;obtain⟨⟨⟨⟨o1,o2⟩,o3⟩,o4⟩,o5⟩:=ok;have S:=Fj o1;rw[hd]at o2;refine Aeu F S λcdv A outer s H s1 vs ds m Φ hr t1 I hl hNl hrep pl hW=>?_
 have g:Gd (tb0 []) noC (λ_=>none) 0 0 (cxOf CX0 P w K mg base i.N qual i.scope a cdv A outer s H λ_ _ _=>False):=
  ⟨rfl,S.nd,hr,S.kind,(λx hx=>nomatch hx),(λi x d hx=>by cases hx),(λf x hx=>by cases hx),sys,(λf d hd=>by cases hd),(λ_ _ _ h=>nomatch h),⟨(λ_ _ _ _ h _=>by cases h),λ_ _ _ h=>nomatch h⟩,(λ_ _ _ h=>nomatch h),⟨(λ_ _ h=>by cases h),(λ_ _ h=>by rw[O7]at h;cases h),(λ_ _ _ _ _ _ h=>by rw[O7]at h;cases h),λ_ _ _ h=>by rw[O7]at h;cases h⟩,(λ_ _ h=>nomatch h),(λh=>by cases h),(λf x hx=>by cases hx),(λ_ _ _ h=>nomatch h),(λ_ _ _ _ _ h=>nomatch h),λ_ _ h=>nomatch h⟩
 unfold Nu at hW
 split at hW
 ·rename_i b
  obtain⟨hb,hΦ⟩:=hW;obtain⟨v0,v1,rfl,r0,r1⟩:=Aou hrep;rw[Rep]at r0;rw[Rep]at r1;obtain⟨a',z,rfl,hz⟩:=r0;subst r1;obtain⟨x,y,c,pb,I1⟩:=Akq I hz;have hzm:z < Z3:=by have:=pl.2 a' z hz;omega
  have e0:(Aj2 H a') a'=none:=if_pos rfl;have ex0:Ext (Aj2 H a') (L2.upd H a' (.lst [.int x,.int y,.int c])):=λb o q=>by
   by_cases hb:b=a'
   ·subst hb;rw[e0]at q;cases q
   ·rw[show Aj2 H a' b=H b from if_neg hb]at q
    exact .inl (by rw[upd_ne hb];exact q)
  have es:=Ahv (K:=⟨K,P,w⟩) (H0:=Aj2 H a') (b:=b) hN (upd_same (H:=H) (a:=a') (o:=.lst [.int x,.int y,.int c])) e0;have pl1:PotLe (0*wSs W4+m) (L2.upd H a' (.lst [.int x,.int y,.int c])):=by
   rw[Dc,Fq];refine⟨by have:=pl.1;omega,λb z' q=>?_,pl.3.put (.ext hz)⟩;by_cases hb:b=a'
   ·subst hb;rw[upd_same]at q;cases q
   ·rw[upd_ne hb]at q;have:=pl.2 b z' q;omega
  have hs0:(L2.start i.N [.ref a',.int b])[0]? = some (some (.ref a')):=by unfold L2.start;rfl
  refine wpAny_mono (ssf_all Q5 g W4 i.body (by decide) o2 (λ_ _=>False) PassesOwn.never [] s1 _ _ _ _ m _ a' t1 I1 es ex0 pl1 hs0 (Acd pb hb hzm (λd=>Φ d) hΦ)) (λfl s' hs=>?_) λ_ _ q=>q.elim
  obtain⟨t',hs⟩:=hs
  cases fl with
  | ret u=>
   obtain⟨v,σ',H',d,δ',h0,J,rv,rd,es',st,⟨x',y',c',hδ,pb'⟩,r,rfl,hq⟩:=hs;obtain⟨a2,vs,h2,h3,_,h4,_⟩:=es'.ownAt hδ;rw[h0]at h2
   cases h2
   have e3:vs=[.int x',.int y',.int c']:=by
    match vs,h4 with
    | [p,q,t],h4=>
     rw[Reps,Reps,Reps,Rep,Rep,Rep]at h4;rw[h4.1,h4.2.1,h4.2.2.1]
    | [],h4=>simp[Reps]at h4
    | [_],h4=>simp[Reps]at h4
    | [_,_],h4=>simp[Reps]at h4
    | _::_::_::_::_,h4=>simp[Reps]at h4
   subst e3;rw[Rep]at rd;subst rd;refine⟨t',u,rfl,.int r,σ',_,.int r,Afc J h3 pb',rv,by rw[Rep],⟨λb o q=>?_,λm' q=>?_⟩,hq⟩
   ·by_cases hb:b=a'
    ·subst hb
     rw[hz]at q;cases q;exact .inr (.inl ⟨⟨z,rfl⟩,z+1,upd_same⟩)
    ·have:=st.ext b o (by rw[show Aj2 H a' b=H b from if_neg hb];exact q)
     rw[upd_ne hb];exact this
   ·have pm:PotLe m' H':=st.pot m' (by
     rw[Dc,Fq];refine⟨by have:=q.1;omega,λb z' k=>?_,q.3.put (.ext hz)⟩;by_cases hb:b=a'
     ·subst hb;rw[upd_same]at k;cases k
     ·rw[upd_ne hb]at k;have:=q.2 b z' k;omega)
    refine⟨pm.1,λb z' k=>?_,pm.3.put (.lst h3)⟩;by_cases hb:b=a'
    ·subst hb
     rw[upd_same]at k;have:=Aea (Aj.inj k).symm;have:=q.2 b z hz;omega
    ·rw[upd_ne hb]at k
     exact pm.2 b z' k
  | next=>
   obtain⟨_,_,_,_,_,_,_,q⟩:=hs;exact q.elim
  | brk=>exact hs.elim
  | cont=>exact hs.elim
 ·exact hW.elim
theorem Ajp{n:Nat}(h:n < 2 ^ 250):n < 2 ^ 100000:=Ax h (Fe (by decide) (by decide))
def Aat:S:=.set 2 (.ite (.cmp .lt (.var 1) (.bi .len [.var 0])) (.idx (.var 0) (.var 1)) (.op2 .add (.op2 .mul (.int 11) (.var 1)) (.int 4)))
def Xk:S:=.set 3 (.op2 .mul (.op2 .mod (.bi .abs [.var 2]) (.op2 .pow (.op2 .pow (.int 10) (.int 60)) (.int 5))) (.bi .int [.cmp .ge (.bi .abs [.var 2]) (.op2 .pow (.int 10) (.int 18))]))
def Tz:E:=.lst [.var 3,.op2 .mod (.op2 .mul (.op2 .add (.op2 .add (.op2 .mod (.var 2) (.int 2305843009213693951)) (.op2 .mul (.op2 .mul (.int 7919) (.var 1)) (.var 1))) (.int 53)) (.int 48271)) (.int 2305843009213693921),.int 0]
theorem Acz{C:Nat→List Dat→(Dat→Prop)→Prop}{G:Nat→Option Dat}{l:List Int}{k:Int}(h0:0≤k)(h1:k≤1000)(Ψ:Dat→Prop)(hΨ:∀x y:Int,An7 x y 0 0→Ψ (.lst [.int x,.int y,.int 0])) :
  exec C G Aat [.val (.scr l),.val (.int k),.no,.no] { nx:=(λδ=>exec C G Xk δ { nx:=(λδ=>ev C G Tz .v δ Ψ),rt:=λ_ _=>False }),rt:=λ_ _=>False }:=by
 have rest:∀cell:Int,exec C G Xk (List.set [.val (.scr l),.val (.int k),.no,.no] 2 (.val (.int cell))) { nx:=(λδ=>ev C G Tz .v δ Ψ),rt:=λ_ _=>False }:=by
  intro cell;unfold Xk Tz;have e1:(10:Int) ^ (60:Int).toNat=10 ^ 60:=rfl;have e2:((10:Int) ^ 60) ^ (5:Int).toNat=(10 ^ 60) ^ 5:=rfl;have e3:(10:Int) ^ (18:Int).toNat=10 ^ 18:=rfl;have hp0:(0:Int) < (10 ^ 60) ^ 5:=by decide
  have hq0:0≤(cell.natAbs:Int) % (10 ^ 60) ^ 5:=Ew _ (by decide);have hq1:(cell.natAbs:Int) % (10 ^ 60) ^ 5 < (10 ^ 60) ^ 5:=Ey _ hp0;have h2a:(10:Int).natAbs < 2 ^ 100000:=Ajp (by decide);have h2b:((10:Int) ^ 60).natAbs < 2 ^ 100000:=Ajp (by decide);rw[Yzf,Yzf,Yze,exec];simp only[ev,evs,Du,Yza,Yzb,biW,Adp,Adf,Ij,M9,Jm,e1,e2,e3];refine⟨⟨by decide,by decide,h2a⟩,⟨by decide,by decide,h2b⟩,hp0,⟨by decide,by decide,h2a⟩,⟨rfl,rfl,trivial,trivial⟩,?_⟩;generalize (cell.natAbs:Int) % (10 ^ 60) ^ 5=q at hq0 hq1;generalize (!ltD (.int cell.natAbs) (.int (10 ^ 18)))=t;refine⟨?_,?_⟩
  ·refine .inl (.inr ?_)
   cases t<;>decide
  ·rw[Yzf,Yzf,Yzf,Yze]
   simp only[Yza,Yzb];refine⟨by decide,.inl (.inl (by decide)),?_,.inl (.inr (by decide)),by decide,?_⟩
   ·left;left
    rw[Zz,show(7919:Int).natAbs=7919 from rfl];have h3:(2:Nat) ^ 64=18446744073709551616:=by decide
    omega
   ·refine hΨ _ _ ⟨?_,?_,Ew _ (by decide),?_,by decide,by decide⟩
    ·cases t
     ·simp
     ·simpa using hq0
    ·have:((10:Int) ^ 60) ^ 5 < 10 ^ 301:=by decide +kernel
     have h0:(0:Int) < 10 ^ 301:=by decide +kernel
     cases t
     ·simpa using h0
     ·simp only[if_true,Int.mul_one];omega
    ·have:=Ey ((cell % 2305843009213693951+7919*k*k+53)*48271) (show(0:Int) < 2305843009213693921 by decide)
     omega
 unfold Aat;rw[exec];simp only[ev,evs,Du,Yza,Yzb,biW,Rz,Ij,M9,Jm,Bs,Jx];refine⟨⟨rfl,rfl,trivial,trivial⟩,?_⟩
 cases hk:ltD (.int k) (.int l.length)with
 | true=>
  rw[if_pos rfl];have lt:k < l.length:=by simpa [ltD]using hk
  have hn:k.toNat < l.length:=by omega
  refine⟨.int l[k.toNat],?_,rest _⟩;unfold atD atI ixN;rw[Yzi,if_pos h0,if_pos lt];simp[hn]
 | false=>
  rw[if_neg Bv];refine⟨.inl (.inl (by decide)),rest _⟩
theorem Ql{tb:Tb}{s:S}{r:List S}{c:Ck}{sts:List Stmt}(hf:∀i,s ≠ .frz i)(h:chkSs tb (s::r) c sts=true):∃st sts',sts=st::sts'∧chkS tb s c st=true∧chkSs tb r c sts'=true:=by
 rw[chkSs.eq_def]at h
 cases sts with
 | nil=>cases s<;>first|(simp at h;done)|exact absurd rfl (hf _)
 | cons st sts'=>cases s<;>first|(exact absurd rfl (hf _))|(simp only[Yzh]at h;exact⟨_,_,rfl,h.1,h.2⟩)
theorem Amu(sys:Kw K){a:Addr}{fd:FuncData}{i:DI}{params:Arguments}{qual:Str}{dvs:List V}{kws:List (Str×V)}(F:FunD K i.name qual params i.body i.scope dvs kws a fd)(ok:i.ok (tb0 ["len", "abs", "int"])=true)(hf:∀x∈(["len", "abs", "int"]:List Str),mg x=none)(hN:i.N.length=4)(hd:i.d.body=Asq) :
  FnG P w K mg base 1 a fd i.ps 1 Aas:=by
 unfold DI.ok at ok;simp only[Yzh,beq_iff_eq]at ok;obtain⟨⟨⟨⟨o1,o2⟩,o3⟩,o4⟩,o5⟩:=ok;have S:=Fj o1;rw[hd]at o2;refine Aeu F S λcdv A outer s H s1 vs ds m Φ hr t1 I hl hNl hrep pl hW=>?_
 have g:Gd (tb0 ["len", "abs", "int"]) noC (λ_=>none) 0 0 (cxOf CX0 P w K mg base i.N qual i.scope a cdv A outer s H λ_ _ _=>False):=
  ⟨rfl,S.nd,hr,S.kind,hf,(λi x d hx=>by cases hx),(λf x hx=>by cases hx),sys,(λf d hd=>by cases hd),(λ_ _ _ h=>nomatch h),⟨(λ_ _ _ _ h _=>by cases h),λ_ _ _ h=>nomatch h⟩,(λ_ _ _ h=>nomatch h),⟨(λ_ _ h=>by cases h),(λ_ _ h=>by rw[O7]at h;cases h),(λ_ _ _ _ _ _ h=>by rw[O7]at h;cases h),λ_ _ _ h=>by rw[O7]at h;cases h⟩,(λ_ _ h=>nomatch h),(λh=>by cases h),(λf x hx=>by cases hx),(λ_ _ _ h=>nomatch h),(λ_ _ _ _ _ h=>nomatch h),λ_ _ h=>nomatch h⟩
 unfold Aas at hW
 split at hW
 ·rename_i l k
  obtain⟨⟨k0,k1⟩,hΦ⟩:=hW;have inv:∃st1 st2 st3,i.body=[st1,st2,st3]∧chkS (tb0 ["len", "abs", "int"]) Aat ⟨i.N,i.scope,λ_=>true⟩ st1=true ∧
    chkS (tb0 ["len", "abs", "int"]) Xk ⟨i.N,i.scope,λ_=>true⟩ st2=true ∧
    chkS (tb0 ["len", "abs", "int"]) (.ret Tz) ⟨i.N,i.scope,λ_=>true⟩ st3=true:=by
   change chkSs _ [Aat,Xk,.ret Tz] _ _=true at o2
   have nf1:∀i,Aat ≠ .frz i:=λi e=>nomatch e
   have nf3:∀i,SF.S.ret Tz≠SF.S.frz i:=λi e=>by cases e
   have nf2:∀i,Xk ≠ .frz i:=λi e=>nomatch e
   obtain⟨st1,r1,e1,c1,o2⟩:=Ql nf1 o2;obtain⟨st2,r2,e2,c2,o2⟩:=Ql nf2 o2;obtain⟨st3,r3,e3,c3,o2⟩:=Ql nf3 o2;rw[chkSs]at o2;have er:r3=[]:=by cases r3 with|nil=>rfl|cons _ _=>simp at o2
   exact⟨_,_,_,by rw[e1,e2,e3,er],c1,c2,c3⟩
  obtain⟨st1,st2,st3,hbd,c1,c2,c3⟩:=inv;rw[hbd];have es:EnvS ⟨K,P,w⟩ (L2.start i.N vs) H H [.val (.scr l),.val (.int k),.no,.no]:=by
   have e:=Ox hrep hNl;rw[hN]at e;exact⟨e,(λp j d d' _ hp=>absurd hp (Io (n:=4) (ds:=[.scr l,.int k]))),(λp d b hp=>absurd hp (Io (n:=4) (ds:=[.scr l,.int k])))⟩
  have q1:=Aih Q5 g c1;have q2:=Aih Q5 g c2;have pl0:PotLe (0+m) H:=pl.mono (by omega);refine wpAny_execs_cons (thn (q1 (λ_ _=>False) PassesOwn.never [] s1 _ H H _ m _ t1 I es (Ext.refl H) (by rw[Dc];exact pl.mono (by omega)) (Acz k0 k1 (λd=>∃x y:Int,An7 x y 0 0∧d = .lst [.int x,.int y,.int 0]) λx y h=>⟨x,y,h,rfl⟩)) λf s2 ⟨t2,z1⟩=>?_)
  cases f with
  | next=>
   obtain⟨σ1,H1,δ1,I1,es1,sp1,z1⟩:=z1;have pl1:PotLe (0+m) H1:=sp1.pot (0+m) (by rw[Dc];exact pl.mono (by omega));refine wpAny_execs_cons (thn (q2 (λ_ _=>False) PassesOwn.never [] s2 _ H H1 _ m _ t2 I1 es1 sp1.ext (by rw[Dc];exact pl1.mono (by omega)) z1) λf s3 ⟨t3,z2⟩=>?_)
   cases f with
   | next=>
    obtain⟨σ2,H2,δ2,I2,es2,sp2,z2⟩:=z2;dsimp only at z2;have pl2:PotLe (0+m) H2:=sp2.pot (0+m) (by rw[Dc];exact pl1.mono (by omega));rw[chkS.eq_def]at c3;dsimp only at c3
    split at c3
    ·rename_i v pos
     have he:=(Cg (tb:=tb0 ["len", "abs", "int"]) (G:=λ_=>none) (cc:=0) (k:=0) Q5 Tz).o _ v g c3 rfl;have pl3:PotLe (0*wE Tz+m) H2:=by rw[Dc];exact pl2.mono (by omega)
     refine wpAny_execs_cons (wpAny_Return_some (thn (he (λ_ _=>False) [] s3 σ2 H2 δ2 m _ t3 I2 es2.rep pl3 z2) λu s4 ⟨t4,y0,H3,d,I3,r3,st3,b3,x,y,pb,hd⟩=>?_));subst hd;have b3:RO ⟨K,P,w⟩ H2 H3 y0 (.lst [.int x,.int y,.int 0]):=b3;obtain⟨a',rfl,hn,vs3,h3,_,h4⟩:=b3.fresh rfl;have e3:vs3=[.int x,.int y,.int 0]:=by
      match vs3,h4 with
      | [p,q,t],h4=>
       rw[Reps,Reps,Reps,Rep,Rep,Rep]at h4;rw[h4.1,h4.2.1,h4.2.2.1]
      | [],h4=>simp[Reps]at h4
      | [_],h4=>simp[Reps]at h4
      | [_,_],h4=>simp[Reps]at h4
      | _::_::_::_::_,h4=>simp[Reps]at h4
     subst e3;have hn0:H a'=none:=sp2.ext.none hn;have ex3:Ext H H3:=sp2.ext.trans st3.ext;refine⟨t4,u,rfl,.ref a',σ2,_,.pot,Afc I3 h3 pb,r3,by rw[Rep];exact⟨a',0,rfl,upd_same⟩,⟨λb o q=>?_,λm' q=>?_⟩,hΦ⟩
     ·have hb:b≠a':=λe=>by subst e;rw[hn0]at q;cases q
      rw[upd_ne hb];exact ex3 b o q
     ·have pm:PotLe m' H3:=st3.pot m' (by
       rw[Dc];exact sp2.pot _ (by
        rw[Dc];exact(sp1.pot (0+(0+m')) (by rw[Dc];exact q.mono (by omega))).mono (by omega)))
      refine⟨pm.1,λb z' k=>?_,pm.3.put (.lst h3)⟩;by_cases hb:b=a'
      ·subst hb
       rw[upd_same]at k;have:=Aea (Aj.inj k).symm;have:=pm.1;omega
      ·rw[upd_ne hb]at k
       exact pm.2 b z' k
    ·cases c3
   | ret u=>obtain⟨_,_,_,_,_,_,_,_,_,_,q⟩:=z2;exact q.elim
   | brk=>obtain⟨_,_,_,_,_,_,q⟩:=z2;exact q.elim
   | cont=>obtain⟨_,_,_,_,_,_,q⟩:=z2;exact q.elim
  | ret u=>obtain⟨_,_,_,_,_,_,_,_,_,_,q⟩:=z1;exact q.elim
  | brk=>obtain⟨_,_,_,_,_,_,q⟩:=z1;exact q.elim
  | cont=>obtain⟨_,_,_,_,_,_,q⟩:=z1;exact q.elim
 ·exact hW.elim
end
end SF
namespace SF
open PySem PySem.Spec PyProof.Rows L2
theorem Ny{s f x:Str}{st:Stmt}(h:Vf s f x st=true):∃p1 p2 p3 p4,st = .Assign [.Attribute (.Name s p1) f p2] (.Name x p3) p4:=by
 unfold Vf at h
 split at h
 ·simp only[Yzh,beq_iff_eq]at h
  obtain⟨rfl,rfl,rfl⟩:=h;exact⟨_,_,_,_,rfl⟩
 ·cases h
def Aon(f:Str)(ps:List Str)(sc:Scope)(body:List Stmt):Bool:=match body,ps with
 | [b],[s,a]=>Vf s f a b && ([s,a].all λx=>Ahm sc x && Og x)
 | _,_=>false
def XI.ok(c:XI):Bool:=Ma c.ps c.ps c.scope && (Aon c.fld c.ps c.scope c.body && Jz c.fld.cps.toList.length sizeLine)
def XI.binds(c:XI):Prop:=∀(kV doc pm:Value) (an:Option Addr) (cdv ct:Value) (us:List Value),us.length=2→bindArgs (PySem.W.fnOf "__init__" c.qual c.params c.body c.scope .none kV doc pm an cdv ct) ⟨us,[]⟩=pure (c.ps.zip us)
theorem Ahe[TN]{P:Program}{w:World}{K:PySem.W.Frag}{mg:Str→Option Value}{base:Heap}{C f:Addr}{fd:FuncData}{c:XI}{kws:List (Str×V)}(F:FunD K "__init__" c.qual c.params c.body c.scope [] kws f fd)(ok:c.ok=true)(T:OexC K C)(no:PySem.W.findIn K (.ref C) c.fld=some none):c.ps.length=2∧FnOk P w K mg base CX0 1 f fd c.ps (spX C c.fld):=by
 unfold XI.ok at ok;simp only[Yzh]at ok;obtain⟨o1,o2,_⟩:=ok;have S:=Fj o1;obtain⟨fl,qu,params,body,sc,ps⟩:=c;dsimp only at *;unfold Aon at o2
 split at o2
 ·rename_i b s a
  simp only[Yzh,Eb,Ko,Gx]at o2;obtain⟨h1,⟨v0,w0⟩,v1,w1⟩:=o2;obtain⟨_,_,_,_,rfl⟩:=Ny h1;refine⟨rfl,F.ok S (λvs H Q E h=>?_) λcdv A outer st H vs Q E hr h=>?_⟩
  ·obtain⟨e,y,rfl,_⟩:=h
   rfl
  ·obtain⟨e,y,rfl,hp,q⟩:=h
   obtain⟨x0,y0,_⟩:=Hl w0;obtain⟨x1,y1,_⟩:=Hl w1;refine⟨_,PSs.nox (pss_one (ps_ost (pv 0 rfl (Ka v0) x0 y0) (pv 1 rfl (Ka v1) x1 y1) rfl)),?_⟩;exact⟨_,rfl,_,rfl,e,C,rfl,T,no,.inl ⟨hp,λdx hd hne=>q dx hd hne⟩⟩
 ·cases o2
theorem Am0{K:PySem.W.Frag}{C:Addr}(h:Aqu K C=true):∃nm q N bs bm sn sub ab col dd k0 k1 k2 k3 k5,K.lookup C=some (excClassObj nm q C N bs bm true sn sub ab col dd k0 k1 k2 k3 k5 "ValueError.__new__")∧PySem.HandSPX.refsVE bm=true:=by
 unfold Aqu at h
 split at h
 ·rename_i t dd cd sl ho
  rw[Yzh]at h;obtain⟨et,h⟩:=h;have et:=of_decide_eq_true et;subst et
  split at h
  ·rename_i C' bm k0 k1 k2 k3 n k5 hm hs
   simp only[Yzh,beq_iff_eq,Bf]at h;obtain⟨rfl,rfl,hdel,hdct,hr⟩:=h;refine⟨cd.name,cd.qualname,cd.ns,cd.bases,bm,cd.slotNames,cd.subclasses,cd.abstract,cd.collection,dd,k0,k1,k2,k3,k5,?_,hr⟩;have e1:sl = #[k0,k1,k2,k3,some (.builtin "ValueError.__new__"),k5]:=by
    obtain⟨l⟩:=sl;have hs:l=_:=hs;rw[hs]
   have e2:cd={ name:=cd.name,bases:=cd.bases,mro:=.ref C'::bm,ns:=cd.ns,qualname:=cd.qualname,hasDict:=true,slotNames:=cd.slotNames,subclasses:=cd.subclasses,abstract:=cd.abstract,collection:=cd.collection,hasDel:=false }:=by
    rw[← hm,← hdct,← hdel]
   rw[ho,e1];exact congrArg some (by rw[e2])
  ·cases h
 ·cases h
theorem Ahd{K:PySem.W.Frag}{xs:List XJ}(h:Z4 K xs=true){c c':Nat}{x y:XJ}(hx:xs[c]? = some x)(hy:xs[c']? = some y):PySem.W.exmOne K (.ref (He.ga K x.name)) (.ref (He.ga K y.name))=some (Yq c (some c'))∧PySem.W.kitOne K (.ref (He.ga K x.name)) (.ref (He.ga K y.name))=some (Yq c (some c')):=by
 unfold Z4 at h;have h1:=Ai.mp h _ (Ae (i:=c) (by rw[Ce,hx];rfl));have h2:=Ai.mp h1 _ (Ae (i:=c') (by rw[Ce,hy];rfl));have h3:(decide (PySem.W.exmOne K (.ref (He.ga K x.name)) (.ref (He.ga K y.name))=some (Yq c (some c'))) && decide (PySem.W.kitOne K (.ref (He.ga K x.name)) (.ref (He.ga K y.name))=some (Yq c (some c'))))=true:=h2;rw[Yzh]at h3;exact⟨of_decide_eq_true h3.1,of_decide_eq_true h3.2⟩
theorem Ahf[TN]{P:Program}{w:World}{K:PySem.W.Frag}{mg:Str→Option Value}{base:Heap}{x:XJ}{c:XI}(h:Wz K x=true)(hc:x.ini=some c)(ok:c.ok=true)(bd:c.binds){fd:FuncData}(F:FunD K "__init__" c.qual c.params c.body c.scope [] [] (He.ma K (He.ga K x.name) "__init__") fd) :
  c.fld.cps.toList.length≤sizeLine∧XcOk P w K mg base (He.ga K x.name) c.fld:=by
 unfold Wz at h;rw[hc]at h;simp only[Yzh,decide_eq_true_eq]at h;obtain⟨⟨h1,h2,h3,h4,h5,h6,h7,h8,h9,h10⟩,_⟩:=h;have X:=xfB_ok h5;have T:OexC K (He.ga K x.name):=⟨Am0 h1,h2,X.exC,h3,h4⟩;unfold ecB at h6;simp only[Yzh,decide_eq_true_eq]at h6;obtain⟨g1,g2,g3,g4⟩:=h6;obtain⟨i1,i2⟩:=Ahe (P:=P) (w:=w) (mg:=mg) (base:=base) F ok T h8;have o3:Jz c.fld.cps.toList.length sizeLine=true:=by
  unfold XI.ok at ok;simp only[Yzh]at ok;exact ok.2.2
 refine⟨Bc o3,T,X,⟨X.ga,X.gg,X.exC,X.hdC,g1,g2,g3,g4⟩,h7,h8,_,fd,c.ps,h9,h10,i2,?_⟩;obtain⟨oc,od,dV,kV,doc,pm,an,cdv,ct,osl,rfl,lk,hcd,hD,hK⟩:=F.ex
 rcases hD with⟨_,rfl⟩|⟨e,_⟩
 ·intro s us _ hl
  rw[Bu]at hl ⊢;exact .of_eq (bd kV doc pm an cdv ct us (by rw[hl,i1]))
 ·exact absurd rfl e
end SF
namespace SF
open PySem PySem.Spec PyProof.Rows L2
theorem Aai{K:KW}{H:Hp}{d:Dat}{v:V}(h:Afw d=some v):Rep K H v d:=by
 cases d<;>simp only[Afw]at h<;>try (cases h;done)
 ·cases h;rw[Rep]
 ·split at h
  ·cases h;rw[Rep];exact⟨rfl,‹_›⟩
  ·cases h
theorem Xa{K:KW}{H:Hp}:∀{l:List Dat} {vs:List V},Xb l=some vs→Reps K H vs l
 | [],vs,h=>by rw[Xb]at h;cases h;rw[Reps];trivial
 | d::r,vs,h=>by
  rw[Xb]at h
  cases hd:Afw d with
  | none=>rw[hd]at h;cases h
  | some v=>
   cases hr:Xb r with
   | none=>rw[hd,hr]at h;cases h
   | some ws=>
    rw[hd,hr]at h
    cases h
    rw[Reps];exact⟨Aai hd,Xa hr⟩
theorem Agw[TN]{P:Program}{w:World}{K:PySem.W.Frag}{h:Heap}{mg:Str→Option Value}(X:K.In h)(G:h.Ns mainGlobals mg){c:Str×Dat}(e:Sv K c=true):∃u v,mg c.1=some u∧L2.RelV v u∧∀H,Rep ⟨K,P,w⟩ H v c.2:=by
 have sim:∀d,(match Afw d with
  | some v=>(match PySem.W.nsIn K mainGlobals c.1 with
   | some (some u)=>He.relB v u
   | _=>false)
  | none=>false)=true→∃u v,mg c.1=some u∧L2.RelV v u∧∀H,Rep ⟨K,P,w⟩ H v d:=by
  intro d e
  split at e
  ·rename_i v hv
   split at e
   ·rename_i u hu
    exact⟨u,v,PySem.W.mg_of X G hu,He.relB_ok e,λH=>Aai hv⟩
   ·cases e
  ·cases e
 obtain⟨x,d⟩:=c;unfold Sv at e
 cases d with
 | tup l=>
  dsimp only at e
  split at e
  ·rename_i a ha
   split at e
   ·rename_i t its n sl hk
    simp only[Yzh,decide_eq_true_eq]at e;obtain⟨e1,e2,e3⟩:=e
    split at e3
    ·rename_i vs hv
     have r:=He.relAll_ok e3;have rr:∀H,Reps ⟨K,P,w⟩ H vs l:=λH=>Xa hv
     refine⟨_,.ref a,PySem.W.mg_of X G ha,rfl,λH=>?_⟩;rw[Rep];subst e1;refine⟨a,vs,rfl,.inr ⟨_,its,n,hk,rfl,rfl,rfl,e2,r⟩,?_,rr H⟩;have h1:vs.length=l.length:=(rr (λ_=>none)).length;have h2:vs.length=its.size:=by have:=r.length;simpa using this
     omega
    ·cases e3
   ·cases e
  ·cases e
 | _=>exact sim _ e
theorem Aky{K:PySem.W.Frag}(h:Ahy K=true):Kw K:=by
 unfold Ahy at h
 split at h
 ·rename_i o e
  split at h
  ·rename_i t e2
   exact⟨o,e,by rw[e2,of_decide_eq_true h]⟩
  ·cases h
 ·cases h
open He in
def SaysC(cs:List (Str×Dat))(fa:List Fa)(fn:List DefD)(K:PySem.W.Frag):Prop:=Aqw cs fa fn K=valD fn
def Aaa(t:Qn):Str×List (List Nat×Int):=(t.1,t.2.map λp=>(p.1.cps.toList,p.2))
section
open He
variable{cs:List (Str×Dat)}{fa:List Fa}{fn:List DefD}{K:PySem.W.Frag}
theorem SaysC.parts(c:SaysC cs fa fn K):(fa.all λf=>f.ok K)=true∧(cs.all (Sv K))=true∧Ahy K=true∧(fn.all λd=>d.ok K)=true:=by
 have c1:((fa.all λf=>f.ok K) && (cs.all (Sv K) && (Ahy K && fn.all λd=>d.ok K)))=true:=congrArg (λz:AlD=>z.1) c;simp only[Yzh]at c1;exact c1
theorem SaysC.fact(c:SaysC cs fa fn K){f:Fa}(h:f∈fa):f.ok K=true:=Ai.mp c.parts.1 f h
theorem SaysC.const(c:SaysC cs fa fn K){q:Str×Dat}(h:q∈cs):Sv K q=true:=Ai.mp c.parts.2.1 q h
theorem SaysC.def_(c:SaysC cs fa fn K){d:DefD}(i:Nat)(h:fn[i]? = some d):∃fd,FunD K d.name d.qual d.params d.body d.scope (d.dvs K) (d.kws K) (fAd K d.at_) fd:=by
 have one:=congrArg (λz:AlD=>z.2[i]?) c;have one:(fn.map λd=>fnW K d.at_)[i]? = (fn.map DefD.val)[i]? := one;simp only[Af,h,Option.map_some,Aj.injEq]at one;exact DefD.funD one (Ai.mp c.parts.2.2.2 d (Ae h))
end
section
open He
variable{cs:List (Str×Dat)}{ts:List Qn}{xs:List XJ}{ls:List Str}{fa:List Fa}{fn:List DefD}{w:World}{K:PySem.W.Frag}
theorem SaysW.c(c:SaysW cs ts xs ls fa fn w K):SaysC cs fa fn K:=congrArg (λz:AlW=>z.1.1) c
theorem SaysW.all(c:SaysW cs ts xs ls fa fn w K):(ts.all λt=>valsB K (ga K t.1) (t.2.map λp=>(p.1,.int p.2)))=true∧xs.all (Wz K)=true∧Z4 K xs=true∧Aem K ls=true:=by
 have e:((ts.all λt=>valsB K (ga K t.1) (t.2.map λp=>(p.1,.int p.2))) && (xs.all (Wz K) && (Z4 K xs && Aem K ls)))=true:=congrArg (λz:AlW=>z.1.2) c;simp only[Yzh]at e;exact e
theorem SaysW.vals(c:SaysW cs ts xs ls fa fn w K){t:Qn}(h:t∈ts):valsB K (ga K t.1) (t.2.map λp=>(p.1,.int p.2))=true:=Ai.mp c.all.1 t h
theorem SaysW.keys(c:SaysW cs ts xs ls fa fn w K){i:Nat}{t:Qn}(h:ts[i]? = some t):dicW K (ga K t.1)=some (keysIn w.params (t.2.map (·.1))):=by
 have e:ts.map (λt=>dicW K (ga K t.1))=ts.map λt=>some (keysIn w.params (t.2.map (·.1))):=congrArg (λz:AlW=>z.2) c
 have e2:=congrArg (λl=>l[i]?) e;simp only[Af,h,Option.map_some,Aj.injEq]at e2;exact e2
theorem SaysW.lams(c:SaysW cs ts xs ls fa fn w K):(∀x∈ls,PySem.W.tabIn K x=some (Hz K x))∧(ls.map λx=>(Hz K x).2).Nodup:=by
 have e:=c.all.2.2.2;unfold Aem at e;rw[Yzh,decide_eq_true_eq]at e;refine⟨λx hx=>?_,e.2⟩;have s:=Ai.mp e.1 x hx;unfold Hz
 cases q:PySem.W.tabIn K x with
 | none=>rw[q]at s;cases s
 | some p=>rfl
theorem Ana{z:DictEntry}{k:Str}{n:Int}(hz:He.keyOf z=some (k,n)):∃t,z.key = .str k t:=by
 obtain⟨hash,key,val⟩:=z
 cases key with
 | str y t=>
  have w:some (y,hash)=some (k,n):=hz
  cases w
  exact⟨t,rfl⟩
 | _=>cases hz
theorem Afk{P:Params}{a:Addr}{ks:List Str}(h:dicW K a=some (keysIn P ks)){es:Array DictEntry}{n:Nat}(hl:K.lookup a=some ⟨.type "dict", none,.dict es n,#[]⟩){x:Str}(hx:x∉ks):PySem.W.nsIn K a x=some none:=by
 have hm:es.toList.map He.keyOf=keysIn P ks:=by
  unfold dicW at h;rw[hl]at h;have h:(match decide ("dict" = "dict") && ((#[]:Array (Option Value)).isEmpty && !(a == sysModules))with
   | true=>some (es.toList.map He.keyOf)
   | false=>none)=some (keysIn P ks):=h
  split at h
  ·exact Aj.inj h
  ·cases h
 have each:∀e∈es.toList,∃k t,k∈ks∧e.key = .str k t:=λe he=>by
  have h1:He.keyOf e∈He.keysIn P ks:=by rw[← hm];exact Ac.mpr ⟨e,he,rfl⟩
  obtain⟨k,hk,e1⟩:=Ac.mp h1;obtain⟨t,ht⟩:=Ana e1.symm;exact⟨k,t,hk,ht⟩
 have f1:es.toList.find? (λe=>e.key.isStr x)=none:=Tr.mpr λe he q=>by
  obtain⟨k,t,hk,ek⟩:=each e he;rw[ek]at q;have q:(k == x)=true:=q;exact hx (eq_of_beq q ▸ hk)
 have f2:es.toList.any (λe=>e.refKey)=false:=List.any_eq_false.mpr λe he q=>by
  obtain⟨k,t,hk,ek⟩:=each e he;unfold DictEntry.refKey at q;rw[ek]at q
  cases q
 unfold PySem.W.nsIn;rw[hl];show(match es.toList.find? (λe=>e.key.isStr x)with|some e=>some (some e.val)|none=>if es.toList.any (λe=>e.refKey)then none else some none)=_
 rw[f1,f2];rfl
theorem str_back{x:Str}{s:List Nat}:x.cps.toList=s ↔ x=⟨s.toArray⟩:=by
 obtain⟨a⟩:=x;constructor
 ·intro h
  have h:a.toList=s:=h;rw[← h]
 ·intro h
  cases h
  rfl
theorem Aow{h:Heap}{mg:Str→Option Value}(c:SaysW cs ts xs ls fa fn w K)(X:K.In h)(G:h.Ns mainGlobals mg){i:Nat}{t:Qn}(ht:ts[i]? = some t)(hg:Fa.glo t.1∈fa):Aos K w mg t.1 (Aaa t).2:=by
 have hk:=c.keys ht;obtain⟨es,n,kd⟩:=dicW_ok hk;refine⟨_,es,n,glo_ok X G (c.c.fact hg),kd,λs=>?_⟩;have hv:=c.vals (Ae ht)
 cases hf:(Aaa t).2.find? λp=>decide (p.1=s)with
 | some p=>
  have h1:p.1=s:=by simpa using List.find?_some hf
  obtain⟨q,hq,e⟩:=Ac.mp (List.mem_of_find?_eq_some hf);subst e;obtain⟨u,e1,e2⟩:=valsB_ok hv (q:=(q.1,.int q.2)) (Ac.mpr ⟨q,hq,rfl⟩);have h2:=str_back.mp h1;have e1:PySem.W.nsIn K (ga K t.1) q.1=some (some u):=e1;rw[h2]at e1;refine⟨some u,e1,rfl,λp hp=>?_⟩
  cases hp
  exact⟨u,rfl,e2⟩
 | none=>
  refine⟨none,Afk hk kd.at_ λhm=>?_,rfl,λp hp=>nomatch hp⟩;obtain⟨q,hq,e⟩:=Ac.mp hm;have:=Tr.mp hf (q.1.cps.toList,q.2) (Ac.mpr ⟨q,hq,rfl⟩);rw[str_back.mpr e]at this;simp at this
end
def Vn{α:Type}(z:α)(sh:List Src)(us ws:List α):List α:=sh.map fun
 | .p i=>us.getD i z
 | .k i=>ws.getD i z
 | _=>z
def Ut(np nk:Nat)(sh:List Src):Bool:=sh.all fun
 | .p i=>decide (i < np)
 | .k i=>decide (i < nk)
 | _=>false
theorem W3{vs:List V}{us:List Value}(h:L2.Vals vs us){i:Nat}(hi:i < us.length):L2.RelV (vs.getD i .non) (us.getD i .none):=by
 induction h generalizing i with
 | nil=>simp at hi
 | cons r t ih=>cases i with
  | zero=>simpa using r
  | succ i=>simpa using ih (by simpa using hi)
theorem Rr{K:KW}{H:Hp}:∀{vs:List V} {ds:List Dat} {i:Nat},Reps K H vs ds→i < vs.length→Rep K H (vs.getD i .non) (ds.getD i .non)
 | [],_,_,_,hi=>by simp at hi
 | v::vs,[],_,h,_=>by simp[Reps]at h
 | v::vs,d::ds,0,h,_=>by rw[Reps]at h;simpa using h.1
 | v::vs,d::ds,i+1,h,hi=>by rw[Reps]at h;simpa using Rr h.2 (by simpa using hi)
theorem V1{K:KW}{x qual:Str}{params:Arguments}{body:List Stmt}{scope:Scope}{kws:List (Str×V)}{f:Addr}{fd:FuncData}:FunD K x qual params body scope [] kws f fd→∃(kV doc pm:Value) (an:Option Addr) (cdv ct:Value),KwdV K kV kws∧fd=PySem.W.fnOf x qual params body scope .none kV doc pm an cdv ct
 | ⟨⟨_,_,_,kV,doc,pm,an,cdv,ct,_,e,_,_,.inl ⟨_,d⟩,k⟩,_⟩=>⟨kV,doc,pm,an,cdv,ct,k,by rw[e,d]⟩
 | ⟨⟨_,_,_,_,_,_,_,_,_,_,_,_,_,.inr ⟨e,_⟩,_⟩,_⟩=>absurd rfl e
theorem Abs{K:KW}{x qual:Str}{params:Arguments}{body:List Stmt}{scope:Scope}{kws:List (Str×V)}{f:Addr}{fd:FuncData}{ps ks:List Str}{np:Nat}{sh:List Src}(F:FunD K x qual params body scope [] kws f fd)(hsh:Ut np ks.length sh=true)(hl:sh.length=ps.length)
  (h:∀(kV doc pm:Value) (an:Option Addr) (cdv ct:Value) (us ws:List Value),us.length=np→ws.length=ks.length→bindArgs (PySem.W.fnOf x qual params body scope .none kV doc pm an cdv ct) ⟨us,ks.zip ws⟩=pure (ps.zip (Vn .none sh us ws))):Gf K fd ps np ks sh:=by
 obtain⟨kV,doc,pm,an,cdv,ct,hK,rfl⟩:=V1 F;intro s us ws hk hu hw;refine⟨Vn .none sh us ws,.of_eq (h kV doc pm an cdv ct us ws hu hw),by unfold Vn;rw[Yzi,hl],λH vs zs ds es rv rz bv bz=>?_⟩;refine⟨Vn .non sh vs zs,?_,?_⟩
 ·have l1:=rv.length;have l2:=rz.length
  clear hl h;unfold Vn
  induction sh with
  | nil=>exact .nil
  | cons c r ih=>
   rw[Ut,Eb,Yzh]at hsh;refine .cons ?_ (ih hsh.2)
   cases c<;>simp at hsh<;>dsimp only
   ·exact W3 rv (by omega)
   ·exact W3 rz (by omega)
 ·have l1:=rv.length;have l2:=rz.length
  clear hl h;unfold Vn Dt
  induction sh with
  | nil=>rw[Cy,Cy,Reps];trivial
  | cons c r ih=>
   rw[Ut,Eb,Yzh]at hsh;rw[Yzs,Yzs,Reps];refine⟨?_,ih hsh.2⟩
   cases c<;>simp at hsh<;>dsimp only
   ·exact Rr bv (by omega)
   ·exact Rr bz (by omega)
def DJ.dk(j:DJ):DK:=⟨j.own,j.xb,j.lam⟩
def DJ.binds(j:DJ)(q:Nat×List Str×List Src):Prop:=∀(K:KW) (f:Addr) (fd:FuncData),FunD K j.nm j.di.name j.params j.di.body j.di.scope (j.defD.dvs K) (j.defD.kws K) f fd→Gf K fd j.di.ps q.1 q.2.1 q.2.2
theorem DJ.binds_plain{j:DJ}{q:Nat×List Str×List Src}(hd:j.dfl=[])(hsh:Ut q.1 q.2.1.length q.2.2=true)(hl:q.2.2.length=j.di.ps.length)
  (h:∀(kV doc pm:Value) (an:Option Addr) (cdv ct:Value) (us ws:List Value),us.length=q.1→ws.length=q.2.1.length→bindArgs (PySem.W.fnOf j.nm j.di.name j.params j.di.body j.di.scope .none kV doc pm an cdv ct) ⟨us,q.2.1.zip ws⟩=pure (j.di.ps.zip (Vn .none q.2.2 us ws))):j.binds q:=λK f fd F=>by
 have e:j.defD.dvs K=[]:=by unfold He.DefD.dvs DJ.defD;rw[hd];rfl
 rw[e]at F;exact Abs F hsh hl h
def Aj1(ns ps:List Str)(sc:Scope)(body:List Stmt):Bool:=match body,ns,ps with
 | [b1,b2,b3,b4],[n1,n2,n3,n4],[s,a1,a2,a3,a4]=>Vf s n1 a1 b1 && (Vf s n2 a2 b2 && (Vf s n3 a3 b3 && (Vf s n4 a4 b4 && ([s,a1,a2,a3,a4].all λx=>Ahm sc x && Og x))))
 | _,_,_=>false
def CJ.okA(c:CJ):Bool:=decide c.fields.Nodup && (!c.fields.isEmpty && c.fields.all λx=>Jz x.cps.toList.length sizeLine)
def CJ.ok(c:CJ):Bool:=c.okA && (c.iv || (Ma c.ps c.ps c.scope && Aj1 c.fields c.ps c.scope c.body))
def CJ.binds(c:CJ):Prop:=c.iv=false→∀(kV doc pm:Value) (an:Option Addr) (cdv ct:Value) (us:List Value),us.length=5→bindArgs (PySem.W.fnOf "__init__" c.qual c.params c.body c.scope .none kV doc pm an cdv ct) ⟨us,[]⟩=pure (c.ps.zip us)
theorem Ang[TN]{P:Program}{w:World}{K:PySem.W.Frag}{mg:Str→Option Value}{base:Heap}{C f:Addr}{fd:FuncData}{c:CJ}{kws:List (Str×V)}(F:FunD K "__init__" c.qual c.params c.body c.scope [] kws f fd)(ok:c.ok=true)(hiv:c.iv=false)(cl:Cls K C)(no:∀x∈c.fields,NoAttr K C x):c.ps.length=c.fields.length+1∧FnOk P w K mg base CX0 1 f fd c.ps (Ah5 C c.fields):=by
 unfold CJ.ok at ok;rw[hiv,Hv]at ok;unfold CJ.okA at ok;simp only[Yzh,decide_eq_true_eq]at ok;obtain⟨⟨nd,_⟩,o1,o2⟩:=ok;have S:=Fj o1;obtain⟨nm,qu,ns,params,body,sc,ps,iv⟩:=c;dsimp only at *;unfold Aj1 at o2
 split at o2
 ·rename_i b1 b2 b3 b4 n1 n2 n3 n4 s a1 a2 a3 a4 _
  simp only[Yzh,Eb,Ko,Gx]at o2;obtain⟨h1,h2,h3,h4,⟨v0,w0⟩,⟨v1,w1⟩,⟨v2,w2⟩,⟨v3,w3⟩,⟨v4,w4⟩⟩:=o2;obtain⟨_,_,_,_,rfl⟩:=Ny h1;obtain⟨_,_,_,_,rfl⟩:=Ny h2;obtain⟨_,_,_,_,rfl⟩:=Ny h3;obtain⟨_,_,_,_,rfl⟩:=Ny h4;simp only[Hw,Ad,Yzm,or_false,not_or,not_false_eq_true,Iz,and_true]at nd;obtain⟨⟨d12,d13,d14⟩,⟨d23,d24⟩,d34⟩:=nd;refine⟨rfl,F.ok S (λvs H Q E h=>?_) λcdv A outer st H vs Q E hr h=>?_⟩
  ·obtain⟨p,dx,us,rfl,hl,_⟩:=h
   rw[Yzk,hl];rfl
  ·obtain⟨p,dx,us,rfl,hl,hp,q⟩:=h
   match us,hl with
   | [u1,u2,u3,u4],_=>
    obtain⟨x0,y0,_⟩:=Hl w0;obtain⟨x1,y1,_⟩:=Hl w1;obtain⟨x2,y2,_⟩:=Hl w2;obtain⟨x3,y3,_⟩:=Hl w3;obtain⟨x4,y4,_⟩:=Hl w4;refine⟨_,PSs.nox (pss_cons (ps_fld (pv 0 rfl (Ka v0) x0 y0) (pv 1 rfl (Ka v1) x1 y1) rfl) (pss_cons (ps_fld (pv 0 rfl (Ka v0) x0 y0) (pv 2 rfl (Ka v2) x2 y2) rfl) (pss_cons (ps_fld (pv 0 rfl (Ka v0) x0 y0) (pv 3 rfl (Ka v3) x3 y3) rfl) (pss_one (ps_fld (pv 0 rfl (Ka v0) x0 y0) (pv 4 rfl (Ka v4) x4 y4) rfl))))),?_⟩;have e1:putF n1 u1 []=[(n1,u1)]:=rfl;have e2:putF n2 u2 (putF n1 u1 [])=[(n1,u1),(n2,u2)]:=by
     rw[e1,N8 (by intro q hq;rw[Aq.mp hq];exact d12)];rfl
    have e3:putF n3 u3 (putF n2 u2 (putF n1 u1 []))=[(n1,u1),(n2,u2),(n3,u3)]:=by
     rw[e2,N8 (by intro q hq;simp only[Ad,Yzm,or_false]at hq;rcases hq with rfl|rfl<;>assumption)];rfl
    have e4:putF n4 u4 (putF n3 u3 (putF n2 u2 (putF n1 u1 [])))=[(n1,u1),(n2,u2),(n3,u3),(n4,u4)]:=by
     rw[e3,N8 (by intro q hq;simp only[Ad,Yzm,or_false]at hq;rcases hq with rfl|rfl|rfl<;>assumption)];rfl
    refine⟨_,rfl,_,rfl,p,C,dx,[],rfl,hp,cl,no n1 (by simp),by decide,?_⟩;refine⟨_,rfl,_,rfl,p,C,dx,_,rfl,upd_same,cl,no n2 (by simp),by rw[e1];show 1 < 1000;decide,?_⟩;refine⟨_,rfl,_,rfl,p,C,dx,_,rfl,upd_same,cl,no n3 (by simp),by rw[e2];show 2 < 1000;decide,?_⟩;refine⟨_,rfl,_,rfl,p,C,dx,_,rfl,upd_same,cl,no n4 (by simp),by rw[e3];show 3 < 1000;decide,?_⟩;show Q .non _
    rw[e4,upd_upd,upd_upd,upd_upd];exact q
 ·cases o2
def Ajl(js:List DJ):List (Nat×Nat×Str):=(js.mapIdx λf j=>match j.mth with|none=>[]|some q=>[(f,q.1,q.2.2)]).flatten
def Aqq(js:List DJ):List (Nat×Nat):=(js.mapIdx λf j=>match j.own with|none=>[]|some p=>[(f,p)]).flatten
def Abe(p:DJ→Bool)(js:List DJ):List Nat:=(js.mapIdx λf j=>if p j=true then [f]else []).flatten
theorem G4{p:DJ→Bool}{js:List DJ}{f:Nat}(h:f∈Abe p js):∃j,js[f]? = some j∧p j=true:=by
 unfold Abe at h;rw[Jq]at h;obtain⟨l,hl,h⟩:=h;rw[Kh]at hl;obtain⟨i,hi,e⟩:=hl;subst e
 split at h
 ·rename_i q
  rw[Aq]at h
  cases h
  exact⟨_,Ab hi,q⟩
 ·cases h
def Adg(js:List DJ):List (Nat×Nat):=(js.mapIdx λf j=>match j.mth with|none=>[]|some q=>if j.ini=true then [(q.1,f)]else []).flatten
theorem Anh{js:List DJ}{c f:Nat}(h:(c,f)∈Adg js):∃j q,js[f]? = some j∧j.mth=some q∧j.ini=true∧c=q.1:=by
 unfold Adg at h;rw[Jq]at h;obtain⟨l,hl,h⟩:=h;rw[Kh]at hl;obtain⟨i,hi,e⟩:=hl;subst e
 split at h
 ·cases h
 ·rename_i q hq
  split at h
  ·rename_i hin
   rw[Aq]at h
   cases h
   exact⟨_,q,Ab hi,hq,hin,rfl⟩
  ·cases h
def G7(m:MJ):Tb:=⟨m.js.map (·.di.name),m.cs.map (·.1),m.fre,m.js.map (·.shp),m.cj.map λc=>(c.name,c.fields),Ajl m.js,m.ts.map Aaa,Aqq m.js,m.xs.map λx=>(x.name,x.ini.map (·.fld)),Abe (·.xm) m.js,Abe (·.tol) m.js,false,Adg m.js,Abe (·.rs) m.js⟩
def DJ.okIni(m:MJ)(j:DJ):Bool:=match j.mth with
 | some q=>(match m.cj[q.1]? with
  | some c=>j.di.okI (G7 m) c.fields && (q.2.2 == "__init__" && (j.own.isNone && (!j.xm && (!j.tol && (j.di.d.np == j.di.ps.length && j.shp.any λs=>s.1 == j.di.ps.length && (s.2.1.isEmpty && s.2.2 == Hj j.di.ps.length))))))
  | none=>false)
 | none=>false
def Am8(x:Str):Str:=(x ++ ".<locals>.") ++ "<lambda>"
@[reducible] def Aov(K:PySem.W.Frag)(m:MJ):TN:=⟨(Nb m).map λx=>((Hz K x).2,Am8 x)⟩
def Asz(j:DJ):Prop:=j.tol=true→∃x,j.di.ps=[x]∧∀(kV doc pm:Value) (an:Option Addr) (cdv ct:Value) (u:Value),bindArgs (PySem.W.fnOf j.nm j.di.name j.params j.di.body j.di.scope .none kV doc pm an cdv ct) ⟨[u],[]⟩=pure [(x,u)]
theorem Ahr{js:List DJ}(h:(js.all λj=>!j.tol)=true):∀j∈js,Asz j:=λj hj e=>by
 have z:=Ai.mp h j hj;rw[e]at z
 cases z
theorem Aa0[TN]{m:MJ}{j:DJ}(h:j.okIni m=true):∃q c,j.mth=some q∧m.cj[q.1]? = some c∧j.di.okI (G7 m) c.fields=true∧q.2.2 = "__init__" ∧ j.own.isNone=true∧j.xm=false∧j.tol=false∧j.di.d.np=j.di.ps.length∧(j.di.ps.length,[],Hj j.di.ps.length)∈j.shp:=by
 unfold DJ.okIni at h
 split at h
 ·rename_i q hq
  split at h
  ·rename_i c hc
   simp only[Yzh,Bf,beq_iff_eq,Ei,Nk]at h;obtain⟨h1,h2,h3,h4,h5,h6,s,h7,h8,h9,h10⟩:=h;refine⟨q,c,hq,hc,h1,h2,h3,h4,h5,h6,?_⟩;obtain⟨a,b,d⟩:=s;simp only at h8 h9 h10
   subst h8 h9 h10;exact h7
  ·cases h
 ·cases h
def Y8:List S→Bool
 | .dead::_=>false
 | _=>true
structure TabOk(m:MJ)(ip it:Nat):Prop where
 pot:∃j,m.js[ip]? = some j∧j.di.ok (tb0 ["len", "abs", "int"])=true∧j.di.N.length=4∧j.di.d.body=Asq
 take:∃j,m.js[it]? = some j∧j.di.ok (tb0 [])=true∧j.di.N.length=5∧j.di.d.body=W4
 free:(["len", "abs", "int"]:List Str).all (λx=>m.fre.contains x)=true
 ok:(m.js.mapIdx λi j=>decide (i=ip) || (decide (i=it) || (if j.ini=true then j.okIni m else j.di.okK (G7 m) j.dk))).all id=true
 inz:(m.js.mapIdx λi j=>!j.ini || (!decide (i=ip) && !decide (i=it))).all id=true
 ivs:(m.cj.mapIdx λi c=>!c.iv || (Adg m.js).any λq=>q.1 == i).all id=true
 ows:(m.js.mapIdx λi j=>(j.own.isNone && (!j.xm && !j.tol)) || (j.mth.isNone && (!decide (i=ip) && !decide (i=it)))).all id=true
 knd:(m.js.all λj=>(!j.xm || j.xb) && ((!j.tol || (j.xb && j.dfl.isEmpty)) && ((!j.lam || j.mth.isNone) && (match j.own with|some p=>Jz (p+1) 16 && !j.xb|none=>true))))=true
 rsk:(m.js.mapIdx λi j=>!j.rs || (!decide (i=ip) && (!decide (i=it) && (Y8 j.di.d.body && j.di.okR ((G7 m).withLam j.lam))))).all id=true
 tlb:∀j∈m.js,Asz j
 binds:∀j∈m.js,∀q∈j.shp,j.binds q
 law:m.lj.di.ok ((G7 m).withLam m.lj.lam)=true
 first:Sh m.lj.di.d.body=true
 dfl:m.lj.dfl=[]
 many:m.js.length≤150
 fewc:m.cj.length≤1000
 fewx:m.xs.length≤1000
 own:m.lj.mth=none
 cls:m.cj.all CJ.ok=true
 clb:∀c∈m.cj,c.binds
 xcl:(m.xs.all λx=>match x.ini with|some c=>c.ok|none=>true)=true
 xlb:∀x∈m.xs,∀c,x.ini=some c→c.binds
 mcl:(m.js.all λj=>match j.mth with|none=>true|some q=>(match m.cj[q.1]? with|some c=>c.name == q.2.1|none=>false))=true
 few:m.cs.length≤1000
 fvs:(m.fv.all λf=>!(f == ip) && (!(f == it) && (match m.js[f]? with|some j=>j.mth.isNone && j.shp.any (λq=>q.1 == j.di.d.np && (q.2.1.isEmpty && q.2.2 == Hj j.di.d.np))|none=>false)))=true
section
variable{P:Program}{w:World}{K:PySem.W.Frag}{mg:Str→Option Value}{mj:MJ}{ip it:Nat}{h:Heap}
theorem Px(ip it:Nat):∀f p,Jd ip it f=some p→∀ds,Bj (p ds):=λf p h ds=>by
 unfold Jd at h
 split at h
 ·cases h;exact Af8 ds
 ·split at h
  ·cases h;exact Ace ds
  ·cases h
theorem Afl(t:TabOk mj ip it)(X:K.In h)(G:h.Ns mainGlobals mg)(nt:Akp K)(cw:SaysW mj.cs mj.ts mj.xs (Nb mj) (Ss mj) (fnOf mj) w K){fa:Addr}(hfa:mg mj.lj.di.name=some (.ref fa))(k:Nat) :
  ∃(fd:FuncData) (adr:Nat→Nat),(∃kws,FunD K mj.lj.di.name mj.lj.di.name mj.lj.params mj.lj.di.body mj.lj.di.scope [] kws fa fd)∧∀base:Heap,K.In base→base.Ns mainGlobals mg→(∀p∈(Nb mj).map (Hz K),LamX.TabB base mg p.1 p.2) →
   @FnG0 (Aov K mj) P w K mg base (k+1) fa fd mj.lj.di.ps (Jh ^ (k+1)) (λds Q=>execs (Bg (mj.js.map (·.di.d)) (gOf mj adr) (Jd ip it) k) (gOf mj adr) mj.lj.di.d.body (Bp mj.lj.di.d.nn ds) { nx:=λ_=>Q .non,rt:=λ_=>Q }):=by
 letI:TN:=Aov K mj
 have c:=cw.c
 let adr:Nat→Nat:=λf=>if 600000≤f then(match mj.xs[f - 600000]? with|some x=>He.ga K x.name|none=>0)else if 500000≤f then(match mj.cj[f - 500000]? with|some c=>He.ga K c.name|none=>0)else match mj.js[f]? with|some j=>He.fAd K j.at_|none=>0
 have sys:=Aky c.parts.2.2.1;have hfre:∀x∈mj.fre,mg x=none:=λx hx=>He.free_ok X G (c.fact (f:=.free x) (by unfold Ss;simp[hx]))
 have hglo:∀(i:Nat) (x:Str) (d:Dat),(G7 mj).gl[i]? = some x→gOf mj adr i=some d→∃u v,mg x=some u∧L2.RelV v u∧∀H,Rep ⟨K,P,w⟩ H v d:=λi x d hx hd=>by
  unfold G7 at hx;unfold gOf at hd;rw[Af]at hx;by_cases big:1000000≤i
  ·exfalso
   have lt:i < mj.cs.length:=by
    cases hc:mj.cs[i]? with
    | none=>rw[hc]at hx;cases hx
    | some q=>exact(Ag.mp hc).1
   have:=t.few;omega
  have lt:i < mj.cs.length:=by
   cases hc:mj.cs[i]? with
   | none=>rw[hc]at hx;cases hx
   | some q=>exact(Ag.mp hc).1
  have few:=t.few;rw[if_neg big,if_neg (by omega),if_neg (by omega)]at hd
  cases hc:mj.cs[i]? with
  | none=>rw[hc]at hx;cases hx
  | some q=>
   rw[hc]at hx hd
   cases hx;cases hd
   exact Agw X G (c.const (Ae hc))
 have lookJ:∀{i:Nat} {j:DJ},mj.js[i]? = some j→(j.mth=none→mg j.di.name=some (.ref (He.fAd K j.at_)))∧(∀q,j.mth=some q→Meth K (He.ga K q.2.1) q.2.2 (He.fAd K j.at_))∧∃fd,FunD K j.nm j.di.name j.params j.di.body j.di.scope (j.defD.dvs K) (j.defD.kws K) (He.fAd K j.at_) fd:=λ{i j} hj=>by
  have hin:j.fa∈Ss mj:=by
   unfold Ss;have:=Ae hj;simp only[Ad,Bl,Ac];exact .inl (.inl (.inr ⟨j,this,rfl⟩))
  refine⟨λhn=>?_,λq hq=>?_,?_⟩
  ·have e:He.fAd K j.at_=He.ga K j.di.name:=by unfold DJ.at_;rw[hn];rfl
   rw[e];unfold DJ.fa at hin;rw[hn]at hin;exact He.glo_ok X G (c.fact hin)
  ·have e:He.fAd K j.at_=He.ma K (He.ga K q.2.1) q.2.2:=by unfold DJ.at_;rw[hq];rfl
   rw[e];unfold DJ.fa at hin;rw[hq]at hin;exact He.meth_ok (c.fact hin)
  ·obtain⟨fd,F⟩:=c.def_ (i+1) (d:=j.defD) (by
    unfold fnOf;rw[Cm,Bh,Yzb,Dr (by rw[Yzi];exact(Ag.mp hj).1),Af,hj];rfl)
   exact⟨fd,F⟩
 have msI:∀{f c:Nat} {m:Str},(f,c,m)∈Ajl mj.js→∃j q,mj.js[f]? = some j∧j.mth=some q∧c=q.1∧m=q.2.2:=λ{f c m} h=>by
  unfold Ajl at h;rw[Jq]at h;obtain⟨l,hl,h⟩:=h;rw[Kh]at hl;obtain⟨i,hi,e⟩:=hl;subst e
  split at h
  ·cases h
  ·rename_i q hq
   rw[Aq]at h
   cases h
   exact⟨_,q,Ab hi,hq,rfl,rfl⟩
 have msO:∀{f:Nat} {j:DJ},mj.js[f]? = some j→(G7 mj).isM f=false→j.mth=none:=λ{f j} hj h=>by
  cases hq:j.mth with
  | none=>rfl
  | some q=>
   exfalso
   have:(f,q.1,q.2.2)∈Ajl mj.js:=by
    unfold Ajl;rw[Jq];obtain⟨hi,e⟩:=Ag.mp hj;refine⟨[(f,q.1,q.2.2)],Kh.mpr ⟨f,hi,?_⟩,by simp⟩;rw[e,hq]
   unfold Tb.isM at h;have h2:=List.any_eq_false.mp h _ this;simp at h2
 have owI:∀{f p:Nat},(f,p)∈Aqq mj.js→∃j,mj.js[f]? = some j∧j.own=some p∧f≠ip∧f≠it:=λ{f p} h=>by
  unfold Aqq at h;rw[Jq]at h;obtain⟨l,hl,h⟩:=h;rw[Kh]at hl;obtain⟨i,hi,e⟩:=hl;subst e
  split at h
  ·cases h
  ·rename_i q hq
   rw[Aq]at h
   cases h
   have hj:mj.js[f]? = some mj.js[f]:=Ab hi;have z:=Ai.mp t.ows ((mj.js[f].own.isNone && (!mj.js[f].xm && !mj.js[f].tol)) || (mj.js[f].mth.isNone && (!decide (f=ip) && !decide (f=it)))) (Ae (i:=f) (by rw[Ce,hj];rfl));rw[hq]at z;simp at z
   exact⟨_,hj,hq,z.2.1,z.2.2⟩
 have hpl:ip < mj.js.length∧it < mj.js.length:=by
  obtain⟨j1,e1,_⟩:=t.pot;obtain⟨j2,e2,_⟩:=t.take;exact⟨(Ag.mp e1).1,(Ag.mp e2).1⟩
 have far:FarAt (mj.js.map (·.di.d)) (Jd ip it):=by
  have mn:=t.many;refine⟨λf hf=>?_,λf hf=>Bq (by rw[Yzi];omega)⟩;unfold Jd;rw[if_neg (by omega),if_neg (by omega)]
 have xmI:∀{f:Nat} {j:DJ},mj.js[f]? = some j→(j.xm=true∨j.tol=true)→f≠ip∧f≠it:=λ{f j} hj h=>by
  have z:=Ai.mp t.ows ((j.own.isNone && (!j.xm && !j.tol)) || (j.mth.isNone && (!decide (f=ip) && !decide (f=it)))) (Ae (i:=f) (by rw[Ce,hj];rfl))
  rcases h with h|h<;>(rw[h]at z;simp at z;exact⟨z.2.1,z.2.2⟩)
 have kndI:∀{f:Nat} {j:DJ},mj.js[f]? = some j→(j.xm=true→j.xb=true)∧(j.tol=true→j.xb=true∧j.dfl=[])∧(j.lam=true→j.mth=none)∧∀p,j.own=some p→p < 16∧j.xb=false:=λ{f j} hj=>by
  have z:=Ai.mp t.knd j (Ae hj);simp only[Yzh,Es,Bf]at z;obtain⟨z1,z2,z3,z4⟩:=z;refine⟨λe=>?_,λe=>?_,λe=>?_,λp e=>?_⟩
  ·rcases z1 with z|z
   ·rw[e]at z;cases z
   ·exact z
  ·rcases z2 with z|z
   ·rw[e]at z;cases z
   ·exact⟨z.1,Nk.mp z.2⟩
  ·rcases z3 with z|z
   ·rw[e]at z;cases z
   ·exact La.mp z
  ·rw[e]at z4
   simp only[Yzh,Bf]at z4;exact⟨by have:=Bc z4.1;omega,z4.2⟩
 have rsI:∀{f:Nat} {j:DJ},mj.js[f]? = some j→j.rs=true→f≠ip∧f≠it∧Y8 j.di.d.body=true∧j.di.okR ((G7 mj).withLam j.lam)=true:=λ{f j} hj h=>by
  have z:=Ai.mp t.rsk (!j.rs || (!decide (f=ip) && (!decide (f=it) && (Y8 j.di.d.body && j.di.okR ((G7 mj).withLam j.lam))))) (Ae (i:=f) (by rw[Ce,hj];rfl));have z:(!j.rs || (!decide (f=ip) && (!decide (f=it) && (Y8 j.di.d.body && j.di.okR ((G7 mj).withLam j.lam)))))=true:=z;rw[h,Cq,Hv,Yzh,Yzh,Yzh]at z;exact⟨by simpa using z.1,by simpa using z.2.1,z.2.2.1,z.2.2.2⟩
 have lamI:∀{x:Str} {a:Addr} {fd:FuncData} {scope:Scope} {params:Arguments} {body:List Stmt} {dvs:List V} {kws:List (Str×V)} (base:Heap),x∈Nb mj→mg x=some (.ref a)→FunD K x x params body scope dvs kws a fd→(∀p∈(Nb mj).map (Hz K),LamX.TabB base mg p.1 p.2)→An8 mg base x scope a fd:=λ{x a fd scope params body dvs kws} base hx hm F TB=>by
  obtain⟨l1,l2⟩:=cw.lams;obtain⟨oc,od,dV,kV,doc,pm,an,cdv,ct,osl,rfl,lk,-⟩:=F.ex;refine⟨(Hz K x).1,(Hz K x).2,PySem.W.law_code X G (l1 x hx) hm (X _ _ lk) rfl,TB _ (Ac.mpr ⟨x,hx,rfl⟩),Ac.mpr ⟨x,hx,rfl⟩,λp hp e=>?_⟩;obtain⟨y,hy,rfl⟩:=Ac.mp hp;have e:(Hz K y).2=(Hz K x).2:=e;have exy:y=x:=by
   obtain⟨i1,h1,g1⟩:=List.mem_iff_getElem.mp hy;obtain⟨i2,h2,g2⟩:=List.mem_iff_getElem.mp hx;have n:=List.pairwise_iff_getElem.mp l2;have key:∀(a b:Nat) (ha:a < (Nb mj).length) (hb:b < (Nb mj).length),a < b→(Hz K (Nb mj)[a]).2≠(Hz K (Nb mj)[b]).2:=λa b ha hb lt z=>n a b (by rw[Yzi];exact ha) (by rw[Yzi];exact hb) lt (by rw[Wl,Wl];exact z)
   have i12:i1=i2:=by
    rcases Nat.lt_trichotomy i1 i2 with lt|eq|lt
    ·exact absurd (by rw[g1,g2];exact e) (key i1 i2 h1 h2 lt)
    ·exact eq
    ·exact absurd (by rw[g1,g2];exact e.symm) (key i2 i1 h2 h1 lt)
   subst i12;rw[← g1,← g2]
  rw[exy];rfl
 have clsI:∀{k:Nat} {cc:CJ},mj.cj[k]? = some cc→(∀f∈cc.fa,f∈Ss mj):=λ{k cc} hc f hf=>by
  unfold Ss;simp only[Bl,Jr];exact .inr (.inl (.inl ⟨cc,Ae hc,hf⟩))
 have clsG:∀{k:Nat} {cc:CJ},mj.cj[k]? = some cc→mg cc.name=some (.ref (He.ga K cc.name)):=λ{k cc} hc=>He.glo_ok X G (c.fact (clsI hc _ (by unfold CJ.fa;simp)))
 have hcl:∀base:Heap,Ar0 P w K mg base (G7 mj) (gOf mj adr):=λbase=>by
  refine⟨λk p ns q0 hq0 hd=>?_,λt x kvs ht=>?_⟩
  ·have hq0:(mj.cj.map λc=>(c.name,c.fields))[k]? = some q0:=hq0
   rw[Af]at hq0;have lt:k < mj.cj.length:=by
    cases hc:mj.cj[k]? with
    | none=>rw[hc]at hq0;cases hq0
    | some q=>exact(Ag.mp hc).1
   have fc:=t.fewc;unfold gOf at hd;rw[if_neg (by omega),if_neg (by omega),if_pos (by omega),Bm]at hd
   cases hc:mj.cj[k]? with
   | none=>rw[hc]at hd;cases hd
   | some cc=>
    rw[hc]at hd hq0;have hq0:some (cc.name,cc.fields)=some q0:=hq0
    cases hq0
    have hd:some (Dat.obj (adr (500000+k)) (cc.fields.map nmD))=some (Dat.obj p ns):=hd
    cases hd
    have ea:adr (500000+k)=He.ga K cc.name:=by
     show(if 600000≤500000+k then _ else if 500000≤500000+k then(match mj.cj[500000+k - 500000]? with|some c=>He.ga K c.name|none=>0)else _)=_
     rw[if_neg (by omega),if_pos (by omega),Bm,hc]
    have okc:=Ai.mp t.cls cc (Ae hc);have cl:Cls K (He.ga K cc.name):=He.cls_ok (c.fact (clsI hc _ (by unfold CJ.fa;simp)));have no:∀x∈cc.fields,NoAttr K (He.ga K cc.name) x:=λx hx=>He.noat_ok (c.fact (clsI hc (.noat cc.name x) (by unfold CJ.fa;simp[hx])))
    have mk:Mk K (He.ga K cc.name) (He.ma K (He.ga K cc.name) "__init__"):=He.mkr_ok (c.fact (clsI hc _ (by unfold CJ.fa;simp)));obtain⟨fd,F⟩:=c.def_ (mj.js.length+1+k) (d:=cc.defD) (by
     unfold fnOf;rw[Cm,Bh,show mj.js.length+1+k=(mj.js.length+k)+1 by omega,Yzb,Hh (by rw[Yzi];omega),Yzi,Bm,Dr (by rw[Yzi];exact lt),Af,hc];rfl)
    have F:FunD K "__init__" cc.qual cc.params cc.body cc.scope [] [] (He.ma K (He.ga K cc.name) "__init__") fd:=F;have oka:=okc;unfold CJ.ok at oka;rw[Yzh]at oka;have oki:=oka.2;have oka:=oka.1;unfold CJ.okA at oka;simp only[Yzh,decide_eq_true_eq,Ai,Bf,List.isEmpty_eq_false_iff]at oka;obtain⟨nd,hne,sz⟩:=oka;have clA:ClsA K (He.ga K cc.name) cc.fields:=⟨cl,no,nd,hne,λx hx=>Bc (sz x hx)⟩;refine⟨?_,rfl,?_,λhI=>?_⟩
    ·show mg cc.name=some (.ref (adr (500000+k)))
     rw[ea];exact clsG hc
    ·rw[ea];exact clA
    ·have hiv:cc.iv=false:=by
      cases hv:cc.iv with
      | false=>rfl
      | true=>
       exfalso
       have z:=Ai.mp t.ivs (!cc.iv || (Adg mj.js).any λq=>q.1 == k) (Ae (i:=k) (by rw[Ce,hc];rfl));rw[hv]at z;have z:(Adg mj.js).any (λq=>q.1 == k)=true:=z;have hI:(Adg mj.js).any (λq=>q.1 == k)=false:=hI;rw[hI]at z
       cases z
     obtain⟨i1,i2⟩:=Ang (P:=P) (w:=w) (mg:=mg) (base:=base) F okc hiv cl no;rw[hiv,Hv,Yzh]at oki;have h4:cc.fields.length=4:=by
      have o2:=oki.2;unfold Aj1 at o2
      split at o2
      ·rename_i e1 e2;rw[e1];rfl
      ·cases o2
     rw[ea];refine⟨clA,_,fd,cc.ps,mk,i1,i2,?_⟩;obtain⟨kV,doc,pm,an,cdv,ct,_,rfl⟩:=V1 (K:=⟨K,P,w⟩) F;intro s us _ hl;rw[Bu]at hl ⊢;exact .of_eq (t.clb cc (Ae hc) hiv kV doc pm an cdv ct us (by rw[hl];show cc.ps.length=5;rw[i1];show cc.fields.length+1=5;rw[h4]))
  ·have ht:(mj.ts.map Aaa)[t]? = some (x,kvs):=ht
   rw[Af]at ht
   cases hq:mj.ts[t]? with
   | none=>rw[hq]at ht;cases ht
   | some q=>
    rw[hq]at ht;have e:Aaa q=(x,kvs):=Aj.inj ht;have z:=Aow cw X G hq (by unfold Ss;simp only[Bl,Ac];exact .inr (.inl (.inr ⟨q,Ae hq,rfl⟩)));rw[e]at z;have e1:q.1=x:=congrArg Prod.fst e;rw[e1]at z;exact z
 have glX:∀{x:XJ},x∈mj.xs→mg x.name=some (.ref (He.ga K x.name)):=λ{x} hx=>He.glo_ok X G (c.fact (f:=.glo x.name) (by unfold Ss;simp only[Bl,Ac];exact .inr (.inr ⟨x,hx,rfl⟩)))
 have gXe:∀(k:Nat),gX (gOf mj adr) k=if k < 300000 then(mj.xs[k]?).map (λx=>.obj (adr (600000+k)) (nsX (x.ini.map (·.fld))))else none:=λk=>by
  unfold gX;by_cases hk:k < 300000
  ·rw[if_pos hk,if_pos hk]
   unfold gOf;rw[if_neg (by omega),if_pos (by omega),Bm]
  ·rw[if_neg hk,if_neg hk]
 have adX:∀{k:Nat} {x:XJ},mj.xs[k]? = some x→adr (600000+k)=He.ga K x.name:=λ{k x} hx=>by
  show(if 600000≤600000+k then(match mj.xs[600000+k - 600000]? with|some x=>He.ga K x.name|none=>0)else _)=_
  rw[if_pos (by omega),Bm,hx]
 have gXs:∀{k p:Nat} {ns:List Dat},gX (gOf mj adr) k=some (.obj p ns)→∃x,mj.xs[k]? = some x∧p=He.ga K x.name:=λ{k p ns} h=>by
  rw[gXe]at h
  split at h
  ·cases hx:mj.xs[k]? with
   | none=>rw[hx]at h;cases h
   | some x=>
    rw[hx]at h;have h:some (Dat.obj (adr (600000+k)) (nsX (x.ini.map (·.fld))))=some (Dat.obj p ns):=h
    cases h
    exact⟨x,rfl,adX hx⟩
  ·cases h
 have hxcl:∀base:Heap,ClsX P w K mg base (G7 mj) (gOf mj adr):=λbase=>by
  refine⟨λk q hq=>?_,λk d hd=>?_,λk k' p p' ns ns' h1 h2=>?_,λk p ns h1=>?_⟩
  ·have hq:(mj.xs.map λx=>(x.name,x.ini.map (·.fld)))[k]? = some q:=hq
   rw[Af]at hq
   cases hx:mj.xs[k]? with
   | none=>rw[hx]at hq;cases hq
   | some x=>
    rw[hx]at hq;have hq:some (x.name,x.ini.map (·.fld))=some q:=hq
    cases hq
    have fx:=t.fewx;have lt:=(Ag.mp hx).1;refine⟨He.ga K x.name,?_,glX (Ae hx),λfn hfn=>?_⟩
    ·rw[gXe,if_pos (by omega),hx]
     show some (Dat.obj (adr (600000+k)) _)=_
     rw[adX hx]
    ·cases hi:x.ini with
     | none=>rw[hi]at hfn;cases hfn
     | some ci=>
      rw[hi]at hfn
      cases hfn
      have ok:=Ai.mp t.xcl x (Ae hx);rw[hi]at ok;have hm:ci.defD x.name∈fnOf mj:=by
       unfold fnOf;refine Bl.mpr (.inr (Jr.mpr ⟨x,Ae hx,?_⟩));unfold XJ.defs;rw[hi];exact Aq.mpr rfl
      obtain⟨n0,hn0⟩:=List.getElem?_of_mem hm;obtain⟨fd,F⟩:=c.def_ n0 hn0;exact Ahf (Ai.mp cw.all.2.1 x (Ae hx)) hi ok (t.xlb x (Ae hx) ci hi) F
  ·rw[gXe]at hd
   split at hd
   ·cases hx:mj.xs[k]? with
    | none=>rw[hx]at hd;cases hd
    | some x=>exact⟨_,by show(mj.xs.map λx=>(x.name,x.ini.map (·.fld)))[k]? = _;rw[Af,hx];rfl⟩
   ·cases hd
  ·obtain⟨x,hx,rfl⟩:=gXs h1
   obtain⟨y,hy,rfl⟩:=gXs h2;exact Ahd cw.all.2.2.1 hx hy
  ·obtain⟨x,hx,rfl⟩:=gXs h1
   have z:=Ai.mp cw.all.2.1 x (Ae hx);unfold Wz at z;rw[Yzh]at z;exact of_decide_eq_true z.2
 have told:∀(base:Heap),(∀p∈(Nb mj).map (Hz K),LamX.TabB base mg p.1 p.2)→∀(f:Nat) (x:Str),(G7 mj).fns[f]? = some x→Told P w K mg base (G7 mj) (mj.js.map (·.di.d)) (Jd ip it) f x:=λbase TB f x hx=>by
  unfold G7 at hx;rw[Af]at hx
  cases hj:mj.js[f]? with
  | none=>rw[hj]at hx;cases hx
  | some j=>
   rw[hj]at hx
   cases hx
   obtain⟨hm,hme,fd,F⟩:=lookJ hj;refine⟨_,fd,j.di.ps,⟨λhM=>hm (msO hj hM),λk m hin q p hq hmg=>?_⟩,F.kp,λss hss q hq=>?_,?_⟩
   ·obtain⟨j',q',e1,e2,e3,e4⟩:=msI hin
    rw[hj]at e1
    cases e1
    subst e3 e4;have M:=hme q' e2;have mc:=Ai.mp t.mcl j (Ae hj);rw[e2]at mc;have mc:(match mj.cj[q'.1]? with|some c=>c.name == q'.2.1|none=>false)=true:=mc;have hq:(mj.cj.map λc=>(c.name,c.fields))[q'.1]? = some q:=hq;rw[Af]at hq
    cases hc:mj.cj[q'.1]? with
    | none=>rw[hc]at hq;cases hq
    | some cc=>
     rw[hc]at hq mc;have hq:some (cc.name,cc.fields)=some q:=hq
     cases hq
     have mc:(cc.name == q'.2.1)=true:=mc;have e5:=eq_of_beq mc;have e6:mg cc.name=some (.ref p):=hmg;rw[clsG hc]at e6
     cases e6
     rw[e5];exact M
   ·unfold G7 at hss
    rw[Af,hj]at hss
    cases hss
    exact t.binds j (Ae hj) q hq ⟨K,P,w⟩ _ fd F
   ·by_cases h1:f=ip
    ·obtain⟨j',e,o1,o2,o3⟩:=t.pot
     subst h1;rw[hj]at e;cases e;refine .inl ⟨Aas,by unfold Jd;rw[if_pos rfl],(λq hq=>by obtain⟨_,_,_,n1,_⟩:=owI hq;exact n1 rfl),(λh=>by obtain⟨j',e1,e2⟩:=G4 h;exact(xmI e1 (.inl e2)).1 rfl),(λh=>by obtain⟨j',e1,e2⟩:=G4 h;exact(xmI e1 (.inr e2)).1 rfl),Amu (i:={ j.di with name:=j.nm }) sys F o1 (λx hx=>hfre x ?_) o2 o3⟩;have:=Ai.mp t.free x hx
     simpa using this
    ·by_cases h2:f=it
     ·obtain⟨j',e,o1,o2,o3⟩:=t.take
      subst h2;rw[hj]at e;cases e;exact .inl ⟨Nu,by unfold Jd;rw[if_neg h1,if_pos rfl],(λq hq=>by obtain⟨_,_,_,_,n2⟩:=owI hq;exact n2 rfl),(λh=>by obtain⟨j',e1,e2⟩:=G4 h;exact(xmI e1 (.inl e2)).2 rfl),(λh=>by obtain⟨j',e1,e2⟩:=G4 h;exact(xmI e1 (.inr e2)).2 rfl),Ahu (i:={ j.di with name:=j.nm }) sys F o1 o2 o3⟩
     ·have okj:=Ai.mp t.ok (decide (f=ip) || (decide (f=it) || (if j.ini=true then j.okIni mj else j.di.okK (G7 mj) j.dk))) (Ae (i:=f) (by rw[Ce,hj];rfl))
      have okj:(if j.ini=true then j.okIni mj else j.di.okK (G7 mj) j.dk)=true:=by simpa [h1,h2]using okj
      by_cases hini:j.ini=true
      ·rw[if_pos hini]at okj
       obtain⟨q0,cc,e0,e1,o1,o2,o3,o4,o5,o6,o7⟩:=Aa0 okj;refine .inr (.inr ⟨by unfold Jd;rw[if_neg h1,if_neg h2],λq hq=>?_,λh=>?_,λh=>?_,j.di.d,?_⟩)
       ·obtain⟨j',a1,a2,_⟩:=owI hq
        rw[hj]at a1;cases a1;rw[a2]at o3;cases o3
       ·obtain⟨j',a1,a2⟩:=G4 h
        rw[hj]at a1;cases a1;rw[a2]at o4;cases o4
       ·obtain⟨j',a1,a2⟩:=G4 h
        rw[hj]at a1;cases a1;rw[a2]at o5;cases o5
       ·unfold DI.okI at o1
        split at o1
        ·rename_i l hb
         exact⟨_,by rw[Af,hj];rfl,hb⟩
        ·cases o1
      rw[if_neg hini]at okj;refine .inr (.inl ⟨by unfold Jd;rw[if_neg h1,if_neg h2],{ j.di with name:=j.nm },j.params,j.di.name,_,_,F,rfl,by rw[Af,hj];rfl,j.dk,(λq hq=>by obtain⟨j',e1,e2,_⟩:=owI hq;rw[hj]at e1;cases e1;exact⟨e2,((kndI hj).2.2.2 q e2).2⟩),(λh=>by obtain⟨j',e1,e2⟩:=G4 h;rw[hj]at e1;cases e1;exact(kndI hj).1 e2),(λh=>?_),(λh=>?_),?_,λh=>?_⟩)
      ·obtain⟨j',e1,e2⟩:=G4 h
       rw[hj]at e1
       cases e1
       obtain⟨k1,k2⟩:=(kndI hj).2.1 e2;obtain⟨x,e3,e4⟩:=t.tlb j (Ae hj) e2;have ed:j.defD.dvs K=[]:=by unfold He.DefD.dvs DJ.defD;rw[k2];rfl
       rw[ed]at F;obtain⟨kV,doc,pm,an,cdv,ct,_,rfl⟩:=V1 (K:=⟨K,P,w⟩) F;refine⟨k1,by show j.di.ps.length=1;rw[e3];rfl,λs u _=>?_⟩;show BindsTo s _ ⟨[u],[]⟩ (j.di.ps.zip [u])
       rw[e3];exact .of_eq (e4 kV doc pm an cdv ct u)
      ·have h:j.lam=true:=h
       have n0:=(kndI hj).2.2.1 h;have nm:j.nm=j.di.name:=by unfold DJ.nm;rw[n0]
       have F':=F;rw[nm]at F';exact lamI base (by unfold Nb;exact Jr.mpr ⟨j,Eh _ (Ae hj),by rw[if_pos h];exact Aq.mpr rfl⟩) (hm n0) F' TB
      ·exact okj
      ·obtain⟨j',e1,e2⟩:=G4 h
       rw[hj]at e1
       cases e1
       exact(rsI hj e2).2.2.2
 obtain⟨fd,F⟩:=c.def_ 0 (d:=mj.lj.defD) (by unfold fnOf;rfl);have eat:He.fAd K mj.lj.at_=He.ga K mj.lj.di.name:=by unfold DJ.at_;rw[t.own];rfl
 have enm:mj.lj.nm=mj.lj.di.name:=by unfold DJ.nm;rw[t.own]
 have F:FunD K mj.lj.nm mj.lj.di.name mj.lj.params mj.lj.di.body mj.lj.di.scope (mj.lj.defD.dvs K) (mj.lj.defD.kws K) (He.fAd K mj.lj.at_) fd:=F;rw[enm,eat]at F;have e1:mg mj.lj.di.name=some (.ref (He.ga K mj.lj.di.name)):=He.glo_ok X G (c.fact (f:=.glo mj.lj.di.name) (by unfold Ss;simp));have e2:=hfa.symm.trans e1
 cases e2
 have e3:mj.lj.defD.dvs K=[]:=by unfold He.DefD.dvs DJ.defD;rw[t.dfl];rfl
 rw[e3]at F;have hmfn:∀(f c:Nat) (m:Str),(f,c,m)∈(G7 mj).ms→∃x,(G7 mj).fns[f]? = some x:=λf c m h=>by
  obtain⟨j,q,e1,_⟩:=msI h;exact⟨j.di.name,by unfold G7;rw[Af,e1];rfl⟩
 have hfnv:∀(f:Nat) (d:Dat),gOf mj adr (1000000+f)=some d→∃x a fd',(G7 mj).fns[f]? = some x∧(G7 mj).isM f=false∧mg x=some (.ref a)∧d = .obj a []∧Jd ip it f=none∧(mj.js.map (·.di.d))[f]? = some fd'∧∃ss,(G7 mj).shp[f]? = some ss∧(fd'.np,[],Hj fd'.np)∈ss:=λf d hd=>by
  unfold gOf at hd;rw[if_pos (El _ _),Bm]at hd;by_cases hf:mj.fv.contains f=true
  ·rw [if_pos hf]at hd
   cases hd
   have one:=Ai.mp t.fvs f (by simpa using hf);simp only[Yzh,Bf,beq_eq_false_iff_ne,ne_eq]at one;obtain⟨n1,n2,n3⟩:=one
   cases hj:mj.js[f]? with
   | none=>rw[hj]at n3;cases n3
   | some j=>
    rw[hj]at n3;simp only[Ei,Yzh,beq_iff_eq,Nk,La]at n3;obtain⟨nm0,q,hq,e1,e2,e3⟩:=n3;have fl:f < mj.js.length:=(Ag.mp hj).1;have mn:=t.many;have hM:(G7 mj).isM f=false:=by
     cases hc:(G7 mj).isM f with
     | false=>rfl
     | true=>
      exfalso
      unfold Tb.isM at hc;obtain⟨q',h1,h2⟩:=Ei.mp hc;obtain⟨j',q2,e1,e2,_,_⟩:=msI (f:=q'.1) (c:=q'.2.1) (m:=q'.2.2) h1;rw[eq_of_beq h2,hj]at e1
      cases e1
      rw[nm0]at e2
      cases e2
    have ea:adr f=He.fAd K j.at_:=by
     show(if 600000≤f then _ else if 500000≤f then _ else(match mj.js[f]? with|some j=>He.fAd K j.at_|none=>0))=_
     rw[if_neg (by omega),if_neg (by omega),hj]
    refine⟨j.di.name,He.fAd K j.at_,j.di.d,by unfold G7;rw[Af,hj];rfl,hM,(lookJ hj).1 nm0,by show Dat.obj (adr f) []=_;rw[ea],by unfold Jd;rw[if_neg n1,if_neg n2],by rw[Af,hj];rfl,j.shp,by unfold G7;rw[Af,hj];rfl,?_⟩;have e:q=(j.di.d.np,[],Hj j.di.d.np):=by
     obtain⟨a,b,cc⟩:=q;simp only at e1 e2 e3
     rw[e1,e2,e3]
    rw[← e];exact hq
  ·rw[if_neg hf]at hd
   cases hd
 have hini:∀(c f:Nat) (q:Str×List Str) (p:Nat) (ns:List Dat),(c,f)∈(G7 mj).inis→(G7 mj).cls[c]? = some q→gOf mj adr (500000+c)=some (.obj p ns)→∃(fi:Addr) (fd:FuncData) (np:Nat) (i:DI) (params:Arguments) (qual:Str) (dvs:List V) (kws:List (Str×V)),Mk K p fi∧FunD K i.name qual params i.body i.scope dvs kws fi fd∧np+1=i.ps.length∧i.d.np=np+1∧Gf ⟨K,P,w⟩ fd i.ps (np+1) [] (Hj (np+1))∧(mj.js.map (·.di.d))[f]? = some i.d∧i.okI (G7 mj) q.2=true:=λc0 f q p ns hin hq hG=>by
  obtain⟨j,q0,hj,hm,hi,rfl⟩:=Anh hin;have okj:=Ai.mp t.ok (decide (f=ip) || (decide (f=it) || (if j.ini=true then j.okIni mj else j.di.okK (G7 mj) j.dk))) (Ae (i:=f) (by rw[Ce,hj];rfl));have nz:=Ai.mp t.inz (!j.ini || (!decide (f=ip) && !decide (f=it))) (Ae (i:=f) (by rw[Ce,hj];rfl));have nz:(!j.ini || (!decide (f=ip) && !decide (f=it)))=true:=nz;rw[hi]at nz;simp only[Cq,Hv,Yzh,Bf,decide_eq_false_iff_not]at nz;have okj:j.okIni mj=true:=by simpa [nz.1,nz.2,hi]using okj
  obtain⟨q1,cc,e0,hc,o1,o2,o3,o4,o5,o6,o7⟩:=Aa0 okj;rw[hm]at e0
  cases e0
  have lt:=(Ag.mp hc).1;have fc:=t.fewc;have hq:(mj.cj.map λc=>(c.name,c.fields))[q0.1]? = some q:=hq;rw[Af,hc]at hq;have hq:some (cc.name,cc.fields)=some q:=hq
  cases hq
  unfold gOf at hG;rw[if_neg (by omega),if_neg (by omega),if_pos (by omega),Bm,hc]at hG;have hG:some (Dat.obj (adr (500000+q0.1)) (cc.fields.map nmD))=some (Dat.obj p ns):=hG
  cases hG
  have ea:adr (500000+q0.1)=He.ga K cc.name:=by
   show(if 600000≤500000+q0.1 then _ else if 500000≤500000+q0.1 then(match mj.cj[500000+q0.1 - 500000]? with|some c=>He.ga K c.name|none=>0)else _)=_
   rw[if_neg (by omega),if_pos (by omega),Bm,hc]
  have mk:Mk K (He.ga K cc.name) (He.ma K (He.ga K cc.name) "__init__"):=He.mkr_ok (c.fact (clsI hc _ (by unfold CJ.fa;simp)));obtain⟨_,_,fd,F⟩:=lookJ hj;have mc:=Ai.mp t.mcl j (Ae hj);rw[hm]at mc;have mc:(match mj.cj[q0.1]? with|some c=>c.name == q0.2.1|none=>false)=true:=mc;rw[hc]at mc;have e5:cc.name=q0.2.1:=eq_of_beq mc;have efa:He.fAd K j.at_=He.ma K (He.ga K cc.name) "__init__" := by
   unfold DJ.at_;rw[hm,e5];show He.ma K (He.ga K q0.2.1) q0.2.2=_
   rw[o2]
  rw[efa]at F;have pos:1≤j.di.ps.length:=by
   unfold DI.okI at o1
   split at o1
   ·simp only[Yzh]at o1
    exact Bc o1.2.2.2.1
   ·cases o1
  refine⟨_,fd,j.di.ps.length - 1,{ j.di with name:=j.nm },_,_,_,_,by rw[ea];exact mk,F,by show _=j.di.ps.length;omega,by show j.di.d.np=_;omega,?_,by rw[Af,hj];rfl,o1⟩;rw[Nat.sub_add_cancel pos];exact t.binds j (Ae hj) _ o7 ⟨K,P,w⟩ _ fd F
 refine⟨fd,adr,⟨_,F⟩,λbase _ _ TB=>?_⟩;refine Aq4 ⟨Px ip it,told base TB,hfre,hglo,sys,hfnv,hmfn,hcl base,hxcl base,far,by show(mj.js.map (·.di.name)).length≤150;rw[Yzi];exact t.many,λf hf=>?_,λf p hp=>?_,λf hf=>?_,hini⟩ F t.law (λh=>?_) t.first k
 ·obtain⟨j,e1,_⟩:=G4 hf
  exact⟨j.di.name,by unfold G7;rw[Af,e1];rfl⟩
 ·obtain⟨j,e1,e2,_⟩:=owI hp
  exact((kndI e1).2.2.2 p e2).1
 ·obtain⟨j,e1,e2⟩:=G4 hf
  obtain⟨n1,n2,n3,_⟩:=rsI e1 e2;refine⟨by unfold Jd;rw[if_neg n1,if_neg n2],λd hd l hb=>?_⟩;rw[Af,e1]at hd;have hd:some j.di.d=some d:=hd
  cases hd
  rw[hb]at n3
  cases n3
 ·exact lamI base (by unfold Nb;exact Jr.mpr ⟨mj.lj,Dd,by rw[if_pos h];exact Aq.mpr rfl⟩) hfa F TB
theorem walk_tab{l:PySem.W.OpenLaw}{q:Program}{loose:List Str}{XP:(Str→Option Value)→Heap→Prop}{d:DefRec}{x:Str}(t:TabOk mj ip it)(k:Nat)(n:Nat)
  (hm:l.most=some 63) (hdf:d.params.defaults=[]) (hdn:d.name=mj.lj.di.name) (hk:Jz (k+1) 60=true) (hps:mj.lj.di.ps=[x]) (hrec:((Nb mj).all λx=>(recsOf q).any λe=>e.name == x)=true)
  (hb:∀(kV doc pm:Value) (an:Option Addr) (cdv ct:Value) (u:Value),bindArgs (PySem.W.fnOf mj.lj.di.name mj.lj.di.name mj.lj.params mj.lj.di.body mj.lj.di.scope .none kV doc pm an cdv ct) ⟨[u],[]⟩=pure [(x,u)])
  (law:∀(adr:Nat→Nat) (ns:List Int),ns.length≤63→execs (Bg (mj.js.map (·.di.d)) (gOf mj adr) (Jd ip it) k) (gOf mj adr) mj.lj.di.d.body (Bp mj.lj.di.d.nn [.scr ns]) { nx:=λ_=>False,rt:=λ_ d=>d = .bl true }) :
  PySem.W.WalkO q loose XP (Aes n mj.cs mj.ts mj.xs (Nb mj) (Ss mj) (fnOf mj)).says l.row.toRowW d [] (λf vs=>PySem.call f vs):=by
 have hk':k+1≤60:=Bc hk;refine Aot (l:=l) (n:=63) (k:=k+1) (c:=Jh ^ (k+1)) (x:=x) hm (by decide) hdf ⟨rfl,?_,?_,rfl⟩ ?_ ?_
 ·show 1+PySem.claimMargin+3*(k+1)+20 < recursionLimit
  have:1+PySem.claimMargin+3*60+20 < recursionLimit:=by decide
  omega
 ·show 4+16*(k+1)+400 < cLine
  have:4+16*60+400 < cLine:=by decide
  omega
 ·unfold Jh Z3
  rw[← Nat.pow_mul];exact Fe (by decide) (by omega)
 ·intro w mg fa h Y G hmg0 htab
  obtain⟨K,KX,nt,c⟩:=Y;obtain⟨fd,adr,⟨kws,F⟩,hF⟩:=Afl (P:=l.prog) (w:=w) t KX G nt c (fa:=fa) (by rw[← hdn];exact hmg0) k;refine⟨Aov K mj,K,fd,_,(Nb mj).map (Hz K),KX,λp hp=>?_,λp hp=>?_,?_,λns hl=>?_,λbase hb1 hb2 hb3=>by rw[← hps];exact hF base hb1 hb2 hb3⟩
  ·obtain⟨y,hy,rfl⟩:=Ac.mp hp
   obtain⟨z1,z2⟩:=htab K y (Hz K y).1 (Hz K y).2 KX (Ai.mp hrec y hy) (c.lams.1 y hy);refine⟨z1,z2,?_⟩
   cases e:K.lookup (Hz K y).2 with
   | none=>rfl
   | some o=>
    have e2:=KX _ _ e;rw[z2]at e2
    cases e2
    exact absurd rfl (nt _ _ e)
  ·obtain⟨y,hy,rfl⟩:=Ac.mp hp
   exact Ac.mpr ⟨Hz K y,Ac.mpr ⟨y,hy,rfl⟩,rfl⟩
  ·obtain⟨oc,od,dV,kV,doc,pm,an,cdv,ct,osl,rfl,lk,hcd,hD,hK⟩:=F.ex
   rcases hD with⟨_,rfl⟩|⟨e,_⟩
   ·exact λs u=>.of_eq (hb kV doc pm an cdv ct u)
   ·exact absurd rfl e
  ·have q:=law adr ns hl
   exact execs_mono (Dj (Px ip it) k) _ _ { nx:=λ_=>False,rt:=λ_ d=>d = .bl true } _ ⟨λ_ z=>False.elim z,λ_ _ z=>z,λ_ z=>z,λ_ z=>z,λ_ _ z=>z.elim⟩ q
end
end SF
namespace SF
theorem all_nil{α:Type}{p:α→Prop}:∀x∈([]:List α),p x:=λ_ h=>nomatch h
theorem all_cons{α:Type}{p:α→Prop}{a:α}{l:List α}(h:p a)(t:∀x∈l,p x):∀x∈a::l,p x:=λx hx=>by
 rcases Ad.mp hx with rfl|q
 ·exact h
 ·exact t x q
end SF

set_option maxHeartbeats 0
namespace SF.K14
open PySem PySem.Spec PyProof.Rows L2 SF
theorem Auh:Xj1.binds (1,[],[.p 0]):=DJ.binds_plain rfl (by decide +kernel) rfl λ_ _ _ _ _ _ u w h i=>match u,h,w,i with | [_],_,[],_=>rfl
theorem Auf:Xj3.binds (1,[],[.p 0]):=DJ.binds_plain rfl (by decide +kernel) rfl λ_ _ _ _ _ _ u w h i=>match u,h,w,i with | [_],_,[],_=>rfl
theorem Aue:Xj5.binds (2,[],[.p 0,.p 1]):=DJ.binds_plain rfl (by decide +kernel) rfl λ_ _ _ _ _ _ u w h i=>match u,h,w,i with | [_,_],_,[],_=>rfl
theorem Aud:Xj7.binds (2,[],[.p 0,.p 1]):=DJ.binds_plain rfl (by decide +kernel) rfl λ_ _ _ _ _ _ u w h i=>match u,h,w,i with | [_,_],_,[],_=>rfl
theorem Auc:Xj9.binds (1,[],[.p 0]):=DJ.binds_plain rfl (by decide +kernel) rfl λ_ _ _ _ _ _ u w h i=>match u,h,w,i with | [_],_,[],_=>rfl
theorem Aub:Xj11.binds (1,[],[.p 0]):=DJ.binds_plain rfl (by decide +kernel) rfl λ_ _ _ _ _ _ u w h i=>match u,h,w,i with | [_],_,[],_=>rfl
theorem Aua:Xj11.binds (0,["rule"],[.k 0]):=DJ.binds_plain rfl (by decide +kernel) rfl λ_ _ _ _ _ _ u w h i=>match u,h,w,i with | [],_,[_],_=>rfl
theorem At9:Xj13.binds (2,[],[.p 0,.p 1]):=DJ.binds_plain rfl (by decide +kernel) rfl λ_ _ _ _ _ _ u w h i=>match u,h,w,i with | [_,_],_,[],_=>rfl
theorem At8:Xj15.binds (2,[],[.p 0,.p 1]):=DJ.binds_plain rfl (by decide +kernel) rfl λ_ _ _ _ _ _ u w h i=>match u,h,w,i with | [_,_],_,[],_=>rfl
theorem At7:Xj17.binds (2,[],[.p 0,.p 1]):=DJ.binds_plain rfl (by decide +kernel) rfl λ_ _ _ _ _ _ u w h i=>match u,h,w,i with | [_,_],_,[],_=>rfl
theorem At6:Xj19.binds (2,[],[.p 0,.p 1]):=DJ.binds_plain rfl (by decide +kernel) rfl λ_ _ _ _ _ _ u w h i=>match u,h,w,i with | [_,_],_,[],_=>rfl
theorem At5:Xj21.binds (2,[],[.p 0,.p 1]):=DJ.binds_plain rfl (by decide +kernel) rfl λ_ _ _ _ _ _ u w h i=>match u,h,w,i with | [_,_],_,[],_=>rfl
theorem At4:Xj23.binds (2,[],[.p 0,.p 1]):=DJ.binds_plain rfl (by decide +kernel) rfl λ_ _ _ _ _ _ u w h i=>match u,h,w,i with | [_,_],_,[],_=>rfl
theorem At3:Xj25.binds (3,[],[.p 0,.p 1,.p 2]):=DJ.binds_plain rfl (by decide +kernel) rfl λ_ _ _ _ _ _ u w h i=>match u,h,w,i with | [_,_,_],_,[],_=>rfl
theorem At2:Xj27.binds (1,[],[.p 0]):=DJ.binds_plain rfl (by decide +kernel) rfl λ_ _ _ _ _ _ u w h i=>match u,h,w,i with | [_],_,[],_=>rfl
theorem At1:Xj29.binds (1,[],[.p 0]):=DJ.binds_plain rfl (by decide +kernel) rfl λ_ _ _ _ _ _ u w h i=>match u,h,w,i with | [_],_,[],_=>rfl
theorem At0:Xj31.binds (1,[],[.p 0]):=DJ.binds_plain rfl (by decide +kernel) rfl λ_ _ _ _ _ _ u w h i=>match u,h,w,i with | [_],_,[],_=>rfl
theorem tab:TabOk mj 8 9 where
 knd:=by decide +kernel
 rsk:=by decide +kernel
 tlb:=Ahr (by decide +kernel)
 fewx:=by decide
 xcl:=by decide +kernel
 xlb:=all_nil
 pot:=⟨Xj17,rfl,by decide +kernel,rfl,rfl⟩
 take:=⟨Xj19,rfl,by decide +kernel,rfl,rfl⟩
 free:=by decide +kernel
 ok:=by decide +kernel
 binds:=(all_cons (p:=λj:DJ=>∀q∈j.shp,j.binds q) (a:=Xj1) (all_cons Auh all_nil) (all_cons (p:=λj:DJ=>∀q∈j.shp,j.binds q) (a:=Xj3) (all_cons Auf all_nil) (all_cons (p:=λj:DJ=>∀q∈j.shp,j.binds q) (a:=Xj5) (all_cons Aue all_nil) (all_cons (p:=λj:DJ=>∀q∈j.shp,j.binds q) (a:=Xj7) (all_cons Aud all_nil) (all_cons (p:=λj:DJ=>∀q∈j.shp,j.binds q) (a:=Xj9) (all_cons Auc all_nil) (all_cons (p:=λj:DJ=>∀q∈j.shp,j.binds q) (a:=Xj11) (all_cons Aub (all_cons Aua all_nil)) (all_cons (p:=λj:DJ=>∀q∈j.shp,j.binds q) (a:=Xj13) (all_cons At9 all_nil) (all_cons (p:=λj:DJ=>∀q∈j.shp,j.binds q) (a:=Xj15) (all_cons At8 all_nil) (all_cons (p:=λj:DJ=>∀q∈j.shp,j.binds q) (a:=Xj17) (all_cons At7 all_nil) (all_cons (p:=λj:DJ=>∀q∈j.shp,j.binds q) (a:=Xj19) (all_cons At6 all_nil) (all_cons (p:=λj:DJ=>∀q∈j.shp,j.binds q) (a:=Xj21) (all_cons At5 all_nil) (all_cons (p:=λj:DJ=>∀q∈j.shp,j.binds q) (a:=Xj23) (all_cons At4 all_nil) (all_cons (p:=λj:DJ=>∀q∈j.shp,j.binds q) (a:=Xj25) (all_cons At3 all_nil) (all_cons (p:=λj:DJ=>∀q∈j.shp,j.binds q) (a:=Xj27) (all_cons At2 all_nil) (all_cons (p:=λj:DJ=>∀q∈j.shp,j.binds q) (a:=Xj29) (all_cons At1 all_nil) (all_cons (p:=λj:DJ=>∀q∈j.shp,j.binds q) (a:=Xj31) (all_cons At0 all_nil) all_nil))))))))))))))))
 law:=by decide +kernel
 first:=by rfl
 dfl:=rfl
 few:=by decide
 fvs:=by decide +kernel
 many:=by decide
 fewc:=by decide
 own:=rfl
 cls:=by decide +kernel
 clb:=all_nil
 inz:=by decide +kernel
 ivs:=by decide +kernel
 mcl:=by decide +kernel
 ows:=by decide +kernel
end SF.K14
set_option maxHeartbeats 1000000
namespace SF
instance tn0:TN:=⟨[]⟩
open PySem L2
section
variable{T:List FDef}{G:Nat→Option Dat}{prim:Nat→Option (List Dat→(Dat→Prop)→Prop)}
def Sp(T:List FDef)(G:Nat→Option Dat)(prim:Nat→Option (List Dat→(Dat→Prop)→Prop))(f c:Nat)(W:List Dat→(Dat→Prop)→Prop):Prop:=∀k,c≤k→∀ds Q,W ds Q→Bg T G prim k f ds Q
def PM(prim:Nat→Option (List Dat→(Dat→Prop)→Prop)):Prop:=∀f p,prim f=some p→∀ds,Bj (p ds)
theorem Sp.of_def{f c:Nat}{d:FDef}{W:List Dat→(Dat→Prop)→Prop}(hT:T[f]? = some d)(hp:prim f=none)(h:∀k,c≤k→∀ds Q,W ds Q→ds.length=d.np∧execs (Bg T G prim k) G d.body (Bp d.nn ds) { nx:=λ_=>Q .non,rt:=λ_=>Q }):Sp T G prim f (c+1) W:=λk hk ds Q hW=>by
 cases k with
 | zero=>omega
 | succ k=>
  rw[Bg,hp,hT];exact h k (by omega) ds Q hW
theorem Sp.of_prim{f:Nat}{p:List Dat→(Dat→Prop)→Prop}(hp:prim f=some p):Sp T G prim f 1 p:=λk hk ds Q hW=>by
 cases k with
 | zero=>omega
 | succ k=>
  rw[Bg,hp];exact hW
theorem Sp.mono{f c c':Nat}{W:List Dat→(Dat→Prop)→Prop}(h:Sp T G prim f c W)(le:c≤c'):Sp T G prim f c' W:=λk hk=>h k (by omega)
theorem Sp.weak{f c:Nat}{W W':List Dat→(Dat→Prop)→Prop}(h:Sp T G prim f c W)(w:∀ds Q,W' ds Q→W ds Q):Sp T G prim f c W':=λk hk ds Q q=>h k hk ds Q (w ds Q q)
end
theorem O8{p:P}{b:Env→Post→Prop}(hb:∀ δ D D',D.Le D'→b δ D→b δ D'){D:Post}(I:List Dat→Env→Prop):∀(ds pre:List Dat) (δ:Env),I pre δ →
  (∀pre' d post δ',pre'++d::post=pre++ds→I pre' δ'→Cz p d δ' λδ2=>b δ2 { nx:=I (pre'++[d]),ct:=I (pre'++[d]),bk:=D.nx,rt:=D.rt,ex:=D.ex })→(∀ δ',I (pre++ds) δ'→D.nx δ')→G5 p b ds δ D
 | [],pre,δ,h0,hs,he=>by rw[G5];exact he δ (by rw[Bu];exact h0)
 | d::ds,pre,δ,h0,hs,he=>by
  rw[G5];have rest:∀ δ'',I (pre++[d]) δ''→G5 p b ds δ'' D:=λδ'' h1=>O8 hb I ds (pre++[d]) δ'' h1 (λpre' d' post δ' e=>hs pre' d' post δ' (by rw[e,Cm];rfl)) λδ' h2=>he δ' (by rw[Cm]at h2;exact h2)
  exact Eu p d δ _ _ (λδ2=>hb δ2 { nx:=I (pre++[d]),ct:=I (pre++[d]),bk:=D.nx,rt:=D.rt,ex:=D.ex } _ ⟨rest,λ_ _ z=>z,λ_ z=>z,rest,λ_ _ z=>z⟩) (hs pre d ds δ rfl h0)
theorem Am2{pre post ds:List Dat}{d:Dat}(e:pre++d::post=[]++ds):d∈ds:=by
 have:d∈pre++d::post:=by simp
 rw[e]at this
 simpa using this
theorem Agr{p:P}{b:Env→Post→Prop}(hb:∀ δ D D',D.Le D'→b δ D→b δ D'){D:Post}(I:Env→Prop)(ds:List Dat)(δ:Env)(h0:I δ)
  (hs:∀d∈ds,∀ δ',I δ'→Cz p d δ' λδ2=>b δ2 { nx:=I,ct:=I,bk:=D.nx,rt:=D.rt,ex:=D.ex }) (he:∀ δ',I δ'→D.nx δ'):G5 p b ds δ D:=
 O8 hb (λ_=>I) ds [] δ h0 (λpre' d post δ' e h=>hs d (Am2 e) δ' h) he
inductive F2 {α β:Type} (R:α→β→Prop):List α→List β→Prop where
 | nil:F2 R [] []
 | cons {a b as bs}:R a b→F2 R as bs→F2 R (a::as) (b::bs)
theorem F2.length{α β:Type}{R:α→β→Prop}{as:List α}{bs:List β}(h:F2 R as bs):as.length=bs.length:=by
 induction h with
 | nil=>rfl
 | cons _ _ ih=>simp[ih]
theorem F2.imp{α β:Type}{R S:α→β→Prop}(k:∀a b,R a b→S a b){as:List α}{bs:List β}(h:F2 R as bs):F2 S as bs:=by
 induction h with
 | nil=>exact .nil
 | cons h1 _ ih=>exact .cons (k _ _ h1) ih
theorem F2.right{α β:Type}{R:α→β→Prop}{P:β→Prop}(k:∀a b,R a b→P b){as:List α}{bs:List β}(h:F2 R as bs):∀b∈bs,P b:=by
 induction h with
 | nil=>intro b hb;cases hb
 | cons h1 _ ih=>
  intro b hb
  rcases Ad.mp hb with rfl|q
  ·exact k _ _ h1
  ·exact ih b q
theorem F2.pull{α β γ:Type}{R:α→β→Prop}{S:α→γ→Prop}(g:γ→β)(k:∀a b,R a b→∃c,b=g c∧S a c){as:List α}{bs:List β}(h:F2 R as bs):∃cs:List γ,bs=cs.map g∧F2 S as cs:=by
 induction h with
 | nil=>exact⟨[],rfl,.nil⟩
 | cons h1 _ ih=>
  obtain⟨c,rfl,h2⟩:=k _ _ h1;obtain⟨cs,rfl,h3⟩:=ih;exact⟨c::cs,rfl,.cons h2 h3⟩
theorem F2.all{α β:Type}{P:β→Prop}{as:List α}{bs:List β}(h:F2 (λ_ b=>P b) as bs):∀b∈bs,P b:=h.right (P:=P) λ_ _ q=>q
theorem Aa5{α:Type}{f:α→(Option Dat→Prop)→Prop}(R:α→Dat→Prop):∀(l:List α) (Q:List Dat→Prop),(∀x∈l,∀Q':Option Dat→Prop,(∀y,R x y→Q' (some y))→f x Q')→(∀ys,F2 R l ys→Q ys)→Ff f l Q
 | [],Q,hf,h=>by rw[Ff];exact h [] .nil
 | x::xs,Q,hf,h=>by
  rw[Ff];refine hf x (by simp) _ λy hy=>Aa5 R xs _ (λz hz=>hf z (by simp[hz])) λys hys=>h _ (.cons hy hys)
theorem Aa4{α:Type}{f:α→(Option Dat→Prop)→Prop}(h:α→Option Dat):∀(l:List α) (Q:List Dat→Prop),(∀x∈l,∀Q':Option Dat→Prop,Q' (h x)→f x Q')→Q (l.filterMap h)→Ff f l Q
 | [],Q,hf,q=>by rw[Ff];exact q
 | x::xs,Q,hf,q=>by
  rw[Ff];refine hf x (by simp) _ (Aa4 h xs _ (λz hz=>hf z (by simp[hz])) ?_);rw[Hq]at q
  cases e:h x with
  | none=>rw[e]at q;exact q
  | some y=>rw[e]at q;exact q
theorem Ajo{α:Type}{f:α→(Option Dat→Prop)→Prop}(h:α→Dat)(l:List α)(Q:List Dat→Prop)(hf:∀x∈l,∀Q':Option Dat→Prop,Q' (some (h x))→f x Q')(q:Q (l.map h)):Ff f l Q:=
 Aa4 (λx=>some (h x)) l Q hf (by rw[Em];exact q)
theorem V7{α:Type}(s:List α)(n:Nat):cut s none (some (n:Int))=s.take n:=by
 unfold cut;rw[HT.sIx_none,HT.sIx_nat,Zx,Nat.sub_zero];by_cases h:n≤s.length
 ·rw[Nat.min_eq_left h]
 ·rw[Nat.min_eq_right (by omega),Wi,Ou (by omega)]
theorem Ra{α:Type}(s:List α)(n:Nat):cut s (some (n:Int)) none=s.drop n:=by
 unfold cut;rw[HT.sIx_none,HT.sIx_nat];by_cases h:n≤s.length
 ·rw[Nat.min_eq_left h,Ou (by simp)]
 ·rw[Nat.min_eq_right (by omega),Nat.sub_self,List.take_zero,List.drop_of_length_le (by omega)]
theorem Ars{α:Type}(l:List α)(n:Nat)(h:n < l.length):atI l (n:Int)=some l[n]:=by
 unfold atI ixN;rw[if_pos (by omega),if_pos (by omega),Mx];simp[h]
theorem Rf{l:List Dat}{n:Nat}{d:Dat}(h:l[n]? = some d):atD l (n:Int)=some d:=by
 obtain⟨h1,h2⟩:=Ag.mp h;unfold atD;rw[Ars l n h1,h2]
theorem Anz{l:List Dat}{i:Int}(h0:0≤i)(h1:i < l.length):∃d∈l,atD l i=some d:=by
 obtain⟨n,rfl⟩:=Gp h0;exact⟨l[n],Np _,Rf (Ab (by omega))⟩
abbrev Nm:=List Nat
def tS(l:List Nm):Dat:=.tup (l.map .str)
theorem O3(n:Nat)(s:Nm):okd n (.str s):=by cases n<;>trivial
theorem Vr{n:Nat}{l:List Nm}:∀z∈l.map Dat.str,okd n z:=λz hz=>by
 obtain⟨s,_,rfl⟩:=Ac.mp hz;exact O3 n s
def Um(s:Nm):Bool:=s.take 1 == [45]
def Fw(s:Nm):Nm:=if Um s then s.drop 1 else s
def X4(s:Nm):Nm:=if Um s then s.drop 1 else 45::s
section
variable{T:List FDef}{G:Nat→Option Dat}{prim:Nat→Option (List Dat→(Dat→Prop)→Prop)}
def Rg(ds:List Dat)(Q:Dat→Prop):Prop:=∃s,ds=[.str s]∧Q (.bl (Um s))
theorem Wo{f g:Nat}(hT:T[f]? = some (Mq g))(hp:prim f=none)(hg:G g=some (.str [45])):Sp T G prim f 1 Rg:=
 .of_def hT hp λk hk ds Q ⟨s,e,q⟩=>by
  subst e;refine⟨rfl,?_⟩;unfold Mq Bp;simp only[execs,exec,ev,evs,Du,Dy,Yza,Yzb,Yze,Yzf,biW,Rz,Zu,Jl,Xr,Adf,Ada,Ac8,Adp,meW,Ij,M9,Jm,Y9,Bs,Jx,Hg,Cz,bindPs,Bx,Dt,Yzc,Yzd,okd,Uc,Av,Bb,Di,Gz,Y4,Gv,Q7,Jt,Ih,Kz,Iw,Jp,Ep,Bh,Ed,Tj,Eb,Ko,Fx,Cq,Bool.true_or,Hv,Gx,true_and,and_true,Pn,Ru,Afm,U6,Abf,hg];rw[show((1:Int))=((1:Nat):Int)from rfl,V7];rw[eqD];exact q
def Kv(ds:List Dat)(Q:Dat→Prop):Prop:=∃s,ds=[.str s]∧Q (.str (Fw s))
theorem Yt{f f1:Nat}(hT:T[f]? = some (Ot f1))(hp:prim f=none)(h1:Sp T G prim f1 1 Rg):Sp T G prim f 2 Kv:=
 .of_def hT hp λk hk ds Q ⟨s,e,q⟩=>by
  subst e;refine⟨rfl,?_⟩;unfold Ot Bp;simp only[execs,exec,ev,evs,Du,Dy,Yza,Yzb,Yze,Yzf,biW,Rz,Zu,Jl,Xr,Adf,Ada,Ac8,Adp,meW,Ij,M9,Jm,Y9,Bs,Jx,Hg,Cz,bindPs,Bx,Dt,Yzc,Yzd,okd,Uc,Av,Bb,Di,Gz,Y4,Gv,Q7,Jt,Ih,Kz,Iw,Jp,Ep,Bh,Ed,Tj,Eb,Ko,Fx,Cq,Bool.true_or,Hv,Gx,true_and,and_true,Pn,Ru,Afm,U6,Abf];refine h1 k hk _ _ ⟨s,rfl,?_⟩;simp only[Bs];unfold Fw at q
  cases h:Um s with
  | true=>
   rw[h,if_pos rfl]at q;rw[if_pos rfl,show((1:Int))=((1:Nat):Int)from rfl,Ra];exact q
  | false=>
   rw[h]at q;exact q
end
end SF
namespace SF
open PySem L2
theorem Vv{b:Int}(h0:0≤b)(h:b≤2 ^ 200):b.natAbs < 2 ^ 8000:=by
 have h1:(2:Nat) ^ 201≤2 ^ 8000:=Fe (by decide) (by decide);have h2:(2:Nat) ^ 201=3213876088517980551083924184682325205044405987565585670602752:=by decide
 have h3:(2:Int) ^ 200=1606938044258990275541962092341162602522202993782792835301376:=by decide
 omega
theorem Aq1{b:Int}(h0:0≤b)(h:b≤100000000):b.natAbs < 2 ^ 8000:=Vv h0 (Int.le_trans h (by decide))
theorem Zq{n:Nat}(h:n≤big):(n:Int)≤2 ^ 200:=by
 have h3:(2:Int) ^ 200=1606938044258990275541962092341162602522202993782792835301376:=by decide
 have:big=16777216:=rfl;omega
def An6(ds:List Dat)(Q:Dat→Prop):Prop:=∃x l,ds=[.pot,x]∧Di x=some l∧l≠[]∧l.length≤big∧∀d∈l,Q d
def leS(a b:Nm):Bool:=!ltS b a
theorem Qc:∀a:Nm,ltS a a=false
 | []=>by rw[ltS]
 | a::l=>by rw[ltS];simp[Qc l]
theorem O6:∀a b c:Nm,ltS a b=true→ltS b c=true→ltS a c=true
 | [],[],_,h,_=>by simp[ltS]at h
 | [],_::_,[],_,h=>by simp[ltS]at h
 | [],_::_,_::_,_,_=>by simp[ltS]
 | _::_,[],_,h,_=>by simp[ltS]at h
 | _::_,_::_,[],_,h=>by simp[ltS]at h
 | a :: as,b::bs,c::cs,h1,h2=>by
  rw[ltS]at h1 h2 ⊢;by_cases e1:a < b
  ·by_cases e2:b < c
   ·rw[if_pos (by omega)]
   ·rw[if_neg e2]at h2
    by_cases e3:b=c
    ·subst e3;rw[if_pos e1]
    ·rw[if_neg e3]at h2;cases h2
  ·rw [if_neg e1]at h1
   by_cases e3:a=b
   ·subst e3
    rw[if_pos rfl]at h1;by_cases e2:a < c
    ·rw[if_pos e2]
    ·rw[if_neg e2]at h2 ⊢
     by_cases e4:a=c
     ·subst e4
      rw[if_pos rfl]at h2 ⊢;exact O6 as bs cs h1 h2
     ·rw[if_neg e4]at h2;cases h2
   ·rw[if_neg e3]at h1;cases h1
theorem Uw:∀a b:Nm,ltS a b=true∨a=b∨ltS b a=true
 | [],[]=>.inr (.inl rfl)
 | [],_::_=>.inl (by rw[ltS])
 | _::_,[]=>.inr (.inr (by rw[ltS]))
 | a::as,b::bs=>by
  rw[ltS,ltS];by_cases e1:a < b
  ·exact .inl (by rw[if_pos e1])
  ·by_cases e2:b < a
   ·exact .inr (.inr (by rw[if_pos e2]))
   ·have:a=b:=by omega
    subst this;rw[if_neg e1,if_pos rfl,if_neg e1,if_pos rfl]
    rcases Uw as bs with h|h|h
    ·exact .inl h
    ·exact .inr (.inl (by rw[h]))
    ·exact .inr (.inr h)
theorem Xq{a b:Nm}(h:ltS a b=true):ltS b a=false:=by
 cases q:ltS b a with
 | false=>rfl
 | true=>have:=O6 a b a h q;rw[Qc]at this;cases this
theorem Ago(a b:Nm):(leS a b || leS b a)=true:=by
 unfold leS
 rcases Uw a b with h|h|h
 ·rw[Xq h];rfl
 ·subst h;rw[Qc];rfl
 ·rw[Xq h];simp
theorem Agn(a b c:Nm)(h1:leS a b=true)(h2:leS b c=true):leS a c=true:=by
 unfold leS at *;rw[Bf]at *
 cases q:ltS c a with
 | false=>rfl
 | true=>
  rcases Uw a b with h|h|h
  ·have:=O6 _ _ _ q h;rw[this]at h2;cases h2
  ·subst h;rw[q]at h2;cases h2
  ·rw[h]at h1;cases h1
def Asc(l:List Nm):Prop:=l.Pairwise λa b=>ltS a b=true
theorem Afo(l:List Nm):Df (l.map .str)=(l.mergeSort leS).map Dat.str:=by
 unfold Df;rw[Tq (r:=leS) (s:=λx y=>!ltD y x)];intro a _ b _;unfold leS;rw[ltD]
theorem Abv{l:List Nm}(h:l.Nodup):Asc (l.mergeSort leS):=by
 have h1:=Nh Agn Ago l;have h2:(l.mergeSort leS).Nodup:=(Fo l leS).nodup_iff.mpr h;unfold Asc;have h3:=h1.and h2;refine h3.imp λ{a b} ⟨p,q⟩=>?_
 unfold leS at p;rw[Bf]at p
 rcases Uw a b with h|h|h
 ·exact h
 ·exact absurd h q
 ·rw[h]at p;cases p
theorem Ado(l:List Nm):alikeAll (l.map Dat.str):=λx hx y hy=>by
 obtain⟨a,_,rfl⟩:=Ac.mp hx;obtain⟨b,_,rfl⟩:=Ac.mp hy;rw[Av]
theorem Amz(l:List Nm):∀z∈l.map Dat.str,okd 60 z∧Gj z=true:=λz hz=>by
 obtain⟨s,_,rfl⟩:=Ac.mp hz;exact⟨O3 60 s,rfl⟩
def U3(s:Nm):Prop:=∀c∈s,97≤c∧c≤122
structure NameOk(s:Nm):Prop where
 lo:1≤s.length
 hi:s.length≤8
 let_:U3 s
structure NamesOk(n:Nat)(names:List Nm):Prop where
 len:names.length=n
 each:∀s∈names,NameOk s
 asc:Asc names
 six:∀s∈names,s.length≠6
def abc:Nm:=[97,98,99,100,101,102,103,104,105,106,107,108,109,110,111,112,113,114,115,116,117,118,119,120,121,122]
theorem Arw{i:Nat}(h:i < 26):abc[i]? = some (97+i):=by
 have:∀i:Fin 26,abc[i.val]? = some (97+i.val):=by decide
 exact this ⟨i,h⟩
theorem An4{c:Nat}(h:c∈abc):97≤c∧c≤122:=by
 have:∀c∈abc,97≤c∧c≤122:=by decide
 exact this c h
def Oi(stem:Nm)(c:Nat)(a leap:Int)(t:Nat):Nm:=stem.take c++[97+((a+leap*t) % 26).toNat]++stem.drop c
theorem Ac5{stem:Nm}{c:Nat}{a leap:Int}(hl:leap=1∨leap=3∨leap=5∨leap=7∨leap=9∨leap=11){t u:Nat}(ht:t < 26)(hu:u < 26)(h:Oi stem c a leap t=Oi stem c a leap u):t=u:=by
 unfold Oi at h;rw[List.append_cancel_right_eq,List.append_cancel_left_eq]at h;have e:97+((a+leap*t) % 26).toNat=97+((a+leap*u) % 26).toNat:=by injection h
 have h1:=Ew (a+leap*t) (show(26:Int)≠0 by decide);have h2:=Ew (a+leap*u) (show(26:Int)≠0 by decide);have e2:(a+leap*t) % 26=(a+leap*u) % 26:=by omega
 rcases hl with rfl|rfl|rfl|rfl|rfl|rfl<;>omega
theorem Age{stem:Nm}{c:Nat}{a leap:Int}(hs:U3 stem)(hl:stem.length≤7)(t:Nat):NameOk (Oi stem c a leap t):=by
 unfold Oi;refine⟨by simp;omega,?_,λx hx=>?_⟩
 ·have:(stem.take c++[97+((a+leap*t) % 26).toNat]++stem.drop c).length=stem.length+1:=by
   simp only[Yzj,Br,Fv,Yzk,Az];omega
  omega
 ·simp only[Bl,Ad,Yzm,or_false]at hx
  rcases hx with(h|h)|h
  ·exact hs x (Ef h)
  ·have h1:=Ew (a+leap*t) (show(26:Int)≠0 by decide)
   have h2:=Ey (a+leap*t) (show(0:Int) < 26 by decide);omega
  ·exact hs x (List.mem_of_mem_drop h)
theorem Uk{α:Type}{n:Nat}{f:Nat→α}(h:∀t u,t < n→u < n→f t=f u→t=u):((Dz n).map f).Nodup:=by
 unfold List.Nodup;rw[Uo];refine List.Pairwise.imp_of_mem (R:=λa b=>a≠b) (λ{a b} ha hb hne e=>hne (h a b (Qp.mp ha) (Qp.mp hb) e)) List.nodup_range
theorem Za{stem:Nm}{c:Nat}{a leap:Int}(hl:leap=1∨leap=3∨leap=5∨leap=7∨leap=9∨leap=11)(hs:U3 stem)(h7:stem.length≤7)(h5:stem.length≠5){n:Nat}(hn:n≤26):NamesOk n (((Dz n).map (Oi stem c a leap)).mergeSort leS):=by
 refine⟨by rw[Cv,Yzi,Fg],λs h=>?_,Abv (Uk λt u ht hu e=>Ac5 hl (by omega) (by omega) e),λs h=>?_⟩
 ·rw[Tp,Ac]at h
  obtain⟨t,_,rfl⟩:=h;exact Age hs h7 t
 ·rw[Tp,Ac]at h
  obtain⟨t,_,rfl⟩:=h;unfold Oi;simp only[Yzj,Br,Fv,Yzk,Az];omega
theorem Xx:∀cs:List Nat,M7 [] (cs.map λc=>[c])=cs
 | []=>rfl
 | [c]=>rfl
 | c::d::r=>by
  show M7 [] ([c]::[d]::r.map λc=>[c])=_
  rw[M7];have:=Xx (d::r);rw[Yzs]at this;rw[this];rfl
theorem Ahz(cs:List Nat):((cs.map λc=>[c]).map Dh).sum=cs.length:=by
 induction cs with
 | nil=>rfl
 | cons c r ih=>simp only[Yzs,List.sum_cons,Yzk,ih,Az];omega
section
variable{T:List FDef}{G:Nat→Option Dat}{prim:Nat→Option (List Dat→(Dat→Prop)→Prop)}
theorem Ar3{f f1:Nat}(hT:T[f]? = some (Tg f1))(hp:prim f=none)(h1:Sp T G prim f1 1 Nu):Sp T G prim f 2 An6:=
 .of_def hT hp λk hk ds Q ⟨x,l,e,hi,hn,hl,q⟩=>by
  subst e;refine⟨rfl,?_⟩;unfold Tg Bp;have hpos:0 < l.length:=List.length_pos_iff.mpr hn;have key:∀r:Int,0≤r→r < l.length→∃d∈l,atD l r=some d:=λr h0 h1=>Anz h0 h1
  simp only[execs,exec,ev,evs,Du,Dy,Yza,Yzb,Yze,Yzf,biW,Rz,Zu,Jl,Xr,Adf,Ada,Ac8,Adp,meW,Ij,M9,Jm,Y9,Bs,Jx,Hg,Cz,bindPs,Bx,Dt,Yzc,Yzd,okd,Uc,Av,Bb,Di,Gz,Y4,Gv,Q7,Jt,Ih,Kz,Iw,Jp,Ep,Bh,Ed,Tj,Eb,Ko,Fx,Cq,Bool.true_or,Hv,Gx,true_and,and_true,Pn,Ru,Afm,U6,Abf]
  cases x with
  | tup xs=>
   cases hi
   dsimp only;refine h1 k hk _ _ ⟨⟨by omega,Vv (by omega) (Zq hl)⟩,λr h0 hr=>?_⟩;obtain⟨d,hd,ha⟩:=key r h0 hr;exact⟨d,ha,q d hd⟩
  | lst xs=>
   cases hi
   dsimp only;refine h1 k hk _ _ ⟨⟨by omega,Vv (by omega) (Zq hl)⟩,λr h0 hr=>?_⟩;obtain⟨d,hd,ha⟩:=key r h0 hr;exact⟨d,ha,q d hd⟩
  | str xs=>
   cases hi
   dsimp only;rw[Yzi]at hl hpos;refine h1 k hk _ _ ⟨⟨by omega,Vv (by omega) (Zq hl)⟩,λr h0 hr=>?_⟩;obtain⟨d,hd,ha⟩:=key r h0 (by rw[Yzi];exact hr);exact⟨d,ha,q d hd⟩
  | _=>cases hi
def Ae8(ds:List Dat)(Q:Dat→Prop):Prop:=∃n:Nat,ds=[.pot,.int n]∧n≤26∧∀names,NamesOk n names→Q (tS names)
theorem Xj{n:Nat}{pre post:List Dat}{d:Dat}(e:pre++d::post=[]++(Dz n).map λi:Nat=>Dat.int i):d = .int pre.length∧pre.length < n:=by
 rw[Ep]at e;have h1:((Dz n).map λi:Nat=>Dat.int i)[pre.length]? = some d:=by rw[← e];simp
 rw[Af]at h1;have lt:pre.length < n:=by
  have:=congrArg Dh e;simp at this;omega
 rw[List.getElem?_range lt]at h1;exact⟨(Aj.inj h1).symm,lt⟩
theorem Ah3{f f1 f2:Nat}(hpm:PM prim)(hT:T[f]? = some (Mu f2 f1))(hp:prim f=none)(h1:Sp T G prim f1 1 Nu)(h2:Sp T G prim f2 2 An6):Sp T G prim f 3 Ae8:=
 .of_def hT hp λk hk ds Q ⟨n,e,hn,q⟩=>by
  subst e;refine⟨rfl,?_⟩;unfold Mu;rw[show Bp 10 [.pot,.int n]=[.val .pot,.val (.int n),.no,.no,.no,.no,.no,.no,.no,.no]from rfl];rw[execs,exec];simp only[ev,Yze,Yzf];rw[execs,exec];simp only[ev,evs,Du,Yza,Yzb,Dt,Bx,Yzc,Yzd];refine h1 k (by omega) _ _ ⟨⟨by decide,Vv (by decide) (by decide)⟩,λa ha0 ha1=>?_⟩;refine h2 k (by omega) _ _ ⟨_,_,rfl,rfl,by simp,by decide,λd hd=>?_⟩;have hleap:∃leap:Int,d = .int leap∧(leap=1∨leap=3∨leap=5∨leap=7∨leap=9∨leap=11):=by
   simp only[Ad,Yzm,or_false]at hd
   rcases hd with rfl|rfl|rfl|rfl|rfl|rfl<;>exact⟨_,rfl,by decide⟩
  obtain⟨leap,rfl,hlp⟩:=hleap;refine⟨rfl,?_⟩;simp only[Kz,Iw,Jp,Ep,Bh,Yze,Yzf,Yzg,if_false];rw[execs,exec];simp only[ev,evs,Du,Yza,Yzb,Dt,Bx,Yzc,Yzd];refine⟨rfl,?_⟩;refine h2 k (by omega) _ _ ⟨_,_,rfl,rfl,by simp,by decide,λd hd=>?_⟩;have hr:∃r:Nat,d = .int r∧r≤7∧r≠5:=by
   simp only[Ad,Yzm,or_false]at hd
   rcases hd with rfl|rfl|rfl|rfl|rfl
   ·exact⟨0,rfl,by decide⟩
   ·exact⟨0,rfl,by decide⟩
   ·exact⟨1,rfl,by decide⟩
   ·exact⟨3,rfl,by decide⟩
   ·exact⟨7,rfl,by decide⟩
  obtain⟨r,rfl,hr7,hr5⟩:=hr;refine⟨⟨by omega,by have:big=16777216:=rfl;omega⟩,_,rfl,?_⟩;refine Aa5 (λ_ y=>∃c,y = .str [c]∧(97≤c∧c≤122)) _ _ (λx hx Q' hQ'=>?_) λys hys=>?_
  ·rw[Cz]
   simp only[Bb,Yze,Yzf,Bs,if_true,Yza,Yzb];refine h2 k (by omega) _ _ ⟨_,_,rfl,rfl,by simp,by simp[big],λd hd=>?_⟩;obtain⟨c,hc,rfl⟩:=Ac.mp hd;exact hQ' _ ⟨c,rfl,An4 hc⟩
  ·obtain⟨cs,rfl,hcs⟩:=hys.pull (S:=λ_ c=>97≤c∧c≤122) (λc:Nat=>Dat.str [c]) λ_ b ⟨c,h1,h2⟩=>⟨c,h1,h2⟩
   have hlen:cs.length=r:=by
    have:=hcs.length;simp at this
    omega
   have hlet:U3 cs:=hcs.all;have ess:cs.map (λc:Nat=>Dat.str [c])=(cs.map λc=>[c]).map Dat.str:=by rw[Dk];rfl
   simp only[meW,Aep];refine⟨cs.map λc=>[c],ess,by rw[Ahz];simp;have:big=16777216:=rfl;omega,?_⟩;rw[Xx];simp only[Yze,Yzf];rw[execs,exec];simp only[ev,evs,Du,Yza,Yzb,Dt,Bx,Yzc,Yzd,biW,Rz,Jm];refine h1 k (by omega) _ _ ⟨⟨by omega,Aq1 (by omega) (by omega)⟩,λct hc0 hc1=>?_⟩;obtain⟨c,rfl⟩:=Gp hc0;simp only[Yze,Yzf];rw[execs,exec];simp only[ev,evs];refine⟨rfl,?_⟩;simp only[Yze,Yzf];rw[execs,exec];simp only[ev,Du,Yza,Yzb,Gz];refine⟨⟨by omega,by have:big=16777216:=rfl;omega⟩,_,rfl,?_⟩;rw[Mx];refine O8 (λδ D D' h=>execs_mono (Dj hpm k) _ δ D D' h) (λpre δ=>∃(s5 s9:Slot),δ=[.val .pot,.val (.int n),.val (.str abc),.val (.int a),.val (.int leap),s5,.val (.str cs),.val (.int c),.own (.lst (((Dz pre.length).map (Oi cs c a leap)).map Dat.str)),s9]) _ [] _ ⟨_,_,rfl⟩ ?_ ?_
   ·intro pre d post δ' e ⟨s5,s9,e1⟩
    subst e1;obtain⟨rfl,lt⟩:=Xj e;rw[Cz];simp only[Yze,Yzf];rw[execs,exec];simp only[ev,Du,Yza,Yzb,Jm,Jx];have h1:=Ew (a+leap*(pre.length:Nat)) (show(26:Int)≠0 by decide);have h2:=Ey (a+leap*(pre.length:Nat)) (show(0:Int) < 26 by decide);have hat:atD (abc.map λc=>Dat.str [c]) ((a+leap*(pre.length:Nat)) % 26)=some (.str [97+((a+leap*(pre.length:Nat)) % 26).toNat]):=by
     obtain⟨i,hi⟩:=Gp h1;rw[hi]at h2 ⊢;rw[Mx];refine Rf ?_;rw[Af,Arw (by omega)];rfl
    refine⟨.inl (.inl (by rcases hlp with rfl|rfl|rfl|rfl|rfl|rfl<;>decide)),by decide,_,hat,?_⟩;simp only[Yze,Yzf];rw[execs,exec];simp only[ev,Du,Dy,Yza,Yzb,Jm,Hg];have hb:big=16777216:=rfl;have hd1:(cs.take c).length≤7:=by rw[Br];omega
    have hd2:(cs.drop c).length≤7:=by rw[Fv];omega
    rw[V7,Ra];refine⟨_,rfl,⟨by simp only[Yzk,Az];omega,⟨by simp only[Yzj,Yzk,Az];omega,?_⟩⟩⟩;refine⟨by simp only[Yzi,Fg];omega,?_⟩;simp only[Yze,Yzf];rw[execs];refine⟨.val (.int pre.length),.val (.str [97+((a+leap*(pre.length:Nat)) % 26).toNat]),?_⟩;rw[Yzj,Yzk,Az,List.range_succ,Gg,Gg];rfl
   ·intro δ' ⟨s5,s9,e1⟩
    subst e1;dsimp only;rw[execs,exec];simp only[ev,evs,Dy,Yza,Yzb,biW,Qy];refine⟨Ado _,Amz _,?_⟩;rw[Afo];simp only[Jl];rw[Ep,Yzi,Fg];exact q _ (Za hlp hlet (by omega) (by omega) hn)
def ItemOf(names:List Nm)(s:Nm):Prop:=∃n∈names,s=n∨s=45::n
def Ab0(ds:List Dat)(Q:Dat→Prop):Prop:=∃(names:List Nm) (most:Nat),ds=[.pot,tS names,.int most]∧names≠[]∧names.length≤big∧(∀s∈names,s.length≤1000)∧most≤10000∧∀items:List Nm,items.length≤most→(∀s∈items,ItemOf names s)→Q (tS items)
theorem Afn{f f1 f2:Nat}(hpm:PM prim)(hT:T[f]? = some (K9 f2 f1))(hp:prim f=none)(h1:Sp T G prim f1 1 Nu)(h2:Sp T G prim f2 2 An6):Sp T G prim f 3 Ab0:=
 .of_def hT hp λk hk ds Q ⟨names,most,e,hne,hnl,hns,hm,q⟩=>by
  subst e;have hb:big=16777216:=rfl;refine⟨rfl,?_⟩;unfold K9;rw[show Bp 5 [.pot,tS names,.int most]=[.val .pot,.val (tS names),.val (.int most),.no,.no]from rfl];rw[execs,exec];simp only[ev,evs];refine⟨rfl,?_⟩;simp only[Yze,Yzf];rw[execs,exec];simp only[ev,evs,Du,Yza,Yzb,Dt,Bx,Yzc,Yzd,Jm];refine h1 k (by omega) _ _ ⟨⟨by omega,Aq1 (by omega) (by omega)⟩,λr hr0 hr1=>?_⟩;obtain⟨n,rfl⟩:=Gp hr0;simp only[Gz];refine⟨⟨by omega,by omega⟩,_,rfl,?_⟩;rw[Mx];refine O8 (λδ D D' h=>execs_mono (Dj hpm k) _ δ D D' h) (λpre δ=>∃(s4:Slot) (items:List Nm),δ=[.val .pot,.val (tS names),.val (.int most),.own (.lst (items.map Dat.str)),s4]∧items.length=pre.length∧∀s∈items,ItemOf names s) _ [] _ ⟨_,[],rfl,rfl,λs h=>nomatch h⟩ ?_ ?_
  ·intro pre d post δ' e ⟨s4,items,e1,e2,e3⟩
   subst e1;obtain⟨rfl,lt⟩:=Xj e;rw[Cz];simp only[Yze,Yzf];rw[execs,exec];simp only[ev,evs,Du,Dy,Yza,Yzb,Dt,Bx,Yzc,Yzd];refine⟨_,rfl,?_⟩;refine h2 k (by omega) _ _ ⟨_,_,rfl,rfl,by simp,by decide,λd hd=>?_⟩;have hsg:∃sg:Nm,d = .str sg∧(sg=[]∨sg=[45]):=by
    simp only[Ad,Yzm,or_false]at hd
    rcases hd with rfl|rfl|rfl
    ·exact⟨[],rfl,.inl rfl⟩
    ·exact⟨[],rfl,.inl rfl⟩
    ·exact⟨[45],rfl,.inr rfl⟩
   obtain⟨sg,rfl,hsg⟩:=hsg;refine h2 k (by omega) _ _ ⟨_,_,rfl,rfl,by simpa using hne,by simpa using hnl,λd hd=>?_⟩;obtain⟨nm,hnm,rfl⟩:=Ac.mp hd;have:=hns nm hnm;simp only[Jm];refine⟨by rcases hsg with rfl|rfl<;>simp only[Az,Yzk]<;>omega,?_⟩;refine⟨by rw[Yzi];omega,?_⟩;simp only[Yze,Yzf];rw[execs];refine⟨_,items++[sg++nm],by rw[Gg];rfl,by simp[e2],λs hs=>?_⟩
   rcases Bl.mp hs with h|h
   ·exact e3 s h
   ·simp only[Ad,Yzm,or_false]at h
    subst h;exact⟨nm,hnm,by rcases hsg with rfl|rfl<;>simp⟩
  ·intro δ' ⟨s4,items,e1,e2,e3⟩
   subst e1;dsimp only;rw[execs,exec];simp only[ev,evs,Dy,Yza,Yzb,biW,Jl];exact q items (by rw[e2];simp;omega) e3
end
end SF
namespace SF
open PySem L2
theorem NameOk.ne45{n:Nm}(h:NameOk n):∀c∈n,c≠45:=λc hc e=>by have:=h.let_ c hc;omega
theorem Sq{n:Nm}(h:NameOk n):Um n=false:=by
 cases n with
 | nil=>rfl
 | cons c r=>
  have:=h.ne45 c (by simp);unfold Um;simp[this]
theorem Qg(n:Nm):Um (45::n)=true:=by unfold Um;simp
theorem Adm{n:Nm}(h:NameOk n):Fw n=n:=by unfold Fw;rw[Sq h];rfl
theorem Abo(n:Nm):Fw (45::n)=n:=by unfold Fw;rw[Qg];rfl
theorem Ags{n:Nm}(h:NameOk n):X4 n=45::n:=by unfold X4;rw[Sq h];rfl
theorem Adj(n:Nm):X4 (45::n)=n:=by unfold X4;rw[Qg];rfl
def Tw(s:Nm):Nm:=s.flatMap λc=>if c=45 then []else [c]
theorem U7:∀{n:Nm},(∀c∈n,c≠45)→Tw n=n
 | [],_=>rfl
 | c::r,h=>by
  have h1:=h c (by simp);have h2:=U7 (n:=r) λd hd=>h d (by simp[hd])
  unfold Tw at *;rw[Gi,if_neg h1,h2];rfl
theorem U8{n:Nm}(h:NameOk n):Tw n=n:=U7 h.ne45
theorem Aab{n:Nm}(h:NameOk n):Tw (45::n)=n:=by
 have:=U8 h;unfold Tw at *;rw[Gi,if_pos rfl,this];rfl
theorem ItemOf.cases{names:List Nm}(hn:∀n∈names,NameOk n){s:Nm}(h:ItemOf names s):∃n∈names,NameOk n∧Fw s=n∧Tw s=n∧s.length≤9∧((s=n∧Um s=false∧X4 s=45::n)∨(s=45::n∧Um s=true∧X4 s=n)):=by
 obtain⟨n,hm,rfl|rfl⟩:=h
 ·have ok:=hn s hm
  exact⟨s,hm,ok,Adm ok,U8 ok,by have:=ok.hi;omega,.inl ⟨rfl,Sq ok,Ags ok⟩⟩
 ·have ok:=hn n hm
  exact⟨n,hm,ok,Abo n,Aab ok,by have:=ok.hi;simp;omega,.inr ⟨rfl,Qg n,Adj n⟩⟩
theorem ItemOf.col{names:List Nm}(hn:∀n∈names,NameOk n){s:Nm}(h:ItemOf names s):Fw s∈names:=by
 obtain⟨n,hm,_,e,_⟩:=h.cases hn;rw[e];exact hm
theorem ItemOf.ne{names:List Nm}(hn:∀n∈names,NameOk n){s:Nm}(h:ItemOf names s):(Tw s == s) = !Um s:=by
 obtain⟨n,hm,ok,e,e0,_,⟨e1,e2,e3⟩|⟨e1,e2,e3⟩⟩:=h.cases hn
 ·rw[e0,e2,e1];simp
 ·rw[e0,e2,e1]
  have:n≠45::n:=λz=>by have:=congrArg Dh z;simp at this
  simp[this]
theorem Alr{n w:Nat}{s:Nm}(h:∀c∈s,c < 128)(hw:10*s.length+2≤w):rpd n w (.str s):=by cases n<;>exact⟨h,hw⟩
theorem Yz{n w v:Nat}{l:List Nm}(h:∀s∈l,(∀c∈s,c < 128)∧10*s.length+2≤v)(hw:l.length*(v+2)+3≤w):rpd (n+1) w (tS l):=
 ⟨v,λx hx=>by
  obtain⟨i,hi,rfl⟩:=Ac.mp hx;exact Alr (h i hi).1 (h i hi).2,by rw[Yzi];exact hw⟩
def Ae6(ds:List Dat)(Q:Dat→Prop):Prop:=ds=[.pot]∧Q (.bl true)
theorem Agp{T:List FDef}{G:Nat→Option Dat}{prim:Nat→Option (List Dat→(Dat→Prop)→Prop)}{c:Int}{fr fp cr k:Nat}(hc0:1≤c)(hc:c≤1000)(hp:Sp T G prim fp 1 Aas)(hr:Sp T G prim fr cr Ae6)(hk:cr≤k)(hk1:1≤k)(ns:List Int) :
  execs (Bg T G prim k) G [.ret (.bi .all [.comp [1] (.v 1) (.range (.bi .max [.int 1,.bi .min [.int c,.bi .len [.var 0]]])) (.bl true) (.call fr [.call fp [.var 0,.var 1] [] [.p 0,.p 1]] [] [.p 0])])] (Bp 2 [.scr ns]) { nx:=λ_=>False,rt:=λ_ d=>d = .bl true }:=by
 rw[show Bp 2 [.scr ns]=[.val (.scr ns),.no]from rfl];rw[execs,exec];simp only[ev,evs,Du,Yza,Yzb,biW,Rz,Ac8,Ada,Gz];have hb:big=16777216:=rfl;refine⟨⟨by omega,by omega⟩,_,rfl,?_⟩;refine Ajo (λ_=>.bl true) _ _ (λx hx Q' hQ'=>?_) ?_
 ·obtain⟨i,hi,rfl⟩:=Ac.mp hx
  have hi:=Qp.mp hi;rw[Cz];simp only[Bb,Yze,Yzf,Bs,if_true,ev,evs,Du,Yza,Yzb,Dt,Bx,Yzc,Yzd];refine hp k hk1 _ _ ⟨⟨by omega,by omega⟩,?_⟩;exact hr k hk _ _ ⟨rfl,hQ'⟩
 ·simp only[Zu]
  generalize (Dz (max 1 (min c ↑ns.length)).toNat)=l;refine⟨l.map λ_=>true,by rw[Dk,Dk];rfl,?_⟩;rw[show(l.map λ_=>true).all id=true by simp]
end SF
namespace SF
open PySem L2
theorem X3{β:Type}{p:P}{b:Env→Post→Prop}(hb:∀ δ D D',D.Le D'→b δ D→b δ D'){D:Post}(g:β→Dat)(l:List β)(I:List β→List β→Env→Prop)(δ:Env)(h0:I [] l δ)
  (hs:∀done a rest δ',l=done++a::rest→I done (a::rest) δ'→Cz p (g a) δ' λδ2=>b δ2 { nx:=I (done++[a]) rest,ct:=I (done++[a]) rest,bk:=D.nx,rt:=D.rt,ex:=D.ex }) (he:∀ δ',I l [] δ'→D.nx δ'):G5 p b (l.map g) δ D:=by
 have key:∀(rest done:List β) (δ:Env),l=done++rest→I done rest δ→G5 p b (rest.map g) δ D:=by
  intro rest
  induction rest with
  | nil=>
   intro done δ e h;rw[Bu]at e;subst e;rw[Cy,G5];exact he δ h
  | cons a rest ih=>
   intro done δ e h;rw[Yzs,G5];have nxt:∀ δ'',I (done++[a]) rest δ''→G5 p b (rest.map g) δ'' D:=λδ'' h1=>ih (done++[a]) δ'' (by rw[e,Cm];rfl) h1
   exact Eu p (g a) δ _ _ (λδ2=>hb δ2 { nx:=I (done++[a]) rest,ct:=I (done++[a]) rest,bk:=D.nx,rt:=D.rt,ex:=D.ex } _ ⟨nxt,λ_ _ z=>z,λ_ z=>z,nxt,λ_ _ z=>z⟩) (hs done a rest δ e h)
 exact key l [] δ rfl h0
theorem Ks{α β:Type}{f:α→(Option Dat→Prop)→Prop}(g:β→α)(h:β→Option Dat):∀(l:List β) (Q:List Dat→Prop),(∀a∈l,∀Q':Option Dat→Prop,Q' (h a)→f (g a) Q')→Q (l.filterMap h)→Ff f (l.map g) Q
 | [],Q,hf,q=>by rw[Cy,Ff];exact q
 | x::xs,Q,hf,q=>by
  rw[Yzs,Ff];refine hf x (by simp) _ (Ks g h xs _ (λz hz=>hf z (by simp[hz])) ?_);rw[Hq]at q
  cases e:h x with
  | none=>rw[e]at q;exact q
  | some y=>rw[e]at q;exact q
abbrev Rl:=List Nm×List Nm
def dR(r:Rl):Dat:=.tup [tS r.1,tS r.2]
def tR(rs:List Rl):Dat:=.tup (rs.map dR)
def Sg(sg:List Int):Prop:=∀x∈sg,x = -1∨x=0∨x=1
theorem Sg.getD{sg:List Int}(h:Sg sg)(n:Nat):sg.getD n 0 = -1∨sg.getD n 0=0∨sg.getD n 0=1:=by
 by_cases lt:n < sg.length
 ·rw[Zw,Ab lt]
  exact h _ (Np _)
 ·rw[Zw,Bq (by omega)]
  exact .inr (.inl rfl)
def LOk(names:List Nm)(l:List Nm):Prop:=∀s∈l,Fw s∈names
def ROk(names:List Nm)(r:Rl):Prop:=LOk names r.1∧LOk names r.2
end SF
namespace SF
open PySem L2
theorem ib(a b:Int):(a == b)=(b == a):=by
 by_cases h:a=b
 ·subst h;rfl
 ·rw[beq_eq_false_iff_ne.mpr h,beq_eq_false_iff_ne.mpr (λe=>h e.symm)]
theorem Ua{n:Nm}(h:NameOk n):n.dropWhile (λc=>([45]:List Nat).contains c)=n:=by
 cases n with
 | nil=>rfl
 | cons c r=>
  have:=h.ne45 c (by simp);rw[Kl,if_neg (by simp[this])]
theorem ItemOf.lstrip{names:List Nm}(hn:∀n∈names,NameOk n){s:Nm}(h:ItemOf names s):s.dropWhile (λc=>([45]:List Nat).contains c)=Fw s:=by
 obtain⟨n,hm,ok,e,e0,_,⟨e1,e2,e3⟩|⟨e1,e2,e3⟩⟩:=h.cases hn
 ·rw[e,e1];exact Ua ok
 ·rw[e,e1,Kl,if_pos (by simp)];exact Ua ok
theorem ItemOf.head{names:List Nm}(hn:∀n∈names,NameOk n){s:Nm}(h:ItemOf names s):∃c r,s=c::r∧(c == 45)=Um s:=by
 obtain⟨n,hm,ok,e,e0,_,⟨e1,e2,e3⟩|⟨e1,e2,e3⟩⟩:=h.cases hn
 ·cases n with
  | nil=>have:=ok.lo;simp at this
  | cons c r=>exact⟨c,r,e1,by rw[e2];have:=ok.ne45 c (by simp);simpa using this⟩
 ·exact⟨45,n,e1,by rw[e2];rfl⟩
def IOk(names:List Nm)(l:List Nm):Prop:=∀s∈l,ItemOf names s
def RIOk(names:List Nm)(r:Rl):Prop:=IOk names r.1∧IOk names r.2
theorem IOk.l{names l:List Nm}(hn:∀n∈names,NameOk n)(h:IOk names l):LOk names l:=λs hs=>(h s hs).col hn
theorem RIOk.l{names:List Nm}{r:Rl}(hn:∀n∈names,NameOk n)(h:RIOk names r):ROk names r:=⟨h.1.l hn,h.2.l hn⟩
end SF
namespace SF
open PySem L2
theorem Vq{n:Nat}:∀{l:List Dat},okrs n l ↔ ∀x∈l,okr n x
 | []=>by simp[okrs]
 | x::r=>by rw[okrs,Vq (l:=r)];simp
theorem okr_tup{n:Nat}{l:List Dat}:okr (n+1) (.tup l) ↔ ∀x∈l,okr n x:=by rw[okr,Vq]
theorem okr_lst{n:Nat}{l:List Dat}:okr (n+1) (.lst l) ↔ ∀x∈l,okr n x:=by rw[okr,Vq]
theorem okr_str{n:Nat}{s:Nm}:okr n (.str s) ↔ ∀c∈s,c < 128:=by cases n<;>simp only[okr]
theorem okr_int{n:Nat}{i:Int}:okr n (.int i) ↔ i.natAbs < 2 ^ 1900:=by cases n<;>simp only[okr]
theorem Aqs{n:Nat}{b:Bool}:okr n (.bl b):=by cases n<;>simp only[okr]
theorem Amx{n:Nat}:okr n .non:=by cases n<;>simp only[okr]
mutual
theorem Ln:∀(d:Dat) (n m:Nat),n≤m→okr n d→okr m d
 | .non,_,_,_,_=>Amx
 | .bl _,_,_,_,_=>Aqs
 | .int _,_,_,_,h=>okr_int.mpr (okr_int.mp h)
 | .str _,_,_,_,h=>okr_str.mpr (okr_str.mp h)
 | .tup l,0,_,_,h=>by simp[okr]at h
 | .tup l,n+1,0,le,_=>by omega
 | .tup l,n+1,m+1,le,h=>by rw[okr]at h ⊢;exact okrs_mono l n m (by omega) h
 | .lst l,0,_,_,h=>by simp[okr]at h
 | .lst l,n+1,0,le,_=>by omega
 | .lst l,n+1,m+1,le,h=>by rw[okr]at h ⊢;exact okrs_mono l n m (by omega) h
 | .dic l,0,_,_,h=>by simp[okr]at h
 | .dic l,n+1,0,le,_=>by omega
 | .dic l,n+1,m+1,le,h=>by rw[okr]at h ⊢;exact okrKv_mono l n m (by omega) h
 | .obj _ _,n,_,_,h=>by cases n<;>simp[okr]at h
 | .pot,n,_,_,h=>by cases n<;>simp[okr]at h
 | .scr _,n,_,_,h=>by cases n<;>simp[okr]at h
theorem okrs_mono:∀(l:List Dat) (n m:Nat),n≤m→okrs n l→okrs m l
 | [],_,_,_,_=>by simp[okrs]
 | x::r,n,m,le,h=>by rw[okrs]at h ⊢;exact⟨Ln x n m le h.1,okrs_mono r n m le h.2⟩
theorem okrKv_mono:∀(l:List (Dat×Dat)) (n m:Nat),n≤m→okrKv n l→okrKv m l
 | [],_,_,_,_=>by simp[okrKv]
 | (k,v)::r,n,m,le,h=>by rw[okrKv]at h ⊢;exact⟨Ln k n m le h.1,Ln v n m le h.2.1,okrKv_mono r n m le h.2.2⟩
end
theorem Mh{n:Nat}{d:Dat}(h:okr n d):Gv d=true:=by
 cases d<;>first|rfl|(cases n<;>simp[okr]at h)
theorem Yo{w:Nat}:∀{l:List Dat},(∀x∈l,szD x≤w)→szDs l≤l.length*(w+2)
 | [],_=>by simp[szDs]
 | x::l,h=>by
  have h1:=h x (by simp);have h2:=Yo (l:=l) λy hy=>h y (by simp[hy])
  rw[szDs,Yzk,Ay];omega
theorem Ahw(l:List Dat):szD (.tup l)=szDs l+3:=by rw[szD]
theorem Aox(l:List Dat):szD (.lst l)=szDs l+2:=by rw[szD]
theorem Ahx(s:Nm):szD (.str s)=10*s.length+2:=by rw[szD]
theorem Aoy{i:Int}{k:Nat}(hk:0 < k)(h:i.natAbs < 10 ^ k):szD (.int i)≤k+1:=by rw[szD];exact int_text_length_le10 hk h
structure AnyD(n w:Nat)(d:Dat):Prop where
 ok:okr n d
 sz:szD d≤w
theorem AnyD.mono{n m w v:Nat}{d:Dat}(h:AnyD n w d)(hn:n≤m)(hw:w≤v):AnyD m v d:=⟨Ln d n m hn h.ok,Bo h.sz hw⟩
def SrcD:Nat→Dat→Prop
 | n+1,.tup l=>∀x∈l,SrcD n x
 | _,.str s=>∀c∈s,c < 128
 | _,.int i=>i.natAbs < 10 ^ 45
 | _,_=>False
theorem SrcD.cases{n:Nat}{d:Dat}(h:SrcD n d):(∃m l,n=m+1∧d = .tup l∧∀x∈l,SrcD m x)∨(∃s,d = .str s∧∀c∈s,c < 128)∨∃i,d = .int i∧i.natAbs < 10 ^ 45:=by
 cases d<;>cases n<;>simp only[SrcD]at h<;>first
  | exact .inl ⟨_,_,rfl,rfl,h⟩
  | exact .inr (.inl ⟨_,rfl,h⟩)
  | exact .inr (.inr ⟨_,rfl,h⟩)
theorem SrcD.okr:∀{n:Nat} {d:Dat},SrcD n d→SF.okr n d:=by
 intro n
 induction n with
 | zero=>
  intro d h
  rcases h.cases with⟨m,l,e,_,_⟩|⟨s,rfl,q⟩|⟨i,rfl,q⟩
  ·omega
  ·exact okr_str.mpr q
  ·exact okr_int.mpr (Ax q (by decide +kernel))
 | succ n ih=>
  intro d h
  rcases h.cases with⟨m,l,e,rfl,q⟩|⟨s,rfl,q⟩|⟨i,rfl,q⟩
  ·cases e;exact okr_tup.mpr λx hx=>ih (q x hx)
  ·exact okr_str.mpr q
  ·exact okr_int.mpr (Ax q (by decide +kernel))
section
variable{T:List FDef}{G:Nat→Option Dat}{prim:Nat→Option (List Dat→(Dat→Prop)→Prop)}
theorem AnyD.tup{n w:Nat}{l:List Dat}(h:∀x∈l,okr n x)(hw:szDs l+3≤w):AnyD (n+1) w (.tup l):=⟨okr_tup.mpr h,by rw[Ahw];exact hw⟩
theorem AnyD.lst{n w:Nat}{l:List Dat}(h:∀x∈l,okr n x)(hw:szDs l+2≤w):AnyD (n+1) w (.lst l):=⟨okr_lst.mpr h,by rw[Aox];exact hw⟩
theorem AnyD.str{n w:Nat}{s:Nm}(h:∀c∈s,c < 128)(hw:10*s.length+2≤w):AnyD n w (.str s):=⟨okr_str.mpr h,by rw[Ahx];exact hw⟩
theorem AnyD.int{n w:Nat}{i:Int}(h:i.natAbs < 10 ^ 50)(hw:51≤w):AnyD n w (.int i):=⟨okr_int.mpr (Ax h (by decide +kernel)),Bo (Aoy (k:=50) (by decide) h) hw⟩
end
theorem IOk.append{names a b:List Nm}(ha:IOk names a)(hb:IOk names b):IOk names (a++b):=λs hs=>by
 rcases Bl.mp hs with h|h
 ·exact ha s h
 ·exact hb s h
theorem IOk.take{names a:List Nm}(ha:IOk names a)(n:Nat):IOk names (a.take n):=λs hs=>ha s (Ef hs)
theorem IOk.rp{names l:List Nm}(hn:∀n∈names,NameOk n)(h:IOk names l){m n:Nat}(hl:l.length*94+3≤m):rpd (n+1) m (tS l):=Yz (v:=92) (λs hs=>by
 obtain⟨nm,hm,ok,_,_,h9,hc⟩:=(h s hs).cases hn;refine⟨λc hcs=>?_,by omega⟩
 rcases hc with⟨e,_⟩|⟨e,_⟩
 ·rw[e]at hcs;have:=ok.let_ c hcs;omega
 ·rw[e]at hcs
  rcases Ad.mp hcs with q|q
  ·omega
  ·have:=ok.let_ c q;omega) hl
theorem Ajj{names:List Nm}(hn:∀n∈names,NameOk n){m n:Nat}(hl:names.length*94+3≤m):rpd (n+1) m (tS names):=Yz (v:=92) (λs hs=>⟨λc hc=>by have:=(hn s hs).let_ c hc;omega,by have:=(hn s hs).hi;omega⟩) hl
theorem Alq{names:List Nm}(hn:∀n∈names,NameOk n){r:Rl}(h:RIOk names r)(h1:r.1.length≤8)(h2:r.2.length≤8){n:Nat}:rpd (n+2) 1600 (dR r):=
 ⟨760,λx hx=>by
  simp only[Ad,Yzm,or_false]at hx
  rcases hx with rfl|rfl
  ·exact h.1.rp hn (by omega)
  ·exact h.2.rp hn (by omega),by simp⟩
theorem Aii{names:List Nm}(hn:∀n∈names,NameOk n){rs:List Rl}(h:∀r∈rs,RIOk names r∧r.1.length≤8∧r.2.length≤8){m n:Nat}(hl:rs.length*1602+3≤m):rpd (n+3) m (tR rs):=
 ⟨1600,λx hx=>by
  obtain⟨r,hr,rfl⟩:=Ac.mp hx;exact Alq hn (h r hr).1 (h r hr).2.1 (h r hr).2.2,by rw[Yzi];exact hl⟩
structure AskOk(most:Nat)(names:List Nm)(rules:List Rl)(base goal:List Nm):Prop where
 n1:1≤names.length
 n2:names.length≤most
 nk:∀n∈names,NameOk n
 asc:Asc names
 rl:rules.length≤5
 rk:∀r∈rules,RIOk names r∧r.1.length≤8∧r.2.length≤8
 bk:IOk names base
 bl:base.length≤8
 gk:IOk names goal
 gl:goal.length≤8
def Atl(names:List Nm)(rules:List Rl)(base goal:List Nm):Dat:=.tup [tS names,tR rules,tS base,tS goal]
theorem AskOk.rp{most:Nat}{names:List Nm}{rules:List Rl}{base goal:List Nm}(h:AskOk most names rules base goal)(hm:most≤8):rpd 60 big (Atl names rules base goal):=by
 have hb:big=16777216:=rfl;have h1:=h.n2;have h2:=h.rl;have h3:=h.bl;have h4:=h.gl;refine⟨10000,λx hx=>?_,by simp[hb]⟩;simp only[Ad,Yzm,or_false]at hx
 rcases hx with rfl|rfl|rfl|rfl
 ·exact Ajj h.nk (by omega)
 ·exact Aii h.nk h.rk (by omega)
 ·exact h.bk.rp h.nk (by omega)
 ·exact h.gk.rp h.nk (by omega)
inductive Pt where
 | fix (ctx:List Nm) (c:Nm)
 | tog (ctx:List Nm) (x y:Nm)
def Af1:Nm:=[102,105,120,101,100]
def Af0:Nm:=[116,111,103,101,116,104,101,114]
def Pt.ctx:Pt→List Nm
 | .fix ctx _=>ctx
 | .tog ctx _ _=>ctx
section
variable{T:List FDef}{G:Nat→Option Dat}{prim:Nat→Option (List Dat→(Dat→Prop)→Prop)}
theorem Arj(i j:Int):eqD (.int i) (.int j)=decide (i=j):=by
 rw[eqD];by_cases h:i=j
 ·subst h;simp
 ·rw[beq_eq_false_iff_ne.mpr h,decide_eq_false h]
theorem K7(a b:Nm):eqD (.str a) (.str b)=decide (a=b):=by
 rw[eqD];by_cases h:a=b
 ·subst h;simp
 ·rw[beq_eq_false_iff_ne.mpr h,decide_eq_false h]
end
end SF
namespace SF
open PySem L2
def Uj:Dat→Bool
 | .str _=>true
 | _=>false
def Yn:Dat→Bool
 | .tup _=>true
 | _=>false
def Adn(l:List Dat):Bool:=(l.zip (l.drop 1)).all λq=>ltD q.1 q.2
def Pk(names:List Nm):Dat→Bool
 | .str s=>decide (Fw s∈names)
 | _=>false
def Ae5(names:List Nm):Dat→Bool
 | .tup l=>l.all (Pk names)
 | _=>false
def Ub(names:List Nm):Dat→Bool
 | .tup l=>l.all (Pk names) && decide (l.length≤8)
 | _=>false
theorem Uy(x:Dat):Q7 x .str=Uj x:=by cases x<;>rfl
theorem Zg(x:Dat):Q7 x .tuple=Yn x:=by cases x<;>rfl
theorem U9(x:Dat):(∃s,x = .str s)∨Uj x=false:=by cases x<;>first|exact .inl ⟨_,rfl⟩|exact .inr rfl
theorem Ym(x:Dat):(∃l,x = .tup l)∨Yn x=false:=by cases x<;>first|exact .inl ⟨_,rfl⟩|exact .inr rfl
theorem Aj0{names:List Nm}{x:Dat}(h:Uj x=false):Pk names x=false:=by cases x<;>first|rfl|cases h
theorem Abw{names:List Nm}{x:Dat}(h:Yn x=false):Ae5 names x=false:=by cases x<;>first|rfl|cases h
theorem Ajs{names:List Nm}{x:Dat}(h:Yn x=false):Ub names x=false:=by cases x<;>first|rfl|cases h
theorem Y6{n:Nat}{l:List Dat}(h:okr n (.tup l)):∀x∈l,okr n x:=by
 cases n with
 | zero=>simp[okr]at h
 | succ n=>exact λx hx=>Ln x n _ (by omega) (okr_tup.mp h x hx)
theorem Ar1:∀l r:List Dat,Gr (λp q=>Dat.tup [p,q]) l r=(l.zip r).map λq=>Dat.tup [q.1,q.2]
 | [],_=>by simp
 | _::_,[]=>by simp
 | a::l,b::r=>by simp[Ar1 l r]
theorem Qa{α β:Type}{f:α→(Option Dat→Prop)→Prop}(g:β→α)(B:β→Bool)(l:List β)(Q:Dat→Prop)(hf:∀a∈l,∀Q':Option Dat→Prop,Q' (some (.bl (B a)))→f (g a) Q')(q:Q (.bl (l.all B))):Ff f (l.map g) (λys=>Zu [.lst ys] Q):=by
 refine Ks g (λa=>some (.bl (B a))) l _ hf ?_;rw[Em];refine⟨l.map B,by rw[Dk];rfl,?_⟩;rw[List.all_map];exact q
theorem Abu:∀ns:List Nm,Adn (ns.map .str)=true ↔ Asc ns
 | []=>by simp[Adn,Asc]
 | [a]=>by simp[Adn,Asc]
 | a::b::r=>by
  have ih:=Abu (b::r);have e:Adn ((a::b::r).map .str)=(ltS a b && Adn ((b::r).map .str)):=by
   unfold Adn;simp only[Yzs,Ri,Zx,Ed,Eb,ltD]
  rw[e,Yzh,ih];unfold Asc;constructor
  ·rintro⟨h1,h2⟩
   refine Tn.mpr ⟨λc hc=>?_,h2⟩
   rcases Ad.mp hc with rfl|q
   ·exact h1
   ·exact O6 a b c h1 ((Tn.mp h2).1 c q)
  ·intro h
   have:=Tn.mp h;exact⟨this.1 b (by simp),this.2⟩
section
variable{T:List FDef}{G:Nat→Option Dat}{prim:Nat→Option (List Dat→(Dat→Prop)→Prop)}
def W_2(B:List Nm→Dat→Bool)(ds:List Dat)(Q:Dat→Prop):Prop:=∃names x n,ds=[tS names,x]∧okr n x∧Q (.bl (B names x))
theorem Aad{f f1:Nat}(hT:T[f]? = some (Gk f1))(hp:prim f=none)(h1:Sp T G prim f1 2 Kv):Sp T G prim f 3 (W_2 Ae5):=
 .of_def hT hp λk hk ds Q ⟨names,x,n,e,hx,q⟩=>by
  subst e;refine⟨rfl,?_⟩;have ok:=Mh hx;unfold Gk;rw[show Bp 3 [tS names,x]=[.val (tS names),.val x,.no]from rfl];rw[execs,exec];simp only[ev,Du,Yza,Yzb,ok,true_and,Bs,Zg]
  rcases Ym x with⟨l,rfl⟩|e
  ·have hm:=Y6 hx
   simp only[Yn,Cq,Yzg,if_false];rw[execs];dsimp only;rw[execs,exec];simp only[ev,evs,Du,Yza,Yzb,biW,Di];refine⟨l,rfl,?_⟩;rw[show l=l.map id from(Wn l).symm];refine Qa id (Pk names) l _ (λc hc Q' q'=>?_) q;rw[Cz];have okc:=Mh (hm c hc);simp only[id,Bb,Yze,Yzf,Bs,if_true,ev,evs,Du,Yza,Yzb,okc,true_and,Uy,Dt,Bx,Yzc]
   rcases U9 c with⟨s,rfl⟩|e
   ·simp only[Uj,if_true]
    refine h1 k (by omega) _ _ ⟨s,rfl,?_⟩;simp only[tS,Ij,inW,okd,true_and];refine⟨Vr,?_⟩;have e:((names.map Dat.str).any λz=>eqD z (.str (Fw s)))=decide (Fw s∈names):=by
     rw[List.any_map];simp only[Function.comp_def,K7];rw[Bool.eq_iff_iff];simp
    rw[e];exact q'
   ·simp only[e,Yzg,if_false]
    rw[← Aj0 (names:=names) e];exact q'
  ·simp only[e,Fx,if_true]
   rw[execs,exec];simp only[ev];rw[← Abw (names:=names) e];exact q
theorem Acm{f f1 gm:Nat}(hT:T[f]? = some (Tf f1 gm))(hp:prim f=none)(hgm:G gm=some (.int 8))(h1:Sp T G prim f1 3 (W_2 Ae5)):Sp T G prim f 4 (W_2 Ub):=
 .of_def hT hp λk hk ds Q ⟨names,x,n,e,hx,q⟩=>by
  subst e;refine⟨rfl,?_⟩;unfold Tf;rw[show Bp 2 [tS names,x]=[.val (tS names),.val x]from rfl];rw[execs,exec];simp only[ev,evs,Du,Yza,Yzb,Dt,Bx,Yzc,Yzd];refine h1 k (by omega) _ _ ⟨names,x,n,rfl,hx,?_⟩;simp only[Bs]
  rcases Ym x with⟨l,rfl⟩|e
  ·cases h:Ae5 names (.tup l)with
   | false=>
    simp only[Yzg,if_false];have e:Ub names (.tup l)=false:=by
     rw[Ub];have h:l.all (Pk names)=false:=h;rw[h,Fd]
    rw[← e];exact q
   | true=>
    simp only[if_true,biW,Rz,hgm,Ij,M9,Uc,Av,okd,true_and,ltD];have e:Ub names (.tup l) = !decide ((8:Int) < l.length):=by
     rw[Ub];have h:l.all (Pk names)=true:=h;rw[h,Hu];by_cases h8:l.length≤8
     ·rw[decide_eq_true h8,decide_eq_false (by omega)];rfl
     ·rw[decide_eq_false h8,decide_eq_true (by omega)];rfl
    rw[← e];exact q
  ·rw[Abw e]
   simp only[Yzg,if_false];rw[← Ajs (names:=names) e];exact q
end
end SF
namespace SF
open PySem L2
section
variable{T:List FDef}{G:Nat→Option Dat}{prim:Nat→Option (List Dat→(Dat→Prop)→Prop)}
theorem Abb(names:List Nm)(s:Nm):((names.map Dat.str).any λz=>eqD z (.str s))=decide (s∈names):=by
 rw[List.any_map];simp only[Function.comp_def,K7];rw[Bool.eq_iff_iff];simp
theorem Ao0{l:List Nm}(h:∀s∈l,∀c∈s,c < 128):SrcD 1 (tS l):=by
 intro x hx;obtain⟨s,hs,rfl⟩:=Ac.mp hx;exact h s hs
theorem Ar2{l:List Nm}{w:Nat}(h:∀s∈l,s.length≤w):szD (tS l)≤l.length*(10*w+4)+3:=by
 unfold tS;rw[Ahw];have:=Yo (l:=l.map Dat.str) (w:=10*w+2) λx hx=>by
  obtain⟨s,hs,rfl⟩:=Ac.mp hx;have:=h s hs;rw[Ahx];omega
 rw[Yzi,show 10*w+2+2=10*w+4 from rfl]at this;omega
theorem NameOk.asc{n:Nm}(h:NameOk n):∀c∈n,c < 128:=λc hc=>by have:=h.let_ c hc;omega
theorem ItemOf.asc{names:List Nm}(hn:∀n∈names,NameOk n){s:Nm}(h:ItemOf names s):∀c∈s,c < 128:=by
 obtain⟨n,hm,rfl|rfl⟩:=h
 ·exact(hn _ hm).asc
 ·intro c hc
  rcases Ad.mp hc with rfl|q
  ·decide
  ·exact(hn n hm).asc c q
structure Gd9(l:List Nm):Prop where
 asc:∀s∈l,∀c∈s,c < 128
 le:∀s∈l,s.length≤10
 few:l.length≤10
theorem Gd9.sz{l:List Nm}(h:Gd9 l):szD (tS l)≤1100:=by
 have a:=Ar2 (w:=10) h.le;have b:=h.few;omega
theorem Gd9.src{l:List Nm}(h:Gd9 l):SrcD 1 (tS l):=Ao0 h.asc
theorem Gd9.any{l:List Nm}(h:Gd9 l):AnyD 45 10000 (tS l):=⟨Ln _ 1 _ (by decide) h.src.okr,Bo h.sz (by decide)⟩
end
end SF
namespace SF
open PySem L2
theorem Aj8(a b:Nat):eqD (.int (a:Int)) (.int (b:Int))=decide (a=b):=by
 rw[Arj];exact decide_eq_decide.mpr ⟨λh=>by omega,λh=>by omega⟩
end SF
namespace SF
open PySem L2
theorem AnyD.two{n w wa wb:Nat}{a b:Dat}(ha:AnyD n wa a)(hb:AnyD n wb b)(h:wa+wb+7≤w):AnyD (n+1) w (.tup [a,b]):=
 .tup (λx hx=>by simp only[Ad,Yzm,or_false]at hx;exact hx.elim (λe=>e ▸ ha.ok) (λe=>e ▸ hb.ok)) (by have:=ha.sz;have:=hb.sz;simp only[szDs];omega)
theorem AnyD.one{n w wa:Nat}{a:Dat}(ha:AnyD n wa a)(h:wa+5≤w):AnyD (n+1) w (.tup [a]):=
 .tup (λx hx=>by simp only[Ad,Yzm,or_false]at hx;subst hx;exact ha.ok) (by have:=ha.sz;simp only[szDs];omega)
theorem AnyD.rep{n w wa m:Nat}{a:Dat}(ha:AnyD n wa a)(h:m*(wa+2)+3≤w):AnyD (n+1) w (.tup (Bw m a)):=
 .tup (λx hx=>by have:=Ab2 hx;subst this;exact ha.ok) (by
  have:=Yo (l:=Bw m a) (w:=wa) λx hx=>by have:=Ab2 hx;subst this;exact ha.sz
  rw[List.length_replicate]at this
  omega)
theorem AnyD.nil{n w:Nat}(h:3≤w):AnyD (n+1) w (.tup []):=.tup (λx hx=>(nomatch hx)) (by simp only[szDs];omega)
end SF
namespace SF
open PySem L2
def Anl:Nm:=[102,105,120,101,100]
def Ahs:Nm:=[116,111,103,101,116,104,101,114]
def inB(names:List Nm):Dat→Bool
 | .str s=>decide (s∈names)
 | _=>false
def Zk(names:List Nm):Dat→Bool
 | .tup l=>l.all (inB names) && Adn l
 | _=>false
def M6(names:List Nm)(w a:Dat):List Dat→Bool
 | []=>eqD w (.str Anl) && inB names a
 | [b]=>eqD w (.str Ahs) && (Pk names a && Pk names b)
 | _=>false
def Oe(names:List Nm):Dat→Bool
 | .tup (w::c::a::r)=>Uj w && (Zk names c && M6 names w a r)
 | _=>false
theorem Adh{names:List Nm}{x:Dat}(h:Uj x=false):inB names x=false:=by cases x<;>first|rfl|cases h
theorem Ano{names:List Nm}{x:Dat}(h:Yn x=false):Zk names x=false:=by cases x<;>first|rfl|cases h
theorem Af9{names:List Nm}{x:Dat}(h:Yn x=false):Oe names x=false:=by cases x<;>first|rfl|cases h
theorem Aav{names:List Nm}:∀{l:List Dat},l.length < 3→Oe names (.tup l)=false
 | [],_=>rfl
 | [_],_=>rfl
 | [_,_],_=>rfl
 | _::_::_::_,h=>by simp only[Yzk]at h;omega
theorem Aht:∀{l:List Dat},¬ l.length < 3→∃w c a r,l=w::c::a::r
 | [],h=>by simp at h
 | [_],h=>by simp at h
 | [_,_],h=>by simp at h
 | w::c::a::r,_=>⟨w,c,a,r,rfl⟩
theorem Ane{names:List Nm}{l:List Dat}(h:l.all (inB names)=true):∃ns:List Nm,l=ns.map .str∧∀s∈ns,s∈names:=by
 induction l with
 | nil=>exact⟨[],rfl,λs h=>nomatch h⟩
 | cons x l ih=>
  simp only[Eb,Yzh]at h;obtain⟨ns,rfl,hn⟩:=ih h.2
  rcases U9 x with⟨s,rfl⟩|e
  ·have:=h.1
   rw[inB,decide_eq_true_eq]at this;exact⟨s::ns,rfl,λz hz=>(Ad.mp hz).elim (λe=>e ▸ this) (hn z)⟩
  ·rw[Adh e]at h;cases h.1
section
variable{T:List FDef}{G:Nat→Option Dat}{prim:Nat→Option (List Dat→(Dat→Prop)→Prop)}
theorem Wq{f:Nat}(hT:T[f]? = some Mr)(hp:prim f=none):Sp T G prim f 1 (W_2 Zk):=
 .of_def hT hp λk hk ds Q ⟨names,x,n,e,hx,q⟩=>by
  subst e;refine⟨rfl,?_⟩;have ok:=Mh hx;unfold Mr;rw[show Bp 4 [tS names,x]=[.val (tS names),.val x,.no,.no]from rfl];rw[execs,exec];simp only[ev,evs,Du,Yza,Yzb,ok,true_and,Bs,Zg]
  rcases Ym x with⟨l,rfl⟩|e
  ·have hm:=Y6 hx
   simp only[Yn,Cq,Yzg,if_false,biW,Di];refine⟨l,rfl,?_⟩;rw[show Ff _ l _=Ff _ (l.map id) _ from by rw[Wn]];refine Qa id (inB names) l _ (λy hy Q' q'=>?_) ?_
   ·rw[Cz]
    simp only[id,Bb,Yze,Yzf,Bs,if_true,ev,Du,Yza,Yzb,Mh (hm y hy),true_and,Uy]
    rcases U9 y with⟨s,rfl⟩|e
    ·simp only[Uj,if_true,tS,Ij,inW,okd,true_and]
     rw[Abb];rw[inB]at q';exact⟨Vr,q'⟩
    ·simp only[e,Yzg,if_false]
     rw[Adh e]at q';exact q'
   ·simp only[Bs]
    cases hn:l.all (inB names)with
    | false=>
     simp only[Fx,if_true];rw[execs,exec];simp only[ev];rw[Zk,hn,Fd]at q;exact q
    | true=>
     simp only[Cq,Yzg,if_false];rw[execs];dsimp only;rw[execs,exec];simp only[ev,evs,Du,Yza,Yzb,biW,Hg];rw[show cut l (some 1) none=l.drop 1 from Ra l 1];refine⟨_,_,.inr ⟨rfl,.inl rfl⟩,_,rfl,?_⟩;rw[Ar1];obtain⟨ns,rfl,hin⟩:=Ane hn;refine Qa (λq:Dat×Dat=>Dat.tup [q.1,q.2]) (λq=>ltD q.1 q.2) _ _ (λc hc Q' q'=>?_) ?_
     ·rw[Cz,bindPs,Cz,bindPs,Cz,bindPs]
      have m1:=Pa hc;obtain⟨a,ha,e1⟩:=Ac.mp m1.1;obtain⟨b,hb,e2⟩:=Ac.mp (List.mem_of_mem_drop m1.2);obtain⟨c1,c2⟩:=c;simp only at e1 e2
      subst e1 e2;simp only[Bb,Yze,Yzf,Bs,if_true,ev,evs,Du,Yza,Yzb,Ij,M9,Uc,Av,okd,true_and];exact q'
     ·rw[Zk,hn,Hu]at q
      exact q
  ·simp only[e,Fx,if_true]
   rw[execs,exec];simp only[ev];rw[Ano e]at q;exact q
theorem Acl{f fc fl gf gfs gt gts:Nat}(hT:T[f]? = some (Td fc fl gf gfs gt gts))(hp:prim f=none)(h1:G gf=some (.str Anl))(h2:G gfs=some (.int 3))(h3:G gt=some (.str Ahs))(h4:G gts=some (.int 4))(hc:Sp T G prim fc 1 (W_2 Zk))(hl:Sp T G prim fl 4 (W_2 Ub)):Sp T G prim f 5 (W_2 Oe):=
 .of_def hT hp λk hk ds Q ⟨names,x,n,e,hx,q⟩=>by
  subst e;refine⟨rfl,?_⟩;have ok:=Mh hx;unfold Td;rw[show Bp 2 [tS names,x]=[.val (tS names),.val x]from rfl];rw[execs,exec];simp only[ev,evs,Du,Yza,Yzb,ok,true_and,Bs,Zg,h2]
  rcases Ym x with⟨l,rfl⟩|e
  ·have hm:=Y6 hx
   simp only[Yn,Cq,Yzg,if_false,biW,Rz,Ij,M9,Uc,Av,okd,true_and,ltD];by_cases l3:(l.length:Int) < 3
   ·simp only[l3,decide_true,if_true]
    rw[execs,exec];simp only[ev];rw[Aav (by omega)]at q;exact q
   ·simp only[l3,decide_false]
    obtain⟨w,c,a,r,rfl⟩:=Aht (l:=l) (by omega);have okw:=Mh (hm w (by simp));have oka:=Mh (hm a (by simp));have a0:atD (w::c::a::r) 0=some w:=Rf (n:=0) rfl;have a1:atD (w::c::a::r) 1=some c:=Rf (n:=1) rfl;have a2:atD (w::c::a::r) 2=some a:=Rf (n:=2) rfl;rw[Oe]at q;simp only[Yzg,if_false,Jx];refine⟨w,a0,?_⟩;simp only[okw,true_and,Uy]
    rcases U9 w with⟨s,rfl⟩|e
    ·rw [show Uj (.str s)=true from rfl,Hu]at q
     simp only[Uj,Cq,Yzg,if_false];rw[execs];dsimp only;rw[execs,exec];simp only[ev,evs,Du,Yza,Yzb,Jx,Dt,Bx,Yzc,Yzd];refine⟨c,a1,?_⟩;refine hc k (by omega) _ _ ⟨names,c,n,rfl,hm c (by simp),?_⟩;simp only[Bs]
     cases hcx:Zk names c with
     | false=>
      rw[hcx,Fd]at q;simp only[Fx,if_true];rw[execs,exec];simp only[ev];exact q
     | true=>
      rw[hcx,Hu]at q;simp only[Cq,Yzg,if_false];rw[execs];dsimp only;rw[execs,exec];simp only[ev,evs,Du,Yza,Yzb,Jx,h1];refine⟨_,a0,?_⟩;simp only[Ij,okd,true_and,K7,Bs];by_cases hf:s=Anl
      ·rw[decide_eq_true hf]
       simp only[if_true];rw[execs,exec];simp only[ev,evs,Du,Yza,Yzb,h2,biW,Rz,Ij,okd,true_and,Bs];rw[show eqD (.int ((Dat.str s::c::a::r).length:Int)) (.int 3)=decide ((Dat.str s::c::a::r).length=3)from Aj8 _ 3]
       cases r with
       | nil=>
        rw[decide_eq_true (p:=([Dat.str s,c,a].length=3)) rfl];simp only[if_true,Jx];refine⟨a,a2,?_⟩;simp only[oka,true_and,Uy];rw[M6,K7,decide_eq_true hf,Hu]at q
        rcases U9 a with⟨t,rfl⟩|e
        ·simp only[Uj,if_true]
         refine⟨_,a2,?_⟩;simp only[tS,inW,okd,true_and];rw[Abb];rw[inB]at q;exact⟨Vr,q⟩
        ·simp only[e,Yzg,if_false]
         rw[Adh e]at q;exact q
       | cons b r=>
        have rf:M6 names (.str s) a (b::r)=false:=by
         cases r with
         | nil=>rw[M6,K7,decide_eq_false (p:=s=Ahs) (by rw[hf];decide),Fd]
         | cons d r=>rfl
        rw[rf]at q;rw[decide_eq_false (by simp only[Yzk];omega)];simp only[Yzg,if_false];exact q
      ·rw [decide_eq_false hf]
       simp only[Yzg,if_false];rw[execs];dsimp only;rw[execs,exec];simp only[ev,evs,Du,Yza,Yzb,Jx,h3,h4];refine⟨_,a0,?_⟩;simp only[Ij,okd,true_and,K7,Bs];by_cases ht:s=Ahs
       ·rw[decide_eq_true ht]
        simp only[if_true,biW,Rz,okd,true_and];rw[show eqD (.int ((Dat.str s::c::a::r).length:Int)) (.int 4)=decide ((Dat.str s::c::a::r).length=4)from Aj8 _ 4]
        match r,q,hm with
        | [],q,_=>
         rw[M6,K7,decide_eq_false hf,Fd]at q;rw[decide_eq_false (by simp)];simp only[Yzg,if_false];exact q
        | [b],q,hm=>
         rw[M6,K7,decide_eq_true ht,Hu]at q;rw[decide_eq_true (by simp)];simp only[if_true,Hg];rw[show cut [Dat.str s,c,a,b] (some 2) none=[a,b]from Ra _ 2];refine hl k (by omega) _ _ ⟨names,.tup [a,b],n+1,rfl,okr_tup.mpr λy hy=>?_,?_⟩
         ·simp only[Ad,Yzm,or_false]at hy
          rcases hy with rfl|rfl
          ·exact hm _ (by simp)
          ·exact hm _ (by simp)
         ·rw[Ub]
          simp only[Eb,Ko,Gx,Yzk,Az];rw[show decide (0+1+1≤8)=true from rfl,Gx];exact q
        | b::d::r,q,_=>
         rw[show M6 names (.str s) a (b::d::r)=false from rfl]at q;rw[decide_eq_false (by simp only[Yzk];omega)];simp only[Yzg,if_false];exact q
       ·have rf:M6 names (.str s) a r=false:=by
         match r with
         | []=>rw[M6,K7,decide_eq_false hf,Fd]
         | [b]=>rw[M6,K7,decide_eq_false ht,Fd]
         | b::d::r=>rfl
        rw[rf]at q;rw[decide_eq_false ht];simp only[Yzg,if_false];exact q
    ·rw[e,Fd]at q
     simp only[e,Fx,if_true];rw[execs,exec];simp only[ev];exact q
  ·simp only[e,Fx,if_true]
   rw[execs,exec];simp only[ev];rw[Af9 e]at q;exact q
end
theorem ItemOf.le{names:List Nm}(hn:∀n∈names,NameOk n){s:Nm}(h:ItemOf names s):s.length≤9∧∀c∈s,c < 128:=by
 obtain⟨n,hm,ok,e,e0,hl,_⟩:=h.cases hn;refine⟨hl,?_⟩;obtain⟨m,hm2,rfl|rfl⟩:=h
 ·intro c hc
  have:=(hn s hm2).let_ c hc;omega
 ·intro c hc
  rcases Ad.mp hc with rfl|q
  ·decide
  ·have:=(hn m hm2).let_ c q
   omega
section
variable{T:List FDef}{G:Nat→Option Dat}{prim:Nat→Option (List Dat→(Dat→Prop)→Prop)}
def Rh(ds:List Dat)(Q:Dat→Prop):Prop:=∃items:List Nm,ds=[tS items]∧items.length≤1000∧Q (tS (M3 (items.map Fw)))
theorem Wr{f f1:Nat}(hT:T[f]? = some (Ms f1))(hp:prim f=none)(h1:Sp T G prim f1 2 Kv):Sp T G prim f 3 Rh:=
 .of_def hT hp λk hk ds Q ⟨items,e,hl,q⟩=>by
  subst e;refine⟨rfl,?_⟩;unfold Ms;rw[show Bp 2 [tS items]=[.val (tS items),.no]from rfl];rw[execs,exec];simp only[ev,evs,Du,Yza,Yzb];refine⟨items.map .str,rfl,by rw[Yzi];exact hl,?_⟩;refine Ks Dat.str (λs=>some (.str (Fw s))) items _ (λs hs Q' q'=>?_) ?_
  ·rw[Cz]
   simp only[Bb,Yze,Yzf,Bs,if_true,ev,evs,Du,Yza,Yzb,Dt,Bx,Yzc,Yzd];exact h1 k (by omega) _ _ ⟨s,rfl,_,rfl,q'⟩
  ·rw[Em]
   refine⟨items.map Fw,by rw[Dk];rfl,?_⟩;simp only[biW,Jl];exact q
end
theorem Wy(l:List Nm):((l.map Dat.str).mapIdx λi d=>Dat.tup [.int i,d])=l.zipIdx.map λq:Nm×Nat=>Dat.tup [.int q.2,.str q.1]:=by
 apply Lr
 intro i;rw[Ce,Af,Af,List.getElem?_zipIdx]
 cases l[i]? <;> simp
theorem Yh{l:List Nm}{q:Nm×Nat}(h:q∈l.zipIdx):q.1∈l∧q.2 < l.length:=by
 obtain⟨x,i⟩:=q;have h:=List.mem_zipIdx_iff_getElem?.mp h;exact⟨Ae h,(Ag.mp h).1⟩
def V4(c:List Nm)(a:Nm):Dat:=.tup [.str Af1,tS c,.str a]
def Pr(c:List Nm)(a b:Nm):Dat:=.tup [.str Af0,tS c,.str a,.str b]
def Im(l:List Nm):List Nm:=M3 (l.map Fw)
def K6(a b:List Nm):List Dat:=b.map (λs=>V4 (Im a) (Fw s))++a.zipIdx.flatMap λp=>b.zipIdx.map λq=>Pr (Im (a.take p.2++b.take q.2)) p.1 q.1
def Py(a b:List Nm):List Dat:=Df (Hk (K6 a b))
theorem Vo{a b:List Nm}{d:Dat}(h:d∈K6 a b):(∃c s,d=V4 c s∧(∀x∈c,∃y∈a,x=Fw y)∧c.length≤a.length∧(∃y∈b,s=Fw y)∧Asc c)∨∃c s t,d=Pr c s t∧(∀x∈c,∃y∈a++b,x=Fw y)∧c.length≤a.length+b.length∧s∈a∧t∈b∧Asc c:=by
 have asc:∀l:List Nm,Asc (Im l):=λl=>Abv (Ve _)
 have sub:∀{l:List Nm} {x:Nm},x∈Im l→∃y∈l,x=Fw y:=λ{l x} hx=>by
  obtain⟨y,hy,e⟩:=Ac.mp (mem_sortN.mp hx);exact⟨y,hy,e.symm⟩
 have le:∀l:List Nm,(Im l).length≤l.length:=λl=>by have:=Vb (l.map Fw);rw[Yzi]at this;exact this
 rcases Bl.mp h with h|h
 ·obtain⟨s,hs,rfl⟩:=Ac.mp h
  exact .inl ⟨_,_,rfl,λx hx=>sub hx,le a,⟨s,hs,rfl⟩,asc a⟩
 ·obtain⟨p,hp,h⟩:=Jr.mp h
  obtain⟨q,hq,rfl⟩:=Ac.mp h;refine .inr ⟨_,_,_,rfl,λx hx=>?_,?_,(Yh hp).1,(Yh hq).1,asc _⟩
  ·obtain⟨y,hy,e⟩:=sub hx
   refine⟨y,?_,e⟩
   rcases Bl.mp hy with hy|hy
   ·exact J5 _ (Ef hy)
   ·exact Cu _ (Ef hy)
  ·refine Bo (le _) ?_
   rw[Yzj,Br,Br];omega
theorem Rx(a b:List Nm):(K6 a b).length=b.length+a.length*b.length:=by
 have key:∀(l:List (Nm×Nat)),(l.flatMap λp=>b.zipIdx.map λq=>Pr (Im (a.take p.2++b.take q.2)) p.1 q.1).length=l.length*b.length:=λl=>by
  induction l with
  | nil=>simp
  | cons x l ih=>rw[Gi,Yzj,ih,Yzi,Ik,Yzk,Ay,Nat.add_comm]
 rw[K6,Yzj,Yzi,key,Ik]
theorem Ahp(l:List Nm):txk (tS l)=true:=by
 rw[tS,txk]
 induction l with
 | nil=>rfl
 | cons x l ih=>rw[Yzs,txks,ih,txk];rfl
theorem Agb(n:Nat)(l:List Nm):okks n (l.map .str)=true:=by
 induction l with
 | nil=>rfl
 | cons x l ih=>
  rw[Yzs,okks,ih]
  cases n<;>rfl
theorem Ajc(n:Nat)(l:List Nm):okk (n+1) (tS l)=true:=by rw[tS,okk];exact Agb n l
theorem Ako:∀a b:List Nm,Av (tS a) (tS b)=true:=by
 have key:∀a b:List Nm,alikeDs (a.map .str) (b.map .str)=true:=by
  intro a
  induction a with
  | nil=>intro b;cases b<;>rfl
  | cons x a ih=>
   intro b
   cases b with
   | nil=>rfl
   | cons y b=>rw[Yzs,Yzs,alikeDs,ih b];rfl
 intro a b;rw[tS,tS,Av];exact key a b
theorem Rw(a b:List Nm):Wx (K6 a b):=by
 have one:∀d∈K6 a b,(∃c s,d=V4 c s)∨∃c s t,d=Pr c s t:=λd hd=>by
  rcases Vo hd with⟨c,s,e,_⟩|⟨c,s,t,e,_⟩
  ·exact .inl ⟨c,s,e⟩
  ·exact .inr ⟨c,s,t,e⟩
 refine⟨λd hd=>?_,λx hx y hy=>?_⟩
 ·rcases one d hd with⟨c,s,rfl⟩|⟨c,s,t,rfl⟩
  ·exact⟨by simp[V4,okK,okks,okk,Ajc],by simp[V4,txk,txks,Ahp],rfl⟩
  ·exact⟨by simp[Pr,okK,okks,okk,Ajc],by simp[Pr,txk,txks,Ahp],rfl⟩
 ·rcases one x hx with⟨c,s,rfl⟩|⟨c,s,t,rfl⟩<;>rcases one y hy with⟨c',s',rfl⟩|⟨c',s',t',rfl⟩<;>simp[V4,Pr,Av,alikeDs,Ako]
section
variable{T:List FDef}{G:Nat→Option Dat}{prim:Nat→Option (List Dat→(Dat→Prop)→Prop)}
def Ae7(ds:List Dat)(Q:Dat→Prop):Prop:=∃a b:List Nm,ds=[.tup [tS a,tS b]]∧a.length≤8∧b.length≤8∧Q (.tup (Py a b))
theorem T8{k:Nat}(hpm:PM prim){a b:List Nm}(ha:a.length≤8)(hb:b.length≤8){e1:E}{t2:Dat}{tl:Env}{first:List Dat}(hf:first.length=b.length){D:Post}
  (he:∀(δ:Env) (i j:Nat) (x y:Nm) (Q:Dat→Prop),δ[1]? = some (.val (tS a))→δ[2]? = some (.val (tS b))→δ[5]? = some (.val (.int (i:Nat)))→δ[6]? = some (.val (.str x))→δ[7]? = some (.val (.int (j:Nat)))→δ[8]? = some (.val (.str y))→i≤a.length→j≤b.length→Q (Pr (Im (a.take i++b.take j)) x y)→ev (Bg T G prim k) G e1 .v δ Q)
  (hn:∀s5 s6 s7 s8:Slot,D.nx (.val t2 :: .val (tS a) :: .val (tS b) :: .no :: .own (.lst (first++a.zipIdx.flatMap λp=>b.zipIdx.map λq=>Pr (Im (a.take p.2++b.take q.2)) p.1 q.1))::s5::s6::s7::s8::tl)) :
  exec (Bg T G prim k) G (.for (.t [.v 5,.v 6]) (.enum (.var 1)) [.for (.t [.v 7,.v 8]) (.enum (.var 2)) [.app 4 e1]]) (.val t2 :: .val (tS a) :: .val (tS b) :: .no :: .own (.lst first) :: .no :: .no :: .no :: .no::tl) D:=by
 have bg:big=16777216:=rfl;have z8:∀l:List (Nm×Nat),(l.flatMap λp=>b.zipIdx.map λq=>Pr (Im (a.take p.2++b.take q.2)) p.1 q.1).length=l.length*b.length:=λl=>by
  induction l with
  | nil=>simp
  | cons x l ih=>rw[Gi,Yzj,ih,Yzi,Ik,Yzk,Ay,Nat.add_comm]
 rw[exec];simp only[ev,Du,Yza,Yzb];refine⟨a.map .str,.inr rfl,_,rfl,?_⟩;rw[Wy];refine X3 (λδ D D' h=>execs_mono (Dj hpm k) _ δ D D' h) (λq:Nm×Nat=>Dat.tup [.int q.2,.str q.1]) a.zipIdx (λdone rest δ=>∃s5 s6 s7 s8:Slot,δ = .val t2 :: .val (tS a) :: .val (tS b) :: .no :: .own (.lst (first++done.flatMap λp=>b.zipIdx.map λq=>Pr (Im (a.take p.2++b.take q.2)) p.1 q.1))::s5::s6::s7::s8::tl) _ ⟨_,_,_,_,by rw[List.flatMap_nil,Bu]⟩ ?_ ?_
 ·rintro done ⟨x,i⟩ rest δ' el ⟨s5,s6,s7,s8,rfl⟩
  have hx:=Yh (show(x,i)∈a.zipIdx by rw[el];simp);have dl:done.length≤8:=by
   have:=congrArg Dh el;rw[Ik,Yzj]at this;omega
  simp only[Cz,bindPs,Yze,Yzf];rw[execs,exec];simp only[ev,Du,Yza,Yzb];refine⟨b.map .str,.inr rfl,_,rfl,?_⟩;rw[Wy];have l0:(first++done.flatMap λp=>b.zipIdx.map λq=>Pr (Im (a.take p.2++b.take q.2)) p.1 q.1).length≤72:=by
   rw[Yzj,z8,hf];have:=Ld dl hb;omega
  generalize hp0:(first++done.flatMap λp=>b.zipIdx.map λq=>Pr (Im (a.take p.2++b.take q.2)) p.1 q.1)=p0 at *;refine X3 (λδ D D' h=>execs_mono (Dj hpm k) _ δ D D' h) (λq:Nm×Nat=>Dat.tup [.int q.2,.str q.1]) b.zipIdx (λd2 r2 δ=>∃s7 s8:Slot,δ = .val t2 :: .val (tS a) :: .val (tS b) :: .no :: .own (.lst (p0++d2.map λq=>Pr (Im (a.take i++b.take q.2)) x q.1)) :: .val (.int (i:Nat)) :: .val (.str x)::s7::s8::tl) _ ⟨_,_,by rw[Cy,Bu]⟩ ?_ ?_
  ·rintro d2 ⟨y,j⟩ r2 δ' el2 ⟨s7,s8,rfl⟩
   have hy:=Yh (show(y,j)∈b.zipIdx by rw[el2];simp);have dl2:d2.length≤8:=by
    have:=congrArg Dh el2;rw[Ik,Yzj]at this;omega
   simp only[Cz,bindPs,Yze,Yzf];rw[execs,exec];simp only[Dy,Yza,Yzb];have hx2:i≤a.length:=Nat.le_of_lt hx.2;have hy2:j≤b.length:=Nat.le_of_lt hy.2;refine⟨_,rfl,he _ i j x y _ rfl rfl rfl rfl rfl rfl hx2 hy2 ?_⟩;refine⟨by rw[Yzj,Yzi];omega,?_⟩;simp only[Yze,Yzf,execs];exact⟨_,_,by rw[Gg,Cm];rfl⟩
  ·rintro δ' ⟨s7',s8',rfl⟩
   simp only[execs];exact⟨_,_,_,_,by rw[List.flatMap_append,Gi,List.flatMap_nil,Bu,← Cm,hp0]⟩
 ·rintro δ' ⟨s5,s6,s7,s8,rfl⟩
  exact hn _ _ _ _
theorem Alu{k:Nat}{l:List Dat}(δ:Env)(h4:δ[4]? = some (.own (.lst l)))(hl:l.length≤76)(l9:9 < δ.length)(hm:Wx l){Q:Dat→Prop}(q:Q (.tup (Df (Hk l)))){D:Post}(hD:D.rt=λ_=>Q):execs (Bg T G prim k) G [.ret (.bi .tuple [.scompN [9] (.v 9) (.obs 4) (.bl true) (.var 9)])] δ D:=by
 rw[execs,exec];simp only[ev,evs,Dy,h4,Aja];refine⟨l,rfl,hl,?_⟩;have w9:∀d:Dat,((Bb δ [9]).set 9 (.val d))[9]? = some (.val d):=λd=>by
  rw[List.getElem?_set_self];simp only[Bb,Ec];exact l9
 rw[show l=l.map id from(Wn l).symm];refine Ks (f:=λd K=>Cz (.v 9) d (Bb δ [9]) λδ'=>Bs (.bl true) λk2=>if k2=true then ev (Bg T G prim k) G (.var 9) .v δ' λy=>(okK y=true∧txk y=true∧Gj y=true)∧K (some y)else K none) id (λd=>some d) l _ (λd hd Q' q'=>?_) ?_
 ·simp only[Cz,Bs,if_true,ev,Du,w9,id]
  exact⟨hm.1 d hd,q'⟩
 ·rw[List.filterMap_some]
  refine⟨hm.2,?_⟩;simp only[biW,Jl,hD];exact q
theorem Ah2{f fc fi gF gT:Nat}(hpm:PM prim)(hT:T[f]? = some (Qo fc fi gF gT))(hp:prim f=none)(hF:G gF=some (.str Af1))(hG:G gT=some (.str Af0))(hc:Sp T G prim fc 2 Kv)(hi:Sp T G prim fi 3 Rh):Sp T G prim f 4 Ae7:=
 .of_def hT hp λk hk ds Q ⟨a,b,e,ha,hb,q⟩=>by
  subst e;refine⟨rfl,?_⟩;unfold Qo;rw[show Bp 10 [.tup [tS a,tS b]]=[.val (.tup [tS a,tS b]),.no,.no,.no,.no,.no,.no,.no,.no,.no]from rfl];rw[execs,exec];simp only[ev,evs,Du,Dy,Yza,Yzb,Dt,Bx,Yzc,Yzd,Cz,bindPs,Yze,Yzf];rw[execs,exec];simp only[ev,evs,Du,Dy,Yza,Yzb,Dt,Bx,Yzc,Yzd];refine⟨b.map .str,rfl,?_⟩;refine Ks Dat.str (λs=>some (V4 (Im a) (Fw s))) b _ (λs hs Q' q'=>?_) ?_
  ·simp only[Cz,Bb,Yze,Yzf,Bs,if_true,ev,evs,Du,Dy,Yza,Yzb,Dt,Bx,Yzc,Yzd,hF]
   refine hi k (by omega) _ _ ⟨a,rfl,by omega,?_⟩;exact hc k (by omega) _ _ ⟨s,rfl,q'⟩
  rw[Em];refine⟨rfl,?_⟩;simp only[Yze,Yzf];rw[execs];refine T8 hpm ha hb (t2:=.tup [tS a,tS b]) (first:=b.map λs=>V4 (Im a) (Fw s)) (by rw[Yzi]) (λδ i j x y Q' d1 d2 d5 d6 d7 d8 hi' hj q'=>?_) λs5 s6 s7 s8=>?_
  ·have sl:∀(l:List Nm) (i:Nat),cut (l.map Dat.str) none (some (i:Int))=(l.take i).map .str:=λl i=>by
    rw[V7,Mw]
   simp only[ev,evs,Du,d1,d2,d5,d6,d7,d8,hG,tS,Hg,sl,Jm,Bx,Dt,Yzc,Yzd];refine⟨by simp only[Yzi,Br];have:big=16777216:=rfl;omega,?_⟩;rw[← Gg];exact hi k (by omega) _ _ ⟨a.take i++b.take j,rfl,by rw[Yzj,Br,Br];omega,q'⟩
  ·dsimp only
   refine Alu _ rfl ?_ ?_ (Rw a b) q rfl
   ·have:=Rx a b
    have h2:=Ld ha hb;show(K6 a b).length≤76
    omega
   ·exact(by decide:9 < 10)
end
theorem J9{l:List Dat}{i:Int}{d:Dat}{Q:Dat→Prop}(h:atD l i=some d)(q:Q d):Jx (.tup l) (.int i) Q:=by
 simp only[Jx];exact⟨d,h,q⟩
theorem Ajb{n:Nat}{l:List Nm}(h:∀s∈l,∀c∈s,c < 128):okr (n+1) (tS l):=by
 rw[tS,okr]
 induction l with
 | nil=>rw[Cy,okrs];trivial
 | cons s l ih=>
  rw[Yzs,okrs,okr];exact⟨h s (by simp),ih λz hz=>h z (by simp[hz])⟩
section
variable{T:List FDef}{G:Nat→Option Dat}{prim:Nat→Option (List Dat→(Dat→Prop)→Prop)}
def Yg(ds:List Dat)(Q:Dat→Prop):Prop:=∃(names l:List Nm),ds=[tS l]∧(∀n∈names,NameOk n)∧(∀s∈l,ItemOf names s)∧l.length≤1000∧Q (tS (Im l))
theorem Xi{names:List Nm}(nk:∀n∈names,NameOk n){s:Nm}(h:ItemOf names s){Q:Dat→Prop}(q:Q (.str (Fw s))):meW .replace (.str s) [.str [45],.str []] Q:=by
 obtain⟨n,hm,ok,ec,es,hl9,hcase⟩:=h.cases nk;have hb:big=16777216:=rfl;simp only[meW,N6];refine⟨⟨by simp,by simp only[Az,Nat.mul_zero];omega⟩,?_⟩;rw[show(s.flatMap λc=>if c=45 then []else [c])=Tw s from rfl,es,← ec];exact q
theorem Ack{f:Nat}(hT:T[f]? = some S9)(hp:prim f=none):Sp T G prim f 1 Yg:=
 .of_def hT hp λk hk ds Q ⟨names,l,e,nk,hl,len,q⟩=>by
  subst e;refine⟨rfl,?_⟩;unfold S9;rw[show Bp 2 [tS l]=[.val (tS l),.no]from rfl];rw[execs,exec];simp only[ev,evs,Du,Dy,Yza,Yzb,Dt,Bx,Yzc,Yzd];refine⟨l.map .str,rfl,?_⟩;refine Ks Dat.str (λs=>some (.str (Fw s))) l _ (λs hs Q' q'=>?_) ?_
  ·rw[Cz]
   simp only[Bb,Yze,Yzf,Bs,if_true,ev,evs,Du,Dy,Yza,Yzb,Dt,Bx,Yzc,Yzd];exact⟨rfl,Xi nk (hl s hs) q'⟩
  rw[Em];refine⟨l.map Fw,by rw[Dk];rfl,by rw[Yzi];exact len,?_⟩;simp only[biW,Jl];exact q
def Ae9(ds:List Dat)(Q:Dat→Prop):Prop:=∃names a b:List Nm,ds=[.tup [tS a,tS b]]∧(∀n∈names,NameOk n)∧(∀s∈a,ItemOf names s)∧(∀s∈b,ItemOf names s)∧a.length≤8∧b.length≤8∧Q (.tup (Py a b))
theorem Ah4{f fl:Nat}(hpm:PM prim)(hT:T[f]? = some (Zv fl))(hp:prim f=none)(hl:Sp T G prim fl 1 Yg):Sp T G prim f 2 Ae9:=
 .of_def hT hp λk hk ds Q ⟨names,a,b,e,nk,ia,ib,ha,hb,q⟩=>by
  subst e;refine⟨rfl,?_⟩;unfold Zv;rw[show Bp 9 [.tup [tS a,tS b]]=[.val (.tup [tS a,tS b]),.no,.no,.no,.no,.no,.no,.no,.no]from rfl];rw[execs,exec];simp only[ev,evs,Du,Dy,Yza,Yzb,Dt,Bx,Yzc,Yzd,Cz,bindPs,Yze,Yzf];rw[execs,exec];simp only[ev,evs,Du,Dy,Yza,Yzb,Dt,Bx,Yzc,Yzd];refine⟨b.map .str,rfl,?_⟩;refine Ks Dat.str (λs=>some (V4 (Im a) (Fw s))) b _ (λs hs Q' q'=>?_) ?_
  ·simp only[Cz,Bb,Yze,Yzf,Bs,if_true,ev,evs,Du,Dy,Yza,Yzb,Dt,Bx,Yzc,Yzd]
   refine hl k (by omega) _ _ ⟨names,a,rfl,nk,ia,by omega,?_⟩;exact⟨rfl,Xi nk (ib s hs) q'⟩
  rw[Em];refine⟨rfl,?_⟩;simp only[Yze,Yzf];rw[execs];refine T8 hpm ha hb (t2:=.tup [tS a,tS b]) (first:=b.map λs=>V4 (Im a) (Fw s)) (tl:=[]) (by rw[Yzi]) (λδ i j x y Q' d1 d2 d5 d6 d7 d8 hi' hj q'=>?_) λs5 s6 s7 s8=>?_
  ·have sl:∀(l:List Nm) (i:Nat),cut (l.map Dat.str) none (some (i:Int))=(l.take i).map .str:=λl i=>by
    rw[V7,Mw]
   simp only[ev,evs,Du,d1,d2,d5,d6,d7,d8,tS,Hg,sl,Jm,Bx,Dt,Yzc,Yzd];refine⟨by simp only[Yzi,Br];have:big=16777216:=rfl;omega,?_⟩;rw[← Gg];refine hl k (by omega) _ _ ⟨names,a.take i++b.take j,rfl,nk,λs hs=>?_,by rw[Yzj,Br,Br];omega,q'⟩
   rcases Bl.mp hs with hs|hs
   ·exact ia s (Ef hs)
   ·exact ib s (Ef hs)
  ·dsimp only
   rw[execs,exec];simp only[ev,evs,Du,Dy,Yza,Yzb,Dt,Bx,Yzc,Yzd];refine⟨_,rfl,?_,Rw a b,?_⟩
   ·have:=Rx a b
    have h2:=Ld ha hb;show(K6 a b).length≤76
    omega
   ·simp only[biW,Jl]
    exact q
theorem Lh{n w:Nat}{s:Nm}(h:∀c∈s,c < 128)(hw:10*s.length+2≤w):rpd n w (.str s):=by
 cases n<;>exact⟨h,hw⟩
theorem Ai8{names a b:List Nm}(nk:∀n∈names,NameOk n)(ia:∀s∈a,ItemOf names s)(ib:∀s∈b,ItemOf names s)(ha:a.length≤8)(hb:b.length≤8){d:Dat}(h:d∈K6 a b):rpd 58 10000 d∧okr 60 d∧Oe names d=true:=by
 have nm:∀s,s∈names→(∀c∈s,c < 128)∧s.length≤8:=λs hs=>⟨λc hc=>by have:=(nk s hs).let_ c hc;omega,(nk s hs).hi⟩
 have it:∀s,ItemOf names s→(∀c∈s,c < 128)∧s.length≤9∧Pk names (.str s)=true:=λs hs=>⟨(hs.le nk).2,(hs.le nk).1,by rw[Pk,decide_eq_true_eq];exact hs.col nk⟩
 have ctx:∀c:List Nm,(∀x∈c,x∈names)→c.length≤16→Asc c→rpd 57 2000 (tS c)∧okr 59 (tS c)∧Zk names (tS c)=true:=λc hc hl as=>by
  refine⟨Yz (v:=100) (λs hs=>⟨(nm s (hc s hs)).1,by have:=(nm s (hc s hs)).2;omega⟩) (by omega),Ajb (λs hs=>(nm s (hc s hs)).1),?_⟩;rw[tS,Zk,(Abu c).mpr as,Gx,Ai];intro x hx;obtain⟨s,hs,rfl⟩:=Ac.mp hx;rw[inB,decide_eq_true_eq];exact hc s hs
 rcases Vo h with⟨c,s,rfl,h1,h2,⟨y,hy,rfl⟩,as⟩|⟨c,s,t,rfl,h1,h2,hs,ht,as⟩
 ·have cn:∀x∈c,x∈names:=λx hx=>by obtain⟨z,hz,rfl⟩:=h1 x hx;exact(ia z hz).col nk
  obtain⟨c1,c2,c3⟩:=ctx c cn (by omega) as;have sn:=(ib y hy).col nk;obtain⟨n1,n2⟩:=nm _ sn;refine⟨⟨2000,λx hx=>?_,by simp⟩,⟨by simp[okr,Af1],c2,n1,trivial⟩,?_⟩
  ·simp only[Ad,Yzm,or_false]at hx
   rcases hx with rfl|rfl|rfl
   ·exact Lh (by simp[Af1]) (by simp[Af1])
   ·exact c1
   ·exact Lh n1 (by omega)
  ·rw[V4,Oe,c3,M6,inB,decide_eq_true sn,eqD]
   simp[Uj,Af1,Anl]
 ·have cn:∀x∈c,x∈names:=λx hx=>by
   obtain⟨z,hz,rfl⟩:=h1 x hx
   rcases Bl.mp hz with hz|hz
   ·exact(ia z hz).col nk
   ·exact(ib z hz).col nk
  obtain⟨c1,c2,c3⟩:=ctx c cn (by omega) as;obtain⟨s1,s2,s3⟩:=it s (ia s hs);obtain⟨t1,t2,t3⟩:=it t (ib t ht);refine⟨⟨2000,λx hx=>?_,by simp⟩,⟨by simp[okr,Af0],c2,s1,t1,trivial⟩,?_⟩
  ·simp only[Ad,Yzm,or_false]at hx
   rcases hx with rfl|rfl|rfl|rfl
   ·exact Lh (by simp[Af0]) (by simp[Af0])
   ·exact c1
   ·exact Lh s1 (by omega)
   ·exact Lh t1 (by omega)
  ·rw[Pr,Oe,c3,M6,s3,t3,eqD]
   simp[Uj,Af0,Ahs]
theorem Ac1{a b:List Nm}{d:Dat}(h:d∈Py a b):d∈K6 a b:=
 (Su _ (λd hd=>((Rw a b).1 d hd).2.1) d).mp ((Fo _ _).mem_iff.mp h)
theorem Ac2(a b:List Nm):(Py a b).length≤b.length+a.length*b.length:=by
 unfold Py Df;rw[Cv,← Rx];exact O9 _
theorem Acj{f fd fl fn fo ft fi fp:Nat}(hpm:PM prim)(hT:T[f]? = some (S8 fd fl fn fo ft fi fp))(hp:prim f=none)(hd:Sp T G prim fd 2 Ae9)(hli:Sp T G prim fl 3 Ab0)(hn:Sp T G prim fn 3 Ae8)(ho:Sp T G prim fo 2 An6)(ht:Sp T G prim ft 1 Nu)(hi:Sp T G prim fi 5 (W_2 Oe))(hpa:Sp T G prim fp 4 Ae7):Sp T G prim f 6 Ae6:=
 .of_def hT hp λk hk ds Q ⟨e,q⟩=>by
  subst e;have hb:big=16777216:=rfl;refine⟨rfl,?_⟩;unfold S8;rw[show Bp 7 [.pot]=[.val .pot,.no,.no,.no,.no,.no,.no]from rfl];rw[execs,exec];simp only[ev,evs,Du,Dy,Yza,Yzb,Dt,Bx,Yzc,Yzd,Jm];refine ht k (by omega) _ _ ⟨⟨by decide,Aq1 (by decide) (by decide)⟩,λr hr0 hr1=>?_⟩;obtain⟨m,rfl⟩:=Gp hr0;refine hn k (by omega) _ _ ⟨1+m,by simp,by omega,λnames nok=>?_⟩;have nk:=nok.each;have hlen:=nok.len;have hne:names≠[]:=λe=>by rw[e]at hlen;simp at hlen;omega
  have hns:∀s∈names,s.length≤1000:=λs hs=>by have:=(nk s hs).hi;omega
  have n8:names.length≤8:=by omega
  simp only[Yze,Yzf];rw[execs,exec];simp only[ev,Gz];refine⟨⟨by decide,by decide⟩,_,rfl,?_⟩;refine Agr (λδ D D' h=>execs_mono (Dj hpm k) _ δ D D' h) (λδ=>∃s2 s3 s4 s5 s6:Slot,δ=[.val .pot,.val (tS names),s2,s3,s4,s5,s6]) _ _ ⟨_,_,_,_,_,rfl⟩ ?_ ?_
  ·rintro z hz δ' ⟨s2,s3,s4,s5,s6,rfl⟩
   rw[Cz];simp only[Yze,Yzf];rw[execs,exec];simp only[ev,evs,Du,Dy,Yza,Yzb,Dt,Bx,Yzc,Yzd];refine hli k (by omega) _ _ ⟨names,8,rfl,hne,by omega,hns,by decide,λa0 al0 ak0=>?_⟩;refine hli k (by omega) _ _ ⟨names,8,rfl,hne,by omega,hns,by decide,λb0 bl0 bk0=>?_⟩;simp only[Yze,Yzf];rw[execs,exec];simp only[ev,evs,Du,Dy,Yza,Yzb,Dt,Bx,Yzc,Yzd];refine J9 (i:=1) rfl (J9 (i:=0) rfl (J9 (i:=0) rfl (J9 (i:=0) rfl (J9 (i:=0) rfl ?_))));simp only[tS,Hg];refine J9 (i:=1) rfl ?_;simp only[Hg];refine ho k (by omega) _ _ ⟨_,_,rfl,rfl,by simp,by simp only[Yzk,Az];omega,λd hdr=>?_⟩;obtain⟨a,b,ed,ia,ib,ha,hb8⟩:∃a b:List Nm,d = .tup [tS a,tS b]∧(∀s∈a,ItemOf names s)∧(∀s∈b,ItemOf names s)∧a.length≤8∧b.length≤8:=by
    have c2:∀l:List Nm,cut (l.map Dat.str) none (some 2)=(l.take 2).map .str:=λl=>by
     rw[show(2:Int)=((2:Nat):Int)from rfl,V7,Mw]
    rw[c2,c2]at hdr;simp only[Ad,Yzm,or_false]at hdr;have no:∀s∈([]:List Nm),ItemOf names s:=λs hs=>nomatch hs
    have t2:∀{l:List Nm},(∀s∈l,ItemOf names s)→∀s∈l.take 2,ItemOf names s:=λh s hs=>h s (Ef hs)
    rcases hdr with rfl|rfl|rfl|rfl|rfl|rfl
    ·exact⟨a0,b0,rfl,ak0,bk0,al0,bl0⟩
    ·exact⟨a0,b0,rfl,ak0,bk0,al0,bl0⟩
    ·exact⟨[],b0,rfl,no,bk0,by simp,bl0⟩
    ·exact⟨a0,[],rfl,ak0,no,al0,by simp⟩
    ·exact⟨a0,a0,rfl,ak0,ak0,al0,al0⟩
    ·exact⟨a0.take 2,b0.take 2,rfl,t2 ak0,t2 bk0,by rw[Br];omega,by rw[Br];omega⟩
   subst ed;simp only[Yze,Yzf];have pr:=λd hd=>Ai8 nk ia ib ha hb8 (Ac1 (a:=a) (b:=b) (d:=d) hd)
   have pl:=Ac2 a b;have p72:(Py a b).length≤72:=by
    have:=Ld ha hb8;omega
   generalize hps:Py a b=ps at *;have tl:∀l:List Nm,l.length≤8→(∀s∈l,ItemOf names s)→rpd 59 1000 (tS l):=λl hl h=>Yz (v:=100) (λs hs=>⟨((h s hs).le nk).2,by have:=((h s hs).le nk).1;omega⟩) (by omega)
   have rp1:rpd 60 big (.tup [tS a,tS b]):=⟨1000,λx hx=>by
    simp only[Ad,Yzm,or_false]at hx
    rcases hx with rfl|rfl
    ·exact tl a ha ia
    ·exact tl b hb8 ib,by simp only[Yzk,Az];omega⟩
   have rp2:rpd 60 big (.lst [.tup ps,.tup ps]):=⟨1000000,λx hx=>by
    simp only[Ad,Yzm,or_false,or_self]at hx;subst hx;exact⟨10000,λy hy=>(pr y hy).1,by omega⟩,by simp only[Yzk,Az];omega⟩
   rw[execs,exec];simp only[ev,evs,Du,Dy,Yza,Yzb,Dt,Bx,Yzc,Yzd];refine hd k (by omega) _ _ ⟨names,a,b,rfl,nk,ia,ib,ha,hb8,?_⟩;rw[hps];simp only[biW,Aan];refine⟨rp1,rfl,?_⟩;simp only[Kz,Iw,Jp,Ep,Bh,Yze,Yzf,Yzg,if_false,if_true];rw[execs,exec];simp only[ev,evs,Du,Dy,Yza,Yzb,Dt,Bx,Yzc,Yzd];refine hpa k (by omega) _ _ ⟨a,b,rfl,ha,hb8,?_⟩;refine hpa k (by omega) _ _ ⟨a,b,rfl,ha,hb8,?_⟩;rw[hps];simp only[biW,Aan,Ij];refine⟨rp2,rp2,O3 _ _,O3 _ _,?_⟩;rw[show ∀x:List Nat,eqD (.str x) (.str x)=true from λx=>by rw[eqD];simp];simp only[Cq,Bs,Yzg,if_false];refine⟨rp1,O3 _ _,O3 _ _,?_⟩;rw[show ∀x:List Nat,eqD (.str x) (.str x)=true from λx=>by rw[eqD];simp];simp only[Cq,Bs,Yzg,if_false];rw[execs];dsimp only;rw[execs,exec];simp only[ev,evs,Du,Dy,Yza,Yzb,Dt,Bx,Yzc,Yzd,biW,Zu];refine⟨ps,rfl,?_⟩;rw[show ps=ps.map id from(Wn ps).symm];refine Ks id (λ_=>some (.bl true)) ps _ (λd hd Q' q'=>?_) ?_
   ·rw[Cz]
    simp only[id,Bb,Yze,Yzf,Bs,if_true,ev,evs,Du,Dy,Yza,Yzb,Dt,Bx,Yzc,Yzd];refine hi k (by omega) _ _ ⟨names,d,60,rfl,(pr d hd).2.1,?_⟩;rw[(pr d hd).2.2];exact q'
   rw[Em];refine⟨ps.map λ_=>true,by rw[Dk];rfl,?_⟩;rw[show(ps.map λ_=>true).all id=true from by rw[Ai];intro x hx;obtain⟨_,_,rfl⟩:=Ac.mp hx;rfl];simp only[Bs,Cq,Yzg,if_false];rw[execs];dsimp only;rw[execs];exact⟨_,_,_,_,_,rfl⟩
  ·rintro δ' ⟨s2,s3,s4,s5,s6,rfl⟩
   dsimp only;rw[execs,exec];simp only[ev];exact q
end
end SF
set_option maxHeartbeats 0
namespace SF.K14
open PySem SF
theorem law_plain:∀(adr:Nat→Nat) (ns:List Int),ns.length≤63→execs (Bg (js.map (·.di.d)) (gOf mj adr) (Jd 8 9) 40) (gOf mj adr) Xj33.di.d.body (Bp Xj33.di.d.nn [.scr ns]) { nx:=λ_=>False,rt:=λ_ d=>d = .bl true }:=λadr ns hns=>by
 have hpm:PM (Jd 8 9):=Px 8 9;have s8:Sp T (G adr) prim 8 1 Aas:=.of_prim rfl;have s13:=Ack (T:=T) (G:=G adr) (prim:=prim) (f:=13) rfl rfl;have s14:=Ah4 (T:=T) (G:=G adr) (prim:=prim) (f:=14) hpm rfl rfl s13;have s9:Sp T (G adr) prim 9 1 Nu:=.of_prim rfl;have s10:=Ar3 (T:=T) (G:=G adr) (prim:=prim) (f:=10) rfl rfl s9;have s12:=Afn (T:=T) (G:=G adr) (prim:=prim) (f:=12) hpm rfl rfl s9 s10;have s11:=Ah3 (T:=T) (G:=G adr) (prim:=prim) (f:=11) hpm rfl rfl s9 s10;have s6:=Wq (T:=T) (G:=G adr) (prim:=prim) (f:=6) rfl rfl;have s0:=Wo (T:=T) (G:=G adr) (prim:=prim) (f:=0) rfl rfl rfl;have s1:=Yt (T:=T) (G:=G adr) (prim:=prim) (f:=1) rfl rfl s0;have s2:=Aad (T:=T) (G:=G adr) (prim:=prim) (f:=2) rfl rfl s1;have s3:=Acm (T:=T) (G:=G adr) (prim:=prim) (f:=3) rfl rfl rfl s2;have s7:=Acl (T:=T) (G:=G adr) (prim:=prim) (f:=7) rfl rfl rfl rfl rfl rfl s6 s3;have s4:=Wr (T:=T) (G:=G adr) (prim:=prim) (f:=4) rfl rfl s1;have s5:=Ah2 (T:=T) (G:=G adr) (prim:=prim) (f:=5) hpm rfl rfl rfl rfl s1 s4;have s15:=Acj (T:=T) (G:=G adr) (prim:=prim) (f:=15) hpm rfl rfl s14 s12 s11 s10 s9 s7 s5;exact Agp (by decide) (by decide) s8 s15 (by decide) (by decide) ns
end SF.K14
open PySem PySem.W PySem.Calls PyProof.Rows SF
theorem PySem.Challenge.cw_sortfollow_k14_parts_of_rules_holds : PySem.Challenge.rw_sortfollow_k14_parts_of_rules.Holds := by
 w_on
 refine SF.K14.k_law ?_;refine HandSHeadRun.head_any (r:=OpenLaw.row PySem.Challenge.rw_sortfollow_k14_parts_of_rules) (q:=view (OpenLaw.row PySem.Challenge.rw_sortfollow_k14_parts_of_rules).prog [25]) (H:=SF.K14.hk) (ob:=SF.K14.ob) (M:=6000) (loose:=SF.K14.loose) (d:=HandSHeadRun.topDef (OpenLaw.row PySem.Challenge.rw_sortfollow_k14_parts_of_rules).prog 25) (kwd:=[]) SF.K14.ob_eq
  (by kernel_rfl) (λs=>by kernel_rfl) SF.K14.run (by kernel_rfl) (by kernel_rfl) (by kernel_rfl) (by rfl) SF.K14.k_said SF.K14.k_ok SF.K14.k_bare ?hw ?hc
 case hw=>w_witness2
 case hc=>
  exact SF.walk_tab (l:=PySem.Challenge.rw_sortfollow_k14_parts_of_rules) (x := "_law_script") SF.K14.tab 40 4 rfl (by kernel_rfl) (by kernel_rfl) rfl rfl (by kernel_rfl) (λkV doc pm an cdv ct u=>rfl) SF.K14.law_plain
